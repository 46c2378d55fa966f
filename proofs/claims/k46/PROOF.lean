import PyProof.Rows.All
import Wide.All
import OpenK.AllK
import Wide.FinOn
import HandS.ForMost
import HandS.ForExc
import HandS.Wide
import HandS.IsInst
import HandS.Style
import HandS.ExcIs
import HandS.EndBits
import HandS.Comp
import HandS.Text
import HandS.Iter
import HandS.Dict
import HandS.Small
import HandS.Conv
import HandS.TupLen
import KE.KEqDict
import KE.SortData
import KE.SortKeyHeap
import HandS.More
import HandS.Walk
import HandS.SortKw
import HandS.Keys
import HandS.Replace
import KE.DataCmp
import HandS.RevTup
import HandS.Rev
import PyProof.ListRange
import PyProof.StrBlock2
import HandS.Codes
import PySem.Challenge.RW_linesaid_k46_renamed
set_option Elab.async false
set_option linter.all false
set_option maxRecDepth 100000
set_option maxHeartbeats 4000000
/-! A value semantics over the hand layer: data as trees, locals as slots, ownership of what may change. -/
namespace DX
open PySem PySem.Spec L2
open PyProof.Rows hiding St

/-- a class of the module, its instances' fields in the order in which they are made -/
structure ObT where
  cls : Str
  fields : List Str
  deriving DecidableEq
/-- plain data -/
inductive D where
  | non | bl (b : Bool) | int (i : Int) | str (s : Str)
  | tup (xs : List D) | lst (xs : List D)
  | dK (kvs : List (Key × D)) | dT (kvs : List (List Key × D))
  /-- the law's script -/
  | scr (ns : List Int)
  /-- an object of the module's class c; a tuple, a list with owned parts; an owned part -/
  | ob (t : ObT) (ds : List D) | dt (xs : List D) | dl (xs : List D) | ow (d : D)

instance : Inhabited D := ⟨.non⟩

/-- a tuple laid down, or (a constant of the module) one with a number in it -/
def TupK (F : Hp) (a : Addr) (vs : List V) (xs : List D) : Prop := F a = some (.tup vs) ∨ ∃ n : Int, D.int n ∈ xs
theorem TupK.mono {F F' : Hp} {a : Addr} {vs : List V} {xs : List D} (e : ∀ b o, F b = some o → F' b = some o) (h : TupK F a vs xs) : TupK F' a vs xs := h.imp (e a _) id
section rep
variable (K : PySem.W.Frag)
/-- v stands for d, all of it in the part F of the heap that doesn't change any more -/
inductive Rep (F : Hp) : V → D → Prop
  | non : Rep F .non .non
  | bl (b : Bool) : Rep F (.bl b) (.bl b)
  | int (i : Int) : Rep F (.int i) (.int i)
  | str (s : Str) : Rep F (.str s) (.str s)
  | tup {a : Addr} {vs : List V} {xs : List D} (h : SqT K F a vs) (hk : TupK F a vs xs) (hl : vs.length = xs.length)
      (hi : ∀ (i : Nat) (v : V) (x : D), vs[i]? = some v → xs[i]? = some x → Rep F v x) : Rep F (.ref a) (.tup xs)
  | scr {a : Addr} {ns : List Int} (h : SqL K F a (ns.map V.int)) : Rep F (.ref a) (.scr ns)
  | lst {a : Addr} {vs : List V} {xs : List D} (h : Rd F a (.lst vs)) (hl : vs.length = xs.length)
      (hi : ∀ (i : Nat) (v : V) (x : D), vs[i]? = some v → xs[i]? = some x → Rep F v x) : Rep F (.ref a) (.lst xs)
  | dK {a : Addr} {kvs : List (Key × V)} {ds : List (Key × D)} (h : ∃ o, F a = some (.frz o (.dK kvs))) (hl : kvs.map (·.1) = ds.map (·.1))
      (hi : ∀ (i : Nat) (v : Key × V) (x : Key × D), kvs[i]? = some v → ds[i]? = some x → Rep F v.2 x.2) : Rep F (.ref a) (.dK ds)
  | dT {a : Addr} {kvs : List (List Key × V)} {ds : List (List Key × D)} (h : ∃ o, F a = some (.frz o (.dT kvs))) (hl : kvs.map (·.1) = ds.map (·.1))
      (hi : ∀ (i : Nat) (v : List Key × V) (x : List Key × D), kvs[i]? = some v → ds[i]? = some x → Rep F v.2 x.2) : Rep F (.ref a) (.dT ds)
def Reps (F : Hp) (vs : List V) (xs : List D) : Prop := vs.length = xs.length ∧ ∀ (i : Nat) (v : V) (x : D), vs[i]? = some v → xs[i]? = some x → Rep K F v x
def RepKs {κ : Type} (F : Hp) (vs : List (κ × V)) (xs : List (κ × D)) : Prop := vs.map (·.1) = xs.map (·.1) ∧ ∀ (i : Nat) (v : κ × V) (x : κ × D), vs[i]? = some v → xs[i]? = some x → Rep K F v.2 x.2
/-- the same, the topmost object in H -/
inductive RepH (H F : Hp) : V → D → Prop
  | non : RepH H F .non .non
  | bl (b : Bool) : RepH H F (.bl b) (.bl b)
  | int (i : Int) : RepH H F (.int i) (.int i)
  | str (s : Str) : RepH H F (.str s) (.str s)
  | tup {a : Addr} {vs : List V} {xs : List D} (h : SqT K H a vs) (hk : TupK H a vs xs) (hi : Reps K F vs xs) : RepH H F (.ref a) (.tup xs)
  | scr {a : Addr} {ns : List Int} (h : SqL K H a (ns.map V.int)) : RepH H F (.ref a) (.scr ns)
  | lst {a : Addr} {vs : List V} {xs : List D} (h : Rd H a (.lst vs)) (hi : Reps K F vs xs) : RepH H F (.ref a) (.lst xs)
  | dK {a : Addr} {kvs : List (Key × V)} {ds : List (Key × D)} (h : Rd H a (.dK kvs)) (hi : RepKs K F kvs ds) : RepH H F (.ref a) (.dK ds)
  | dT {a : Addr} {kvs : List (List Key × V)} {ds : List (List Key × D)} (h : Rd H a (.dT kvs)) (hi : RepKs K F kvs ds) : RepH H F (.ref a) (.dT ds)
/-- owned: the topmost object (and each part marked so) is tracked in H, at L, and nobody else has it; parts (true) are frozen or marked -/
inductive RepX (H F : Hp) : Bool → V → D → List Addr → Prop
  | lst {a : Addr} {vs : List V} {xs : List D} (h : H a = some (.lst vs)) (hi : Reps K F vs xs) : RepX H F false (.ref a) (.lst xs) [a]
  | dK {a : Addr} {kvs : List (Key × V)} {ds : List (Key × D)} (h : H a = some (.dK kvs)) (hi : RepKs K F kvs ds) : RepX H F false (.ref a) (.dK ds) [a]
  | dT {a : Addr} {kvs : List (List Key × V)} {ds : List (List Key × D)} (h : H a = some (.dT kvs)) (hi : RepKs K F kvs ds) : RepX H F false (.ref a) (.dT ds) [a]
  | ob {a dx C : Addr} {t : ObT} {vs : List (Str × V)} {ds : List D} {Ls : List (List Addr)} (h : H a = some (.ins C dx vs)) (hd : H dx = some (.own a)) (hc : PySem.W.nsIn K mainGlobals t.cls = some (some (.ref C)))
      (hn : vs.map (·.1) = t.fields.take ds.length) (hk : vs.length = ds.length) (hl : Ls.length = vs.length) (hi : ∀ (i : Nat) (v : Str × V) (x : D) (Li : List Addr), vs[i]? = some v → ds[i]? = some x → Ls[i]? = some Li → RepX H F true v.2 x Li) : RepX H F false (.ref a) (.ob t ds) (a :: dx :: Ls.flatten)
  | dt {a : Addr} {vs : List V} {xs : List D} {Ls : List (List Addr)} (h : F a = some (.tup vs)) (hk : vs.length = xs.length) (hl : Ls.length = vs.length)
      (hi : ∀ (i : Nat) (v : V) (x : D) (Li : List Addr), vs[i]? = some v → xs[i]? = some x → Ls[i]? = some Li → RepX H F true v x Li) : RepX H F false (.ref a) (.dt xs) Ls.flatten
  | dl {a : Addr} {vs : List V} {xs : List D} {Ls : List (List Addr)} (h : H a = some (.lst vs)) (hk : vs.length = xs.length) (hl : Ls.length = vs.length)
      (hi : ∀ (i : Nat) (v : V) (x : D) (Li : List Addr), vs[i]? = some v → xs[i]? = some x → Ls[i]? = some Li → RepX H F true v x Li) : RepX H F false (.ref a) (.dl xs) (a :: Ls.flatten)
  | pf {v : V} {d : D} (h : Rep K F v d) : RepX H F true v d []
  | po {v : V} {d : D} {L : List Addr} (h : RepX H F false v d L) : RepX H F true v (.ow d) L
abbrev RepO (H F : Hp) : V → D → List Addr → Prop := RepX K H F false
/-- what is read at once: nothing with owned parts -/
def rdFl : D → Option D
  | .ob _ _ => none | .dt _ => none | .dl _ => none | .ow _ => none
  | .non => some .non | .bl b => some (.bl b) | .int i => some (.int i) | .str s => some (.str s) | .tup xs => some (.tup xs) | .lst xs => some (.lst xs) | .dK k => some (.dK k) | .dT k => some (.dT k) | .scr ns => some (.scr ns)
end rep

section
variable {K : PySem.W.Frag} {H H' F F' G : Hp} {v : V} {d : D} {L : List Addr}
theorem Rd.mono {a : Addr} {u : HO} (e : Same H H') (h : Rd H a u) : Rd H' a u := by
  rcases h with h | ⟨o, h⟩
  · exact .inl (e _ _ h)
  · exact .inr ⟨o, e _ _ h⟩
theorem SqT.mono {a : Addr} {xs : List V} (e : Same H H') (h : SqT K H a xs) : SqT K H' a xs := by
  rcases h with h | h
  · exact .inl (Rd.mono e h)
  · exact .inr h
theorem SqL.mono {a : Addr} {xs : List V} (e : Same H H') (h : SqL K H a xs) : SqL K H' a xs := by
  rcases h with h | h
  · exact .inl (Rd.mono e h)
  · exact .inr h
theorem Rep.mono (e : Same F F') (h : Rep K F v d) : Rep K F' v d := by
  induction h with
  | non => exact .non
  | bl b => exact .bl b
  | int i => exact .int i
  | str s => exact .str s
  | tup h hk hl hi ih => exact .tup (SqT.mono e h) (hk.mono e) hl ih
  | scr h => exact .scr (SqL.mono e h)
  | lst h hl hi ih => exact .lst (Rd.mono e h) hl ih
  | dK h hl hi ih => exact .dK (h.imp fun o q => e _ _ q) hl ih
  | dT h hl hi ih => exact .dT (h.imp fun o q => e _ _ q) hl ih
theorem Reps.mono {vs : List V} {xs : List D} (e : Same F F') (h : Reps K F vs xs) : Reps K F' vs xs := ⟨h.1, fun i v x a b => (h.2 i v x a b).mono e⟩
theorem RepKs.mono {κ : Type} {vs : List (κ × V)} {xs : List (κ × D)} (e : Same F F') (h : RepKs K F vs xs) : RepKs K F' vs xs := ⟨h.1, fun i v x a b => (h.2 i v x a b).mono e⟩
theorem Rep.toH (e : Same F H) (h : Rep K F v d) : RepH K H F v d := by
  cases h with
  | non => exact .non
  | bl b => exact .bl b
  | int i => exact .int i
  | str s => exact .str s
  | tup h hk hl hi => exact .tup (SqT.mono e h) (hk.mono e) ⟨hl, hi⟩
  | scr h => exact .scr (SqL.mono e h)
  | lst h hl hi => exact .lst (Rd.mono e h) ⟨hl, hi⟩
  | dK h hl hi => exact .dK (.inr (h.imp fun o q => e _ _ q)) ⟨hl, hi⟩
  | dT h hl hi => exact .dT (.inr (h.imp fun o q => e _ _ q)) ⟨hl, hi⟩
theorem RepH.mono (e : Same H H') (e2 : Same F F') (h : RepH K H F v d) : RepH K H' F' v d := by
  cases h with
  | non => exact .non
  | bl b => exact .bl b
  | int i => exact .int i
  | str s => exact .str s
  | tup h hk hi => exact .tup (SqT.mono e h) (hk.mono e) (hi.mono e2)
  | scr h => exact .scr (SqL.mono e h)
  | lst h hi => exact .lst (Rd.mono e h) (hi.mono e2)
  | dK h hi => exact .dK (Rd.mono e h) (hi.mono e2)
  | dT h hi => exact .dT (Rd.mono e h) (hi.mono e2)
theorem rdFl_eq {d d' : D} (h : rdFl d = some d') : d' = d := by cases d <;> cases h <;> rfl
theorem RepO.toH (h : RepO K H F v d L) {d' : D} (e : rdFl d = some d') : RepH K H F v d' := by
  have := rdFl_eq e
  subst this
  cases h with
  | lst h hi => exact .lst (.inl h) hi
  | dK h hi => exact .dK (.inl h) hi
  | dT h hi => exact .dT (.inl h) hi
  | ob => cases e
  | dt => cases e
  | dl => cases e
theorem mem_at {L : List Addr} {Ls : List (List Addr)} {i : Nat} {a : Addr} (h : Ls[i]? = some L) (ha : a ∈ L) : a ∈ Ls.flatten := List.mem_flatten.2 ⟨L, List.mem_of_getElem? h, ha⟩
theorem RepX.keep {b : Bool} (h : RepX K H F b v d L) : (∀ a ∈ L, H' a = H a) → Same F F' → RepX K H' F' b v d L := by
  induction h with
  | lst h hi => exact fun e e2 => .lst ((e _ List.mem_cons_self).trans h) (hi.mono e2)
  | dK h hi => exact fun e e2 => .dK ((e _ List.mem_cons_self).trans h) (hi.mono e2)
  | dT h hi => exact fun e e2 => .dT ((e _ List.mem_cons_self).trans h) (hi.mono e2)
  | ob h hd hc hn hk hl hi ih => exact fun e e2 => .ob ((e _ List.mem_cons_self).trans h) ((e _ (by simp)).trans hd) hc hn hk hl fun i v x Li a b c => ih i v x Li a b c (fun z hz => e z (List.mem_cons_of_mem _ (List.mem_cons_of_mem _ (mem_at c hz)))) e2
  | dt h hk hl hi ih => exact fun e e2 => .dt (e2 _ _ h) hk hl fun i v x Li a b c => ih i v x Li a b c (fun z hz => e z (mem_at c hz)) e2
  | dl h hk hl hi ih => exact fun e e2 => .dl ((e _ List.mem_cons_self).trans h) hk hl fun i v x Li a b c => ih i v x Li a b c (fun z hz => e z (List.mem_cons_of_mem _ (mem_at c hz))) e2
  | pf h => exact fun e e2 => .pf (h.mono e2)
  | po h ih => exact fun e e2 => .po (ih e e2)
theorem RepO.keep (e : ∀ a ∈ L, H' a = H a) (e2 : Same F F') (h : RepO K H F v d L) : RepO K H' F' v d L := RepX.keep h e e2
/-- an object that isn't a tuple -/
def NT (o : HO) : Prop := ∀ vs, o ≠ .tup vs
theorem RepX.there {b : Bool} (h : RepX K H F b v d L) : ∀ a ∈ L, ∃ o, H a = some o ∧ NT o := by
  have fl : ∀ {Ls : List (List Addr)} {n : Nat} {p : Nat → List Addr → Prop}, Ls.length = n → (∀ i Li, i < n → Ls[i]? = some Li → ∀ a ∈ Li, ∃ o, H a = some o ∧ NT o) → ∀ a ∈ Ls.flatten, ∃ o, H a = some o ∧ NT o := by
    intro Ls n p hl h a ha
    obtain ⟨Li, hm, ha⟩ := List.mem_flatten.1 ha
    obtain ⟨i, hi⟩ := List.getElem?_of_mem hm
    exact h i Li (by rw [← hl]; exact (List.getElem?_eq_some_iff.1 hi).1) hi a ha
  induction h with
  | lst h hi => intro a ha; obtain rfl := List.mem_singleton.mp ha; exact ⟨_, h, fun _ z => by cases z⟩
  | dK h hi => intro a ha; obtain rfl := List.mem_singleton.mp ha; exact ⟨_, h, fun _ z => by cases z⟩
  | dT h hi => intro a ha; obtain rfl := List.mem_singleton.mp ha; exact ⟨_, h, fun _ z => by cases z⟩
  | @ob _ _ _ _ vs fs Ls h hd hc hn hk hl hi ih =>
    intro a ha
    rcases List.mem_cons.1 ha with rfl | ha
    · exact ⟨_, h, fun _ z => by cases z⟩
    rcases List.mem_cons.1 ha with rfl | ha
    · exact ⟨_, hd, fun _ z => by cases z⟩
    refine fl (p := fun _ _ => True) hl (fun i Li hn e => ?_) a ha
    have hf : i < fs.length := by omega
    exact ih i vs[i] fs[i] Li (List.getElem?_eq_getElem hn) (List.getElem?_eq_getElem hf) e
  | @dt _ vs xs Ls h hk hl hi ih =>
    intro a ha
    refine fl (p := fun _ _ => True) hl (fun i Li hn e => ?_) a ha
    exact ih i vs[i] (xs[i]'(by omega)) Li (List.getElem?_eq_getElem hn) (List.getElem?_eq_getElem _) e
  | @dl _ vs xs Ls h hk hl hi ih =>
    intro a ha
    rcases List.mem_cons.1 ha with rfl | ha
    · exact ⟨_, h, fun _ z => by cases z⟩
    refine fl (p := fun _ _ => True) hl (fun i Li hn e => ?_) a ha
    exact ih i vs[i] (xs[i]'(by omega)) Li (List.getElem?_eq_getElem hn) (List.getElem?_eq_getElem _) e
  | pf h => intro a ha; cases ha
  | po h ih => exact ih
theorem RepO.there (h : RepO K H F v d L) : ∀ a ∈ L, ∃ o, H a = some o ∧ NT o := RepX.there h
/-- what may be laid down for good just so: no dict, nothing with owned parts -/
def frzD : D → Option D
  | .dK _ => none | .dT _ => none | .ob _ _ => none | .dt _ => none | .dl _ => none | .ow _ => none
  | .non => some .non | .bl b => some (.bl b) | .int i => some (.int i) | .str s => some (.str s) | .tup xs => some (.tup xs) | .lst xs => some (.lst xs) | .scr ns => some (.scr ns)
theorem frzD_eq {d d' : D} (h : frzD d = some d') : d' = d := by cases d <;> cases h <;> rfl
/-- what was laid down since: not at what stays, but for tuples -/
def NewF (G F F' : Hp) : Prop := ∀ a, F' a ≠ none → F a ≠ none ∨ G a = none ∨ ∃ vs, G a = some (.tup vs)
theorem NewF.refl {G F : Hp} : NewF G F F := fun _ h => .inl h
theorem NewF.trans {G F F' F'' : Hp} (a : NewF G F F') (b : NewF G F' F'') : NewF G F F'' := fun x h => (b x h).elim (a x) .inr
theorem NewF.less {G G' F F' : Hp} (e : Same G G') (h : NewF G' F F') : NewF G F F' := fun a q => (h a q).imp id fun z => by
  cases g : G a with
  | none => exact .inl rfl
  | some o =>
    have := e _ _ g
    rcases z with z | ⟨vs, z⟩
    · rw [this] at z; cases z
    · rw [this] at z; cases z; exact .inr ⟨vs, rfl⟩
/-- an owned place is not laid down by others -/
theorem NewF.out {G F F' : Hp} (h : NewF G F F') {a : Addr} {o : HO} (ha : G a = some o) (nt : NT o) (hF : F a = none) : F' a = none := by
  cases q : F' a with
  | none => rfl
  | some u =>
    rcases h a (by rw [q]; simp) with z | z | ⟨vs, z⟩
    · exact absurd hF z
    · rw [ha] at z; cases z
    · rw [ha] at z; cases z; exact absurd rfl (nt vs)
/-- what is owned is laid down for good -/
theorem RepO.freeze (e : Same F H) (hd : frzD d = some d) (h : RepO K H F v d L) (hn : ∀ a ∈ L, F a = none) : ∃ F', Same F F' ∧ Same F' H ∧ (∀ a, F' a ≠ none → F a ≠ none ∨ a ∈ L) ∧ Rep K F' v d := by
  have core : ∀ {a : Addr} {o : HO}, H a = some o → F a = none → Same F (upd F a o) ∧ Same (upd F a o) H ∧ (∀ b, (upd F a o) b ≠ none → F b ≠ none ∨ b ∈ [a]) := fun {a o} h n => by
    refine ⟨fun b u q => ?_, fun b u q => ?_, fun b q => ?_⟩
    · rw [upd_ne (ne_of_none q n)]; exact q
    · by_cases hb : b = a
      · subst hb; rw [upd_same] at q; cases q; exact h
      · rw [upd_ne hb] at q; exact e _ _ q
    · by_cases hb : b = a
      · exact .inr (by simp [hb])
      · rw [upd_ne hb] at q; exact .inl q
  cases h with
  | lst h hi =>
    obtain ⟨c1, c2, c3⟩ := core h (hn _ List.mem_cons_self)
    have hi' := hi.mono c1
    exact ⟨_, c1, c2, c3, .lst (.inl upd_same) hi'.1 hi'.2⟩
  | dK h hi => cases hd
  | dT h hi => cases hd
  | ob => cases hd
  | dt => cases hd
  | dl => cases hd
end

section
variable (K : PySem.W.Frag)
/-- what is read in a part R of the heap that stays for the time being -/
def RepR (R F : Hp) (v : V) (d : D) : Prop := RepH K R F v d ∨ ∃ L, RepO K R F v d L
end
section
variable {K : PySem.W.Frag} {H H' R R' F F' : Hp} {v : V} {d : D} {L : List Addr}
theorem RepX.mono {b : Bool} (h : RepX K H F b v d L) (e : Same H H') (e2 : Same F F') : RepX K H' F' b v d L := h.keep (fun a ha => by
  obtain ⟨o, q, _⟩ := h.there a ha
  rw [q]; exact e _ _ q) e2
theorem RepR.mono (e : Same R R') (e2 : Same F F') (h : RepR K R F v d) : RepR K R' F' v d := h.imp (fun h => h.mono e e2) fun ⟨L, h⟩ => ⟨L, RepX.mono h e e2⟩
theorem RepR.toR (e : Same R H) (h : RepR K R F v d) {d' : D} (q : rdFl d = some d') : RepH K H F v d' := by
  rcases h with h | ⟨L, h⟩
  · have := rdFl_eq q
    subst this
    exact h.mono e (fun _ _ q => q)
  · exact RepO.toH (RepX.mono h e (fun _ _ q => q)) q
end

/-! ### slots -/
inductive Mode where
  | fz | ow | io | rd
  deriving DecidableEq
inductive Slot where
  | un
  | pin
  | v (m : Mode) (d : D)
instance : Inhabited Slot := ⟨.un⟩
abbrev DEnv := List Slot

/-- the frame's values against the slots: P what the parameters were at the entry (io: pinned), G what stays, L what is owned -/
inductive EnvR (K : PySem.W.Frag) (R H F : Hp) : List (Option V) → St → DEnv → List Addr → Prop
  | nil {P : List (Option V)} : EnvR K R H F P [] [] []
  | un {P : List (Option V)} {o : Option V} {σ : St} {env : DEnv} {L : List Addr} (t : EnvR K R H F P.tail σ env L) : EnvR K R H F P (o :: σ) (.un :: env) L
  | pin {P : List (Option V)} {v : V} {σ : St} {env : DEnv} {L : List Addr} (p : P.head? = some (some v)) (t : EnvR K R H F P.tail σ env L) : EnvR K R H F P (some v :: σ) (.pin :: env) L
  | fz {P : List (Option V)} {v : V} {d : D} {σ : St} {env : DEnv} {L : List Addr} (r : Rep K F v d) (t : EnvR K R H F P.tail σ env L) : EnvR K R H F P (some v :: σ) (.v .fz d :: env) L
  | rd {P : List (Option V)} {v : V} {d : D} {σ : St} {env : DEnv} {L : List Addr} (r : RepR K R F v d) (t : EnvR K R H F P.tail σ env L) : EnvR K R H F P (some v :: σ) (.v .rd d :: env) L
  | ow {P : List (Option V)} {v : V} {d : D} {σ : St} {env : DEnv} {L1 L : List Addr} (r : RepO K H F v d L1) (t : EnvR K R H F P.tail σ env L) : EnvR K R H F P (some v :: σ) (.v .ow d :: env) (L1 ++ L)
  | io {P : List (Option V)} {v : V} {d : D} {σ : St} {env : DEnv} {L1 L : List Addr} (p : P.head? = some (some v)) (r : RepO K H F v d L1) (t : EnvR K R H F P.tail σ env L) : EnvR K R H F P (some v :: σ) (.v .io d :: env) (L1 ++ L)

section
variable {K : PySem.W.Frag} {R H H' F F' : Hp} {P : List (Option V)} {σ : St} {env : DEnv} {L : List Addr} {v : V} {d : D} {i : Nat}
theorem EnvR.len (h : EnvR K R H F P σ env L) : σ.length = env.length := by
  induction h with
  | nil => rfl
  | _ => simp_all
theorem EnvR.get (gh : Same R H) (fh : Same F H) (h : EnvR K R H F P σ env L) : ∀ {i : Nat} {m : Mode} {d : D}, env[i]? = some (.v m d) → ∃ v, σ[i]? = some (some v) ∧ ∀ d', rdFl d = some d' → RepH K H F v d' := by
  have nx : ∀ {σ : St} {env : DEnv} {o : Option V} {s : Slot}, (∀ {i : Nat} {m : Mode} {d : D}, env[i]? = some (.v m d) → ∃ v, σ[i]? = some (some v) ∧ ∀ d', rdFl d = some d' → RepH K H F v d') → ∀ {i : Nat} {m : Mode} {d : D}, (s :: env)[i + 1]? = some (.v m d) → ∃ v, (o :: σ)[i + 1]? = some (some v) ∧ ∀ d', rdFl d = some d' → RepH K H F v d' := fun {σ env o s} ih {i m d} e => ih (by simpa using e)
  induction h with
  | nil => intro i m d e; simp at e
  | un t ih => intro i m d e; cases i with
    | zero => simp at e
    | succ i => exact nx ih e
  | pin p t ih => intro i m d e; cases i with
    | zero => simp at e
    | succ i => exact nx ih e
  | fz r t ih => intro i m d e; cases i with
    | zero => simp at e; obtain ⟨_, rfl⟩ := e; exact ⟨_, rfl, fun d' q => by have := rdFl_eq q; subst this; exact r.toH fh⟩
    | succ i => exact nx ih e
  | rd r t ih => intro i m d e; cases i with
    | zero => simp at e; obtain ⟨_, rfl⟩ := e; exact ⟨_, rfl, fun d' q => r.toR gh q⟩
    | succ i => exact nx ih e
  | ow r t ih => intro i m d e; cases i with
    | zero => simp at e; obtain ⟨_, rfl⟩ := e; exact ⟨_, rfl, fun d' q => r.toH q⟩
    | succ i => exact nx ih e
  | io p r t ih => intro i m d e; cases i with
    | zero => simp at e; obtain ⟨_, rfl⟩ := e; exact ⟨_, rfl, fun d' q => r.toH q⟩
    | succ i => exact nx ih e
theorem EnvR.getFz (h : EnvR K R H F P σ env L) : ∀ {i : Nat} {d : D}, env[i]? = some (.v .fz d) → ∃ v, σ[i]? = some (some v) ∧ Rep K F v d := by
  induction h with
  | nil => intro i d e; simp at e
  | un t ih => intro i d e; cases i with
    | zero => simp at e
    | succ i => exact ih (by simpa using e)
  | pin p t ih => intro i d e; cases i with
    | zero => simp at e
    | succ i => exact ih (by simpa using e)
  | fz r t ih => intro i d e; cases i with
    | zero => simp at e; subst e; exact ⟨_, rfl, r⟩
    | succ i => exact ih (by simpa using e)
  | rd r t ih => intro i d e; cases i with
    | zero => simp at e
    | succ i => exact ih (by simpa using e)
  | ow r t ih => intro i d e; cases i with
    | zero => simp at e
    | succ i => exact ih (by simpa using e)
  | io p r t ih => intro i d e; cases i with
    | zero => simp at e
    | succ i => exact ih (by simpa using e)
/-- the heap has changed, but not at what is owned -/
theorem EnvR.keep (fh : Same F F') (h : EnvR K R H F P σ env L) (e : ∀ a ∈ L, H' a = H a) : EnvR K R H' F' P σ env L := by
  induction h with
  | nil => exact .nil
  | @un _ o _ _ _ t ih => exact .un (o := o) (ih e)
  | pin p t ih => exact .pin p (ih e)
  | fz r t ih => exact .fz (r.mono fh) (ih e)
  | rd r t ih => exact .rd (r.mono (Same.refl R) fh) (ih e)
  | ow r t ih => exact .ow (r.keep (fun a ha => e a (List.mem_append_left _ ha)) fh) (ih fun a ha => e a (List.mem_append_right _ ha))
  | io p r t ih => exact .io p (r.keep (fun a ha => e a (List.mem_append_left _ ha)) fh) (ih fun a ha => e a (List.mem_append_right _ ha))
theorem EnvR.sub (h : EnvR K R H F P σ env L) : ∀ a ∈ L, ∃ o, H a = some o ∧ NT o := by
  induction h with
  | nil => intro a ha; cases ha
  | un t ih => exact ih
  | pin p t ih => exact ih
  | fz r t ih => exact ih
  | rd r t ih => exact ih
  | ow r t ih => intro a ha; exact (List.mem_append.mp ha).elim (r.there a) (ih a)
  | io p r t ih => intro a ha; exact (List.mem_append.mp ha).elim (r.there a) (ih a)
/-- a slot is stored anew -/
theorem EnvR.set {s : Slot} {Lr : List Addr} {o : Option V} (h : EnvR K R H F P σ env L)
    (hs : ∀ (P' : List (Option V)) (σ' : St) (env' : DEnv) (L' : List Addr), EnvR K R H F P'.tail σ' env' L' → EnvR K R H F P' (o :: σ') (s :: env') (Lr ++ L')) :
    ∀ {i : Nat}, i < env.length → ∃ L', EnvR K R H F P (σ.set i o) (env.set i s) L' ∧ (∀ a ∈ L', a ∈ Lr ∨ a ∈ L) ∧ ((Lr ++ L).Nodup → L'.Nodup) := by
  induction h with
  | nil => intro i hi; simp at hi
  | un t ih => intro i hi; cases i with
    | zero => exact ⟨_, hs _ _ _ _ t, fun a ha => List.mem_append.mp ha, fun n => n⟩
    | succ i =>
      obtain ⟨L', e, m, n⟩ := ih (i := i) (by simpa using hi)
      exact ⟨L', .un e, m, n⟩
  | pin p t ih => intro i hi; cases i with
    | zero => exact ⟨_, hs _ _ _ _ t, fun a ha => List.mem_append.mp ha, fun n => n⟩
    | succ i =>
      obtain ⟨L', e, m, n⟩ := ih (i := i) (by simpa using hi)
      exact ⟨L', .pin p e, m, n⟩
  | fz r t ih => intro i hi; cases i with
    | zero => exact ⟨_, hs _ _ _ _ t, fun a ha => List.mem_append.mp ha, fun n => n⟩
    | succ i =>
      obtain ⟨L', e, m, n⟩ := ih (i := i) (by simpa using hi)
      exact ⟨L', .fz r e, m, n⟩
  | rd r t ih => intro i hi; cases i with
    | zero => exact ⟨_, hs _ _ _ _ t, fun a ha => List.mem_append.mp ha, fun n => n⟩
    | succ i =>
      obtain ⟨L', e, m, n⟩ := ih (i := i) (by simpa using hi)
      exact ⟨L', .rd r e, m, n⟩
  | @ow _ _ _ _ _ L1 L r t ih => intro i hi; cases i with
    | zero =>
      refine ⟨_, hs _ _ _ _ t, fun a ha => (List.mem_append.mp ha).imp id fun q => List.mem_append_right _ q, fun n => ?_⟩
      exact List.Nodup.sublist (List.Sublist.append (List.Sublist.refl _) (List.sublist_append_right L1 L)) n
    | succ i =>
      obtain ⟨L', e, m, n⟩ := ih (i := i) (by simpa using hi)
      refine ⟨L1 ++ L', .ow r e, fun a ha => ?_, fun nn => ?_⟩
      · rcases List.mem_append.mp ha with q | q
        · exact .inr (List.mem_append_left _ q)
        · exact (m a q).imp id fun z => List.mem_append_right _ z
      · rw [List.nodup_append] at nn ⊢
        obtain ⟨n1, n2, n3⟩ := nn
        rw [List.nodup_append] at n2
        refine ⟨n2.1, n ?_, fun a ha b hb => ?_⟩
        · rw [List.nodup_append]
          exact ⟨n1, n2.2.1, fun a ha b hb => n3 a ha b (List.mem_append_right _ hb)⟩
        · rcases m b hb with q | q
          · exact fun z => n3 b q a (List.mem_append_left _ ha) z.symm
          · exact n2.2.2 a ha b q
  | @io _ _ _ _ _ L1 L p r t ih => intro i hi; cases i with
    | zero =>
      refine ⟨_, hs _ _ _ _ t, fun a ha => (List.mem_append.mp ha).imp id fun q => List.mem_append_right _ q, fun n => ?_⟩
      exact List.Nodup.sublist (List.Sublist.append (List.Sublist.refl _) (List.sublist_append_right L1 L)) n
    | succ i =>
      obtain ⟨L', e, m, n⟩ := ih (i := i) (by simpa using hi)
      refine ⟨L1 ++ L', .io p r e, fun a ha => ?_, fun nn => ?_⟩
      · rcases List.mem_append.mp ha with q | q
        · exact .inr (List.mem_append_left _ q)
        · exact (m a q).imp id fun z => List.mem_append_right _ z
      · rw [List.nodup_append] at nn ⊢
        obtain ⟨n1, n2, n3⟩ := nn
        rw [List.nodup_append] at n2
        refine ⟨n2.1, n ?_, fun a ha b hb => ?_⟩
        · rw [List.nodup_append]
          exact ⟨n1, n2.2.1, fun a ha b hb => n3 a ha b (List.mem_append_right _ hb)⟩
        · rcases m b hb with q | q
          · exact fun z => n3 b q a (List.mem_append_left _ ha) z.symm
          · exact n2.2.2 a ha b q
end

/-! ### the frame -/
structure FI (K : PySem.W.Frag) (R : Hp) (P : List (Option V)) (G H F : Hp) (σ : St) (env : DEnv) (L : List Addr) : Prop where
  fh : Same F H
  gh : Same G H
  rg : Same R G
  er : EnvR K R H F P σ env L
  nd : L.Nodup
  fr : ∀ a ∈ L, F a = none ∧ G a = none
inductive Val where
  | fz (d : D) | tmp (d : D) | br (i : Nat)
def RepVal (K : PySem.W.Frag) (H F : Hp) (σ : St) (v : V) : Val → List Addr → Prop
  | .fz d, L => L = [] ∧ Rep K F v d
  | .tmp d, L => RepO K H F v d L
  | .br i, L => L = [] ∧ σ[i]? = some (some v)
inductive ER where
  | ok (v : Val) (env : DEnv) | raise (c : Str) (env : DEnv) | err
def ER.bind (r : ER) (f : Val → DEnv → ER) : ER := match r with
  | .ok v env => f v env
  | .raise c env => .raise c env
  | .err => .err
inductive AR where
  | ok (vs : List Val) (env : DEnv) | raise (c : Str) (env : DEnv) | err
inductive FR where
  | next (env : DEnv) | ret (v : Val) (env : DEnv) | brk (env : DEnv) | cnt (env : DEnv) | raise (c : Str) (env : DEnv) | err
def ER.thn (r : ER) (f : Val → DEnv → FR) : FR := match r with
  | .ok v env => f v env
  | .raise c env => .raise c env
  | .err => .err
def AR.bind (r : AR) (f : List Val → DEnv → ER) : ER := match r with
  | .ok v env => f v env
  | .raise c env => .raise c env
  | .err => .err
def AR.thn (r : AR) (f : List Val → DEnv → FR) : FR := match r with
  | .ok v env => f v env
  | .raise c env => .raise c env
  | .err => .err
def FR.bind (r : FR) (f : DEnv → FR) : FR := match r with
  | .next env => f env
  | .ret v env => .ret v env
  | .brk env => .brk env
  | .cnt env => .cnt env
  | .raise c env => .raise c env
  | .err => .err

/-- a value that is handed over to be read -/
def rdA (env : DEnv) : Val → Option D
  | .fz d => some d
  | .tmp d => some d
  | .br i => match env[i]? with
    | some (.v _ d) => some d
    | _ => none
/-- a value that is read -/
def rdV (env : DEnv) : Val → Option D
  | .fz d => some d
  | .tmp d => rdFl d
  | .br i => match env[i]? with
    | some (.v _ d) => rdFl d
    | _ => none

section
variable (X : Cx) (W : WX) (R : Hp) (P : List (Option V)) (G : Hp)
def PRaise (F : Hp) (σ : St) (c : Str) (env : DEnv) : Prop := ∀ (C : Addr) (H' F' : Hp) (L' : List Addr), X.mg c = some (.ref C) → FI X.K R P G H' F' σ env L' → Same F F' → NewF G F F' → W (.ref C) none σ H'
def POk (F : Hp) (σ : St) (rv : Val) (env : DEnv) (Q : VK) : Prop := ∀ (v : V) (H' F' : Hp) (L' Lr : List Addr), FI X.K R P G H' F' σ env L' → Same F F' → NewF G F F' → RepVal X.K H' F' σ v rv Lr → (Lr ++ L').Nodup → (∀ a ∈ Lr, F' a = none ∧ G a = none) → Q v H'
def PostV (F : Hp) (σ : St) (r : ER) (Q : VK) : Prop := match r with
  | .ok rv env => POk X R P G F σ rv env Q
  | .raise c env => PRaise X W R P G F σ c env
  | .err => False
end
/-- canonical readings -/
def tW (X : Cx) (e : Expr) : TE := fun σ H Q => ∀ (pins : List (Addr × Obj)) (s : Shared), Inv X pins σ H s → wpAny (model X.prog X.w) X.A (eval e X.env) (EP X pins σ Q) X.xe s
theorem pe_w {X : Cx} {e : Expr} : PE X e (tW X e) := ⟨fun pins s σ H Q I h => h pins s I⟩
theorem w_of {X : Cx} {e : Expr} {t : TE} {σ : St} {H : Hp} {Q : VK} (h : PE X e t) (q : t σ H Q) : tW X e σ H Q := fun pins s I => h.run pins s σ H Q I q
theorem tW_mono {X : Cx} {e : Expr} {σ : St} {H : Hp} {Q Q' : VK} (h : tW X e σ H Q) (q : ∀ v H', Q v H' → Q' v H') : tW X e σ H Q' := fun pins s I =>
  thn (h pins s I) fun _ _ ⟨v, H', I', r, z⟩ => ⟨v, H', I', r, q v H' z⟩
def tWt (X : Cx) (e : Expr) : TT := fun σ H Q => ∀ (pins : List (Addr × Obj)) (s : Shared), Inv X pins σ H s → wpAny (model X.prog X.w) X.A (isTrue e X.env (eval e X.env)) (TP X pins σ Q) X.xe s
theorem pt_w {X : Cx} {e : Expr} : PT X e (tWt X e) := ⟨fun pins s σ H Q I h => h pins s I⟩
theorem wt_of {X : Cx} {e : Expr} {t : TT} {σ : St} {H : Hp} {Q : Bool → Hp → Prop} (h : PT X e t) (q : t σ H Q) : tWt X e σ H Q := fun pins s I => h.run pins s σ H Q I q
def tWs (X : Cx) (st : Stmt) : TS := fun D σ H => ∀ (pins : List (Addr × Obj)) (s : Shared), Inv X pins σ H s → wpAny (model X.prog X.w) X.A (exec st X.env) (SP X pins D) X.xe s
theorem ps_w {X : Cx} {st : Stmt} : PS X st (tWs X st) := ⟨fun pins s σ H D I h => h pins s I⟩
theorem ws_of {X : Cx} {e : Stmt} {t : TS} {σ : St} {H : Hp} {D : Ends} (h : PS X e t) (q : t D σ H) : tWs X e D σ H := fun pins s I => h.run pins s σ H D I q
def tWss (X : Cx) (sts : List Stmt) : TS := fun D σ H => ∀ (pins : List (Addr × Obj)) (s : Shared), Inv X pins σ H s → wpAny (model X.prog X.w) X.A (execs sts X.env) (SP X pins D) X.xe s
theorem pss_w {X : Cx} {sts : List Stmt} : PSs X sts (tWss X sts) := ⟨fun pins s σ H D I h => h pins s I⟩
theorem wss_of {X : Cx} {e : List Stmt} {t : TS} {σ : St} {H : Hp} {D : Ends} (h : PSs X e t) (q : t D σ H) : tWss X e D σ H := fun pins s I => h.run pins s σ H D I q
def tWa (X : Cx) : List Expr → TA
  | [] => tNil
  | e :: es => tCons (tW X e) (tWa X es)

theorem tWa_mono {X : Cx} {σ : St} : ∀ {es : List Expr} {H : Hp} {k k' : List V → Hp → Prop}, tWa X es σ H k → (∀ vs H', k vs H' → k' vs H') → tWa X es σ H k'
  | [], H, k, k', h, q => q _ _ h
  | e :: es, H, k, k', h, q => tW_mono (e := e) (Q := fun x H1 => tWa X es σ H1 fun xs H2 => k (x :: xs) H2) h fun x H1 h1 => tWa_mono h1 fun vs H' z => q _ _ z
/-- an expression computes m -/
def ME (X : Cx) (W : WX) (R : Hp) (P : List (Option V)) (e : Expr) (m : DEnv → ER) : Prop :=
  ∀ (G H F : Hp) (σ : St) (env : DEnv) (L : List Addr) (Q : VK), FI X.K R P G H F σ env L → PostV X W R P G F σ (m env) Q → tW X e σ H Q

section
variable {X : Cx} {W : WX} {R G G' : Hp} {P : List (Option V)} {H H' F F' : Hp} {σ : St} {env : DEnv} {L : List Addr} {Q : VK}
theorem PostV.later {r : ER} (e : Same F F') (n : NewF G F F') (h : PostV X W R P G F σ r Q) : PostV X W R P G F' σ r Q := by
  cases r with
  | ok rv env => exact fun v H' F'' L' Lr I s n' r nd fr => h v H' F'' L' Lr I (e.trans s) (n.trans n') r nd fr
  | raise c env => exact fun C H' F'' L' g I s n' => h C H' F'' L' g I (e.trans s) (n.trans n')
  | err => exact h
theorem PRaise.later {c : Str} {env : DEnv} (e : Same F F') (n : NewF G F F') (h : PRaise X W R P G F σ c env) : PRaise X W R P G F' σ c env :=
  fun C H' F'' L' g I s n' => h C H' F'' L' g I (e.trans s) (n.trans n')
/-- only new objects -/
theorem FI.ext (I : FI X.K R P G H F σ env L) (hh : Same H H') (ff : Same F F') (fh : Same F' H') (nw : NewF H F F') : FI X.K R P G H' F' σ env L := by
  have st := I.er.sub
  refine ⟨fh, I.gh.trans hh, I.rg, I.er.keep ff (fun a ha => ?_), I.nd, fun a ha => ⟨?_, (I.fr a ha).2⟩⟩
  · obtain ⟨o, e, _⟩ := st a ha
    rw [e]; exact hh _ _ e
  · obtain ⟨o, e, nt⟩ := st a ha
    exact nw.out e nt (I.fr a ha).1
theorem FI.newF (I : FI X.K R P G H F σ env L) (nw : NewF H F F') : NewF G F F' := nw.less I.gh
/-- more stays -/
theorem FI.more (I : FI X.K R P G H F σ env L) (gg : Same G G') (gh : Same G' H) (n : ∀ a ∈ L, G' a = none) : FI X.K R P G' H F σ env L :=
  ⟨I.fh, gh, I.rg.trans gg, I.er, I.nd, fun a ha => ⟨(I.fr a ha).1, n a ha⟩⟩
/-- less stays -/
theorem FI.less (I : FI X.K R P G' H F σ env L) (gg : Same G G') (rg : Same R G) : FI X.K R P G H F σ env L :=
  ⟨I.fh, gg.trans I.gh, rg, I.er, I.nd, fun a ha => ⟨(I.fr a ha).1, gg.free (I.fr a ha).2⟩⟩
end
end DX

namespace DX
open PySem PySem.Spec L2
open PyProof.Rows hiding St

section
variable {X : Cx} {W : WX} {R G G' : Hp} {P : List (Option V)} {H H' F F' : Hp} {σ : St} {env : DEnv} {L Lr : List Addr} {Q : VK} {v : V} {rv : Val}

theorem RepVal.there (h : RepVal X.K H F σ v rv Lr) : ∀ a ∈ Lr, ∃ o, H a = some o ∧ NT o := by
  cases rv with
  | fz d => obtain ⟨rfl, _⟩ := h; intro a ha; cases ha
  | tmp d => exact RepO.there h
  | br i => obtain ⟨rfl, _⟩ := h; intro a ha; cases ha
theorem RepVal.keep (h : RepVal X.K H F σ v rv Lr) (ff : Same F F') (e : ∀ a ∈ Lr, H' a = H a) : RepVal X.K H' F' σ v rv Lr := by
  cases rv with
  | fz d => exact ⟨h.1, h.2.mono ff⟩
  | tmp d => exact RepO.keep e ff h
  | br i => exact h
/-- what is held stays, too -/
def addG (G H : Hp) (L : List Addr) : Hp := fun a => if a ∈ L then H a else G a
theorem addG_in {G H : Hp} {L : List Addr} {a : Addr} (h : a ∈ L) : addG G H L a = H a := if_pos h
theorem addG_out {G H : Hp} {L : List Addr} {a : Addr} (h : a ∉ L) : addG G H L a = G a := if_neg h
theorem addG_same {G H : Hp} {L : List Addr} (fr : ∀ a ∈ L, G a = none) : Same G (addG G H L) := fun b o e => by
  rw [addG_out fun z => by rw [fr b z] at e; cases e]; exact e
theorem FI.held (I : FI X.K R P G H F σ env L) (dj : (Lr ++ L).Nodup) (fr : ∀ a ∈ Lr, F a = none ∧ G a = none) : FI X.K R P (addG G H Lr) H F σ env L := by
  refine I.more (addG_same fun a h => (fr a h).2) (fun b o e => ?_) fun a ha => ?_
  · by_cases hb : b ∈ Lr
    · rw [addG_in hb] at e; exact e
    · rw [addG_out hb] at e; exact I.gh _ _ e
  · rw [addG_out fun z => (List.nodup_append.mp dj).2.2 a z a ha rfl]
    exact (I.fr a ha).2
/-- behind a further evaluation -/
theorem held_back {env' : DEnv} {L' : List Addr} (I : FI X.K R P G H F σ env L) (h : RepVal X.K H F σ v rv Lr) (fr : ∀ a ∈ Lr, F a = none ∧ G a = none)
    (I' : FI X.K R P (addG G H Lr) H' F' σ env' L') (ff : Same F F') (nw : NewF (addG G H Lr) F F') :
    FI X.K R P G H' F' σ env' L' ∧ NewF G F F' ∧ RepVal X.K H' F' σ v rv Lr ∧ (Lr.Nodup → (Lr ++ L').Nodup) ∧ (∀ a ∈ Lr, F' a = none ∧ G a = none) ∧ (∀ a ∈ Lr, addG G H Lr a ≠ none) := by
  have gg : Same G (addG G H Lr) := addG_same fun a q => (fr a q).2
  have nn : ∀ a ∈ Lr, addG G H Lr a ≠ none := fun a ha => by
    rw [addG_in ha]; obtain ⟨o, e, _⟩ := h.there a ha; rw [e]; simp
  refine ⟨I'.less gg I.rg, nw.less gg, h.keep ff fun a ha => ?_, fun nd => ?_, fun a ha => ⟨?_, (fr a ha).2⟩, nn⟩
  · obtain ⟨o, e, _⟩ := h.there a ha
    rw [e]; exact I'.gh _ _ ((addG_in ha).trans e)
  · refine List.nodup_append.mpr ⟨nd, I'.nd, fun a ha b hb z => ?_⟩
    subst z
    exact nn a ha (I'.fr a hb).2
  · obtain ⟨o, e, nt⟩ := h.there a ha
    exact nw.out ((addG_in ha).trans e) nt (fr a ha).1

/-! ### argument lists -/
inductive HeldR (K : PySem.W.Frag) (H F : Hp) (σ : St) : List V → List Val → List Addr → Prop
  | nil : HeldR K H F σ [] [] []
  | cons {v : V} {rv : Val} {L1 : List Addr} {vs : List V} {rvs : List Val} {L : List Addr} (h : RepVal K H F σ v rv L1) (t : HeldR K H F σ vs rvs L) : HeldR K H F σ (v :: vs) (rv :: rvs) (L1 ++ L)
def mArgs : List (DEnv → ER) → DEnv → AR
  | [], env => .ok [] env
  | m :: ms, env => match m env with
    | .ok v env1 => match mArgs ms env1 with
      | .ok vs env2 => .ok (v :: vs) env2
      | .raise c e => .raise c e
      | .err => .err
    | .raise c e => .raise c e
    | .err => .err
inductive MEs (X : Cx) (W : WX) (R : Hp) (P : List (Option V)) : List Expr → List (DEnv → ER) → Prop
  | nil : MEs X W R P [] []
  | cons {e : Expr} {m : DEnv → ER} {es : List Expr} {ms : List (DEnv → ER)} (h : ME X W R P e m) (t : MEs X W R P es ms) : MEs X W R P (e :: es) (m :: ms)
def AOk (X : Cx) (R : Hp) (P : List (Option V)) (G F : Hp) (σ : St) (rvs : List Val) (env : DEnv) (k : List V → Hp → Prop) : Prop :=
  ∀ (vs : List V) (H' F' : Hp) (L' Lr : List Addr), FI X.K R P G H' F' σ env L' → Same F F' → NewF G F F' → HeldR X.K H' F' σ vs rvs Lr → (Lr ++ L').Nodup → (∀ a ∈ Lr, F' a = none ∧ G a = none) → k vs H'
def PostA (X : Cx) (W : WX) (R : Hp) (P : List (Option V)) (G F : Hp) (σ : St) (r : AR) (k : List V → Hp → Prop) : Prop := match r with
  | .ok rvs env => AOk X R P G F σ rvs env k
  | .raise c env => PRaise X W R P G F σ c env
  | .err => False
theorem PRaise.less {c : Str} {env : DEnv} (gg : Same G G') (rg : Same R G) (h : PRaise X W R P G F σ c env) : PRaise X W R P G' F σ c env :=
  fun C H' F' L' g I s n => h C H' F' L' g (I.less gg rg) s (n.less gg)
theorem run_args : ∀ {es : List Expr} {ms : List (DEnv → ER)}, MEs X W R P es ms → ∀ {G H F : Hp} {env : DEnv} {L : List Addr} {k : List V → Hp → Prop},
    FI X.K R P G H F σ env L → PostA X W R P G F σ (mArgs ms env) k → tWa X es σ H k := by
  intro es ms hm
  induction hm with
  | nil =>
    intro G H F env L k I h
    exact h [] H F L [] I (Same.refl F) NewF.refl .nil (by simpa using I.nd) (fun a z => nomatch z)
  | @cons e m es ms hm ht ih =>
    intro G H F env L k I h
    show tW X e σ H fun x H1 => tWa X es σ H1 fun xs H2 => k (x :: xs) H2
    refine hm G H F σ env L _ I ?_
    unfold mArgs at h
    cases em : m env with
    | err => rw [em] at h; exact h
    | raise c env' => rw [em] at h; exact h
    | ok rv env1 =>
      rw [em] at h
      intro v H1 F1 L1 Lr I1 s1 n1 r1 nd1 fr1
      have ndr : Lr.Nodup := (List.nodup_append.mp nd1).1
      refine ih (I1.held nd1 fr1) ?_
      dsimp only at h
      cases ea : mArgs ms env1 with
      | err => rw [ea] at h; exact h
      | raise c env' =>
        rw [ea] at h
        exact PRaise.less (addG_same fun a q => (fr1 a q).2) I1.rg (PRaise.later s1 n1 h)
      | ok rvs env2 =>
        rw [ea] at h
        intro vs H2 F2 L2 Ls I2 s2 n2 hs nd2 fr2
        obtain ⟨J, n', rk, nk, frk, nn⟩ := held_back I1 r1 fr1 I2 s2 n2
        have dj : ∀ a ∈ Lr, ∀ b ∈ Ls, a ≠ b := fun a ha b hb z => by
          subst z
          exact nn a ha (fr2 a hb).2
        refine h (v :: vs) H2 F2 L2 (Lr ++ Ls) J (s1.trans s2) (n1.trans n') (.cons rk hs) ?_ fun a ha => ?_
        · rw [List.append_assoc]
          have q1 := List.nodup_append.mp (nk ndr)
          refine List.nodup_append.mpr ⟨ndr, nd2, fun a ha b hb => ?_⟩
          rcases List.mem_append.mp hb with z | z
          · exact dj a ha b z
          · exact q1.2.2 a ha b z
        · rcases List.mem_append.mp ha with z | z
          · exact frk a z
          · exact ⟨(fr2 a z).1, (addG_same fun a q => (fr1 a q).2).free (fr2 a z).2⟩

/-! ### reading values -/
theorem rdV_ok (I : FI X.K R P G H F σ env L) (h : RepVal X.K H F σ v rv Lr) {d : D} (e : rdV env rv = some d) : RepH X.K H F v d := by
  cases rv with
  | fz d' => cases e; exact h.2.toH I.fh
  | tmp d' => exact RepO.toH h e
  | br i =>
    cases q : env[i]? with
    | none => simp only [rdV, q] at e; cases e
    | some s =>
      simp only [rdV, q] at e
      cases s with
      | un => cases e
      | pin => cases e
      | v m d' =>
        dsimp only at e
        obtain ⟨u, e1, r⟩ := I.er.get (I.rg.trans I.gh) I.fh q
        have e2 := h.2
        rw [e1] at e2
        cases e2
        exact r _ e
/-- what is handed over to be read: it stands in H -/
theorem rdA_ok (I : FI X.K R P G H F σ env L) (h : RepVal X.K H F σ v rv Lr) {d : D} (e : rdA env rv = some d) : RepR X.K H F v d := by
  cases rv with
  | fz d' => cases e; exact .inl (h.2.toH I.fh)
  | tmp d' => cases e; exact .inr ⟨_, h⟩
  | br i =>
    cases q : env[i]? with
    | none => simp only [rdA, q] at e; cases e
    | some s =>
      simp only [rdA, q] at e
      cases s with
      | un => cases e
      | pin => cases e
      | v m d' =>
        cases e
        have go : ∀ {P : List (Option V)} {σ : St} {env : DEnv} {L : List Addr}, EnvR X.K R H F P σ env L → ∀ {i : Nat}, env[i]? = some (.v m d) → σ[i]? = some (some v) → RepR X.K H F v d := by
          intro P σ env L t
          induction t with
          | nil => intro i a b; simp at a
          | un t ih => intro i a b; cases i with
            | zero => simp at a
            | succ i => exact ih (by simpa using a) (by simpa using b)
          | pin p t ih => intro i a b; cases i with
            | zero => simp at a
            | succ i => exact ih (by simpa using a) (by simpa using b)
          | fz r t ih => intro i a b; cases i with
            | zero => simp at a b; obtain ⟨_, rfl⟩ := a; subst b; exact .inl (r.toH I.fh)
            | succ i => exact ih (by simpa using a) (by simpa using b)
          | rd r t ih => intro i a b; cases i with
            | zero => simp at a b; obtain ⟨_, rfl⟩ := a; subst b; exact r.mono (I.rg.trans I.gh) (Same.refl F)
            | succ i => exact ih (by simpa using a) (by simpa using b)
          | ow r t ih => intro i a b; cases i with
            | zero => simp at a b; obtain ⟨_, rfl⟩ := a; subst b; exact .inr ⟨_, r⟩
            | succ i => exact ih (by simpa using a) (by simpa using b)
          | io p r t ih => intro i a b; cases i with
            | zero => simp at a b; obtain ⟨_, rfl⟩ := a; subst b; exact .inr ⟨_, r⟩
            | succ i => exact ih (by simpa using a) (by simpa using b)
        exact go I.er q h.2
def rdVs (env : DEnv) : List Val → Option (List D)
  | [] => some []
  | v :: vs => match rdV env v, rdVs env vs with
    | some d, some ds => some (d :: ds)
    | _, _ => none
inductive RepHs (K : PySem.W.Frag) (H F : Hp) : List V → List D → Prop
  | nil : RepHs K H F [] []
  | cons {v : V} {d : D} {vs : List V} {ds : List D} (h : RepH K H F v d) (t : RepHs K H F vs ds) : RepHs K H F (v :: vs) (d :: ds)
theorem rdVs_ok (I : FI X.K R P G H F σ env L) : ∀ {vs : List V} {rvs : List Val} {Lr : List Addr} {ds : List D}, HeldR X.K H F σ vs rvs Lr → rdVs env rvs = some ds → RepHs X.K H F vs ds
  | _, _, _, _, .nil, e => by cases e; exact .nil
  | _, _, _, ds, .cons (v := v) (rv := rv) (vs := vs) (rvs := rvs) h t, e => by
    unfold rdVs at e
    cases e1 : rdV env rv with
    | none => rw [e1] at e; cases e
    | some d =>
      cases e2 : rdVs env rvs with
      | none => rw [e1, e2] at e; cases e
      | some ds' =>
        rw [e1, e2] at e
        cases e
        exact .cons (rdV_ok I h e1) (rdVs_ok I t e2)

/-! ### what a primitive gives -/
/-- new objects alone -/
def GivesV (K : PySem.W.Frag) (H F : Hp) (σ : St) (rv : Val) (Q : VK) : Prop := ∀ (v : V) (H' F' : Hp) (Lr : List Addr), Same H H' → Same F F' → Same F' H' → NewF H F F' →
  RepVal K H' F' σ v rv Lr → Lr.Nodup → (∀ a ∈ Lr, H a = none ∧ F' a = none) → Q v H'
theorem gives_of (I : FI X.K R P G H F σ env L) (h : POk X R P G F σ rv env Q) : GivesV X.K H F σ rv Q := fun v H' F' Lr hh ff fh nw r nd fr => by
  have I' := I.ext hh ff fh nw
  refine h v H' F' L Lr I' ff (I.newF nw) r ?_ fun a ha => ⟨(fr a ha).2, I.gh.free (fr a ha).1⟩
  refine List.nodup_append.mpr ⟨nd, I.nd, fun a ha b hb z => ?_⟩
  subst z
  obtain ⟨o, e, _⟩ := I.er.sub a hb
  rw [(fr a ha).1] at e
  cases e
theorem GivesV.atom {d : D} (fh : Same F H) (h : GivesV X.K H F σ (.fz d) Q) (r : Rep X.K F v d) : Q v H :=
  h v H F [] (Same.refl H) (Same.refl F) fh NewF.refl ⟨rfl, r⟩ List.nodup_nil (fun _ z => nomatch z)
theorem same_upd {H : Hp} {p : Addr} {o : HO} (h : H p = none) : Same H (upd H p o) := fun b x e => by rw [upd_ne (ne_of_none e h)]; exact e
theorem upd_sub {H F : Hp} {p : Addr} {o : HO} (fh : Same F H) (h : H p = none) : Same (upd F p o) (upd H p o) := fun b x e => by
  by_cases hb : b = p
  · subst hb; rw [upd_same] at e ⊢; exact e
  · rw [upd_ne hb] at e ⊢; exact fh _ _ e
theorem upd_new {H F : Hp} {p : Addr} {o : HO} (h : H p = none) : NewF H F (upd F p o) := fun a q => by
  by_cases ha : a = p
  · subst ha; exact .inr (.inl h)
  · rw [upd_ne ha] at q; exact .inl q
/-- a new frozen object -/
theorem GivesV.new {d : D} {p : Addr} {o : HO} (fh : Same F H) (h : GivesV X.K H F σ (.fz d) Q) (n : H p = none) (r : Rep X.K (upd F p o) (.ref p) d) : Q (.ref p) (upd H p o) :=
  h (.ref p) (upd H p o) (upd F p o) [] (same_upd n) (same_upd (fh.free n)) (upd_sub fh n) (upd_new n) ⟨rfl, r⟩ List.nodup_nil (fun _ z => nomatch z)
/-- a new owned object -/
theorem GivesV.own {d : D} {p : Addr} {o : HO} (fh : Same F H) (h : GivesV X.K H F σ (.tmp d) Q) (n : H p = none) (r : RepO X.K (upd H p o) F (.ref p) d [p]) : Q (.ref p) (upd H p o) :=
  h (.ref p) (upd H p o) F [p] (same_upd n) (Same.refl F) (fh.trans (same_upd n)) NewF.refl r (by simp) fun a ha => by
    obtain rfl := List.mem_singleton.mp ha
    exact ⟨n, fh.free n⟩

/-! ### freezing -/
theorem EnvR.focus {K : PySem.W.Frag} (h : EnvR K R H F P σ env L) : ∀ {i : Nat} {m : Mode} {d : D}, L.Nodup → (m = .ow ∨ m = .io) → env[i]? = some (.v m d) → ∃ v La L', σ[i]? = some (some v) ∧ RepO K H F v d La ∧ (La ++ L').Nodup ∧ (∀ a, a ∈ L ↔ a ∈ La ∨ a ∈ L') ∧
    (∀ (H' F' : Hp), Same F F' → (∀ a ∈ L', H' a = H a) → (EnvR K R H' F' P σ (env.set i .un) L' ∧
      (∀ d', Rep K F' v d' → EnvR K R H' F' P σ (env.set i (.v .fz d')) L') ∧
      (∀ d' Lb, RepO K H' F' v d' Lb → ∃ L'', EnvR K R H' F' P σ (env.set i (.v m d')) L'' ∧ (∀ a, a ∈ L'' ↔ a ∈ Lb ∨ a ∈ L') ∧ ((Lb ++ L').Nodup → L''.Nodup)))) := by
  induction h with
  | nil => intro i m d nd hm e; simp at e
  | @un P' o σ' env' L1 t ih => intro i m d nd hm e; cases i with
    | zero => simp at e
    | succ i =>
      obtain ⟨v, La, L', e1, e2, e3, e4, e5⟩ := ih nd hm (by simpa using e)
      refine ⟨v, La, L', e1, e2, e3, e4, fun H' F' ff hh => ?_⟩
      obtain ⟨k1, k2, k3⟩ := e5 H' F' ff hh
      exact ⟨.un (o := o) k1, fun d' r => .un (o := o) (k2 d' r), fun d' Lb r => let ⟨L'', a1, a2, a3⟩ := k3 d' Lb r; ⟨L'', .un (o := o) a1, a2, a3⟩⟩
  | pin p t ih => intro i m d nd hm e; cases i with
    | zero => simp at e
    | succ i =>
      obtain ⟨v, La, L', e1, e2, e3, e4, e5⟩ := ih nd hm (by simpa using e)
      refine ⟨v, La, L', e1, e2, e3, e4, fun H' F' ff hh => ?_⟩
      obtain ⟨k1, k2, k3⟩ := e5 H' F' ff hh
      exact ⟨.pin p k1, fun d' q => .pin p (k2 d' q), fun d' Lb q => let ⟨L'', a1, a2, a3⟩ := k3 d' Lb q; ⟨L'', .pin p a1, a2, a3⟩⟩
  | fz r t ih => intro i m d nd hm e; cases i with
    | zero => simp at e; rcases hm with rfl | rfl <;> simp at e
    | succ i =>
      obtain ⟨v, La, L', e1, e2, e3, e4, e5⟩ := ih nd hm (by simpa using e)
      refine ⟨v, La, L', e1, e2, e3, e4, fun H' F' ff hh => ?_⟩
      obtain ⟨k1, k2, k3⟩ := e5 H' F' ff hh
      exact ⟨.fz (r.mono ff) k1, fun d' q => .fz (r.mono ff) (k2 d' q), fun d' Lb q => let ⟨L'', a1, a2, a3⟩ := k3 d' Lb q; ⟨L'', .fz (r.mono ff) a1, a2, a3⟩⟩
  | rd r t ih => intro i m d nd hm e; cases i with
    | zero => simp at e; rcases hm with rfl | rfl <;> simp at e
    | succ i =>
      obtain ⟨v, La, L', e1, e2, e3, e4, e5⟩ := ih nd hm (by simpa using e)
      refine ⟨v, La, L', e1, e2, e3, e4, fun H' F' ff hh => ?_⟩
      obtain ⟨k1, k2, k3⟩ := e5 H' F' ff hh
      exact ⟨.rd (r.mono (Same.refl _) ff) k1, fun d' q => .rd (r.mono (Same.refl _) ff) (k2 d' q), fun d' Lb q => let ⟨L'', a1, a2, a3⟩ := k3 d' Lb q; ⟨L'', .rd (r.mono (Same.refl _) ff) a1, a2, a3⟩⟩
  | @ow P' v0 d0 σ' env' L1 L2 r t ih => intro i m d nd hm e; cases i with
    | zero =>
      simp at e
      obtain ⟨rfl, rfl⟩ := e
      refine ⟨v0, L1, L2, rfl, r, nd, fun a => List.mem_append, fun H' F' ff hh => ?_⟩
      have t' := t.keep (H' := H') ff hh
      exact ⟨.un t', fun d' q => .fz q t', fun d' Lb q => ⟨Lb ++ L2, .ow q t', fun a => List.mem_append, fun n => n⟩⟩
    | succ i =>
      obtain ⟨n1, n2, n3⟩ := List.nodup_append.mp nd
      obtain ⟨v, La, L', e1, e2, e3, e4, e5⟩ := ih n2 hm (by simpa using e)
      refine ⟨v, La, L1 ++ L', e1, e2, ?_, fun a => ?_, fun H' F' ff hh => ?_⟩
      · obtain ⟨m1, m2, m3⟩ := List.nodup_append.mp e3
        refine List.nodup_append.mpr ⟨m1, List.nodup_append.mpr ⟨n1, m2, fun a ha b hb => n3 a ha b ((e4 b).mpr (.inr hb))⟩, fun a ha b hb => ?_⟩
        rcases List.mem_append.mp hb with z | z
        · exact fun q => n3 b z a ((e4 a).mpr (.inl ha)) q.symm
        · exact m3 a ha b z
      · rw [List.mem_append, List.mem_append, e4]; constructor <;> intro q <;> rcases q with q | q | q <;> simp [q]
      · obtain ⟨k1, k2, k3⟩ := e5 H' F' ff fun a ha => hh a (List.mem_append_right _ ha)
        have r' := r.keep (H' := H') (fun a ha => hh a (List.mem_append_left _ ha)) ff
        refine ⟨.ow r' k1, fun d' q => .ow r' (k2 d' q), fun d' Lb q => ?_⟩
        obtain ⟨L'', a1, a2, a3⟩ := k3 d' Lb q
        refine ⟨L1 ++ L'', .ow r' a1, fun a => ?_, fun nn => ?_⟩
        · rw [List.mem_append, List.mem_append, a2]; constructor <;> intro q <;> rcases q with q | q | q <;> simp [q]
        · obtain ⟨m1, m2, m3⟩ := List.nodup_append.mp nn
          obtain ⟨m4, m5, m6⟩ := List.nodup_append.mp m2
          refine List.nodup_append.mpr ⟨n1, a3 (List.nodup_append.mpr ⟨m1, m5, fun a ha b hb => m3 a ha b (List.mem_append_right _ hb)⟩), fun a ha b hb => ?_⟩
          rcases (a2 b).mp hb with z | z
          · exact fun q => m3 b z a (List.mem_append_left _ ha) q.symm
          · exact m6 a ha b z
  | @io P' v0 d0 σ' env' L1 L2 p r t ih => intro i m d nd hm e; cases i with
    | zero =>
      simp at e
      obtain ⟨rfl, rfl⟩ := e
      refine ⟨v0, L1, L2, rfl, r, nd, fun a => List.mem_append, fun H' F' ff hh => ?_⟩
      have t' := t.keep (H' := H') ff hh
      exact ⟨.un t', fun d' q => .fz q t', fun d' Lb q => ⟨Lb ++ L2, .io p q t', fun a => List.mem_append, fun n => n⟩⟩
    | succ i =>
      obtain ⟨n1, n2, n3⟩ := List.nodup_append.mp nd
      obtain ⟨v, La, L', e1, e2, e3, e4, e5⟩ := ih n2 hm (by simpa using e)
      refine ⟨v, La, L1 ++ L', e1, e2, ?_, fun a => ?_, fun H' F' ff hh => ?_⟩
      · obtain ⟨m1, m2, m3⟩ := List.nodup_append.mp e3
        refine List.nodup_append.mpr ⟨m1, List.nodup_append.mpr ⟨n1, m2, fun a ha b hb => n3 a ha b ((e4 b).mpr (.inr hb))⟩, fun a ha b hb => ?_⟩
        rcases List.mem_append.mp hb with z | z
        · exact fun q => n3 b z a ((e4 a).mpr (.inl ha)) q.symm
        · exact m3 a ha b z
      · rw [List.mem_append, List.mem_append, e4]; constructor <;> intro q <;> rcases q with q | q | q <;> simp [q]
      · obtain ⟨k1, k2, k3⟩ := e5 H' F' ff fun a ha => hh a (List.mem_append_right _ ha)
        have r' := r.keep (H' := H') (fun a ha => hh a (List.mem_append_left _ ha)) ff
        refine ⟨.io p r' k1, fun d' q => .io p r' (k2 d' q), fun d' Lb q => ?_⟩
        obtain ⟨L'', a1, a2, a3⟩ := k3 d' Lb q
        refine ⟨L1 ++ L'', .io p r' a1, fun a => ?_, fun nn => ?_⟩
        · rw [List.mem_append, List.mem_append, a2]; constructor <;> intro q <;> rcases q with q | q | q <;> simp [q]
        · obtain ⟨m1, m2, m3⟩ := List.nodup_append.mp nn
          obtain ⟨m4, m5, m6⟩ := List.nodup_append.mp m2
          refine List.nodup_append.mpr ⟨n1, a3 (List.nodup_append.mpr ⟨m1, m5, fun a ha b hb => m3 a ha b (List.mem_append_right _ hb)⟩), fun a ha b hb => ?_⟩
          rcases (a2 b).mp hb with z | z
          · exact fun q => m3 b z a (List.mem_append_left _ ha) q.symm
          · exact m6 a ha b z

def frzV (env : DEnv) : Val → Option (D × DEnv)
  | .fz d => some (d, env)
  | .tmp d => match frzD d with
    | some d => some (d, env)
    | none => none
  | .br i => match env[i]? with
    | some (.v .fz d) => some (d, env)
    | some (.v .ow d) => match frzD d with
      | some d => some (d, env.set i (.v .fz d))
      | none => none
    | _ => none
theorem frzV_ok (I : FI X.K R P G H F σ env L) (h : RepVal X.K H F σ v rv Lr) (nd : (Lr ++ L).Nodup) (fr : ∀ a ∈ Lr, F a = none ∧ G a = none) {d : D} {env' : DEnv} (e : frzV env rv = some (d, env')) :
    ∃ F' L', FI X.K R P G H F' σ env' L' ∧ Same F F' ∧ NewF G F F' ∧ Rep X.K F' v d ∧ (∀ a ∈ L', a ∈ L) ∧ (∀ a, F' a ≠ none → F a ≠ none ∨ a ∈ Lr ∨ a ∈ L) := by
  cases rv with
  | fz d' =>
    cases e
    exact ⟨F, L, I, Same.refl F, NewF.refl, h.2, fun _ q => q, fun _ q => .inl q⟩
  | tmp d' =>
    simp only [frzV] at e
    cases ed : frzD d' with
    | none => rw [ed] at e; cases e
    | some d2 =>
    rw [ed] at e
    cases e
    have e0 := frzD_eq ed
    subst e0
    obtain ⟨F', ff, fh, nw, r⟩ := RepO.freeze I.fh ed h fun a ha => (fr a ha).1
    refine ⟨F', L, ⟨fh, I.gh, I.rg, I.er.keep ff fun _ _ => rfl, I.nd, fun a ha => ⟨?_, (I.fr a ha).2⟩⟩, ff, fun a q => (nw a q).imp id fun z => .inl (fr a z).2, r, fun _ q => q, fun a q => (nw a q).imp id .inl⟩
    cases q : F' a with
    | none => rfl
    | some u =>
      rcases nw a (by rw [q]; simp) with z | z
      · exact absurd (I.fr a ha).1 z
      · exact absurd rfl ((List.nodup_append.mp nd).2.2 a z a ha)
  | br i =>
    cases q : env[i]? with
    | none => simp only [frzV, q] at e; cases e
    | some s =>
      simp only [frzV, q] at e
      cases s with
      | un => cases e
      | pin => cases e
      | v m d' =>
        cases m with
        | fz =>
          cases e
          obtain ⟨u, e1, r⟩ := I.er.getFz q
          have e2 := h.2
          rw [e1] at e2
          cases e2
          exact ⟨F, L, I, Same.refl F, NewF.refl, r, fun _ q => q, fun _ q => .inl q⟩
        | ow =>
          dsimp only at e
          cases ed : frzD d' with
          | none => rw [ed] at e; cases e
          | some d2 =>
          rw [ed] at e
          cases e
          have e0 := frzD_eq ed
          subst e0
          obtain ⟨u, La, L', e1, ro, ndA, mem, put⟩ := I.er.focus I.nd (.inl rfl) q
          have e2 := h.2
          rw [e1] at e2
          cases e2
          have inL : ∀ a ∈ La, a ∈ L := fun a ha => (mem a).mpr (.inl ha)
          obtain ⟨F', ff, fh, nw, r⟩ := RepO.freeze I.fh ed ro fun a ha => (I.fr a (inL a ha)).1
          obtain ⟨_, pz, _⟩ := put H F' ff fun _ _ => rfl
          refine ⟨F', L', ⟨fh, I.gh, I.rg, pz _ r, (List.nodup_append.mp ndA).2.1, fun a ha => ?_⟩, ff, fun a q => (nw a q).imp id fun z => .inl (I.fr a (inL a z)).2, r, fun a ha => (mem a).mpr (.inr ha), fun a q => (nw a q).imp id fun z => .inr (inL a z)⟩
          have z := I.fr a ((mem a).mpr (.inr ha))
          refine ⟨?_, z.2⟩
          cases q : F' a with
          | none => rfl
          | some u =>
            rcases nw a (by rw [q]; simp) with y | y
            · exact absurd z.1 y
            · exact absurd rfl ((List.nodup_append.mp ndA).2.2 a y a ha)
        | io => cases e
        | rd => cases e
def frzVs (env : DEnv) : List Val → Option (List D × DEnv)
  | [] => some ([], env)
  | v :: vs => match frzV env v with
    | some (d, env1) => match frzVs env1 vs with
      | some (ds, env2) => some (d :: ds, env2)
      | none => none
    | none => none
theorem HeldR.there : ∀ {vs : List V} {rvs : List Val} {Lr : List Addr}, HeldR X.K H F σ vs rvs Lr → ∀ a ∈ Lr, ∃ o, H a = some o ∧ NT o
  | _, _, _, .nil, a, ha => nomatch ha
  | _, _, _, .cons h t, a, ha => (List.mem_append.mp ha).elim (h.there a) (t.there a)
theorem HeldR.keep : ∀ {vs : List V} {rvs : List Val} {Lr : List Addr}, HeldR X.K H F σ vs rvs Lr → Same F F' → (∀ a ∈ Lr, H' a = H a) → HeldR X.K H' F' σ vs rvs Lr
  | _, _, _, .nil, _, _ => .nil
  | _, _, _, .cons h t, ff, e => .cons (h.keep ff fun a ha => e a (List.mem_append_left _ ha)) (t.keep ff fun a ha => e a (List.mem_append_right _ ha))
theorem frzVs_ok : ∀ {rvs : List Val} {vs : List V} {Lr L : List Addr} {F : Hp} {env env' : DEnv} {ds : List D}, FI X.K R P G H F σ env L → HeldR X.K H F σ vs rvs Lr → (Lr ++ L).Nodup → (∀ a ∈ Lr, F a = none ∧ G a = none) → frzVs env rvs = some (ds, env') →
    ∃ F' L', FI X.K R P G H F' σ env' L' ∧ Same F F' ∧ NewF G F F' ∧ Reps X.K F' vs ds ∧ (∀ a ∈ L', a ∈ L)
  | [], _, Lr, L, F, env, env', ds, I, h0, nd, fr, e => by
    cases h0
    cases e
    exact ⟨F, L, I, Same.refl F, NewF.refl, ⟨rfl, fun i v x h => by simp at h⟩, fun _ q => q⟩
  | rv :: rvs, _, _, L, F, env, env', ds, I, .cons (v := v) (L1 := L1) (vs := vs) (L := L2) h t, nd, fr, e => by
    unfold frzVs at e
    cases e1 : frzV env rv with
    | none => rw [e1] at e; cases e
    | some p =>
      obtain ⟨d, env1⟩ := p
      rw [e1] at e
      dsimp only at e
      cases e2 : frzVs env1 rvs with
      | none => rw [e2] at e; cases e
      | some p2 =>
        obtain ⟨ds2, env2⟩ := p2
        rw [e2] at e
        cases e
        rw [List.append_assoc] at nd
        obtain ⟨m1, m2, m3⟩ := List.nodup_append.mp nd
        have nd1 : (L1 ++ L).Nodup := List.nodup_append.mpr ⟨m1, (List.nodup_append.mp m2).2.1, fun a ha b hb => m3 a ha b (List.mem_append_right _ hb)⟩
        obtain ⟨F1, L1', I1, ff1, nw1, r1, sub1, loc1⟩ := frzV_ok I h nd1 (fun a ha => fr a (List.mem_append_left _ ha)) e1
        have fr2 : ∀ a ∈ L2, F1 a = none ∧ G a = none := fun a ha => by
          have z := fr a (List.mem_append_right _ ha)
          refine ⟨?_, z.2⟩
          cases q : F1 a with
          | none => rfl
          | some u =>
            rcases loc1 a (by rw [q]; simp) with y | y | y
            · exact absurd z.1 y
            · exact absurd rfl (m3 a y a (List.mem_append_left _ ha))
            · exact absurd rfl ((List.nodup_append.mp m2).2.2 a ha a y)
        have nd2 : (L2 ++ L1').Nodup := List.nodup_append.mpr ⟨(List.nodup_append.mp m2).1, I1.nd, fun a ha b hb => (List.nodup_append.mp m2).2.2 a ha b (sub1 b hb)⟩
        obtain ⟨F2, L2', I2, ff2, nw2, r2, sub2⟩ := frzVs_ok I1 (t.keep ff1 fun _ _ => rfl) nd2 fr2 e2
        refine ⟨F2, L2', I2, ff1.trans ff2, nw1.trans nw2, ⟨by simp [r2.1], fun i v x hv hx => ?_⟩, fun a ha => sub1 a (sub2 a ha)⟩
        cases i with
        | zero => simp at hv hx; subst hv; subst hx; exact r1.mono ff2
        | succ i => exact r2.2 i v x (by simpa using hv) (by simpa using hx)
end
end DX

namespace DX
open PySem PySem.Spec L2
open PyProof.Rows hiding St

/-! ### expressions -/
def dVar (i : Nat) : DEnv → ER := fun env => match env[i]? with
  | some (.v .fz d) => .ok (.fz d) env
  | some (.v _ _) => .ok (.br i) env
  | _ => .err
def dC (d : D) : DEnv → ER := fun env => .ok (.fz d) env
/-- a primitive of values that are read -/
def dPrim (g : List D → Option Val) (ms : List (DEnv → ER)) : DEnv → ER := fun env => (mArgs ms env).bind fun vs env' => match rdVs env' vs with
  | some ds => match g ds with
    | some rv => .ok rv env'
    | none => .err
  | none => .err
/-- a primitive of values that are laid down in what it makes -/
def dMake (g : List D → Option Val) (ms : List (DEnv → ER)) : DEnv → ER := fun env => (mArgs ms env).bind fun vs env' => match frzVs env' vs with
  | some (ds, env'') => match g ds with
    | some rv => .ok rv env''
    | none => .err
  | none => .err
section
variable {X : Cx} {W : WX} {R G G' : Hp} {P : List (Option V)} {H H' F F' : Hp} {σ : St} {env : DEnv} {L Lr : List Addr} {Q : VK} {v : V} {rv : Val}
theorem FI.disj (I : FI X.K R P G H F σ env L) : (([] : List Addr) ++ L).Nodup := by simpa using I.nd
theorem POk.now {d : D} (h : POk X R P G F σ (.fz d) env Q) (I : FI X.K R P G H F σ env L) (r : Rep X.K F v d) : Q v H :=
  h v H F L [] I (Same.refl F) NewF.refl ⟨rfl, r⟩ I.disj (fun _ z => nomatch z)
theorem me_var {i : Nat} {x : Str} {pos : Pos} (hN : X.N[i]? = some x := by rfl) (hv : Vis X.env.scope x := by first | exact Or.inl rfl | exact Or.inr (Or.inl rfl) | exact Or.inr (Or.inr rfl))
    (hd : (x == ("__debug__" : Str)) = false := by decide) (hcd : (x == ("__classdict__" : Str)) = false := by decide) : ME X W R P (.Name x pos) (dVar i) := by
  intro G H F σ env L Q I h
  refine w_of (pe_var hN hv hd hcd) ?_
  unfold dVar at h
  cases q : env[i]? with
  | none => rw [q] at h; exact h.elim
  | some s =>
    rw [q] at h
    cases s with
    | un => exact h.elim
    | pin => exact h.elim
    | v m d =>
      obtain ⟨u, e1, r⟩ := I.er.get (I.rg.trans I.gh) I.fh q
      refine ⟨u, e1, ?_⟩
      have br : POk X R P G F σ (.br i) env Q → Q u H := fun h => h u H F L [] I (Same.refl F) NewF.refl ⟨rfl, e1⟩ I.disj (fun _ z => nomatch z)
      cases m with
      | fz =>
        obtain ⟨u', e2, r'⟩ := I.er.getFz q
        rw [e1] at e2
        cases e2
        exact POk.now h I r'
      | ow => exact br h
      | io => exact br h
      | rd => exact br h
theorem me_int {i j pos} : ME X W R P (.Constant (.int i) j pos) (dC (.int i)) := fun G H F σ env L Q I h => w_of pe_int (POk.now h I (.int i))
theorem me_bl {b j pos} : ME X W R P (.Constant (.bool b) j pos) (dC (.bl b)) := fun G H F σ env L Q I h => w_of pe_bl (POk.now h I (.bl b))
theorem me_non {j pos} : ME X W R P (.Constant .none j pos) (dC .non) := fun G H F σ env L Q I h => w_of pe_non (POk.now h I .non)
theorem me_str {x j pos} : ME X W R P (.Constant (.str x) j pos) (dC (.str x)) := fun G H F σ env L Q I h => w_of pe_str (POk.now h I (.str x))

/-- arguments, then a primitive -/
theorem run_prim {es : List Expr} {ms : List (DEnv → ER)} {g : List D → Option Val} (hm : MEs X W R P es ms) (I : FI X.K R P G H F σ env L) (h : PostV X W R P G F σ (dPrim g ms env) Q) :
    tWa X es σ H (fun vs H' => ∃ F' ds rv, Same F' H' ∧ RepHs X.K H' F' vs ds ∧ g ds = some rv ∧ GivesV X.K H' F' σ rv Q) := by
  refine run_args hm I ?_
  unfold dPrim at h
  cases e : mArgs ms env with
  | err => rw [e] at h; exact h
  | raise c env' => rw [e] at h; exact h
  | ok rvs env' =>
    rw [e] at h
    intro vs H' F' L' Lr I' s n hs nd fr
    dsimp only [AR.bind] at h
    cases e2 : rdVs env' rvs with
    | none => rw [e2] at h; exact h.elim
    | some ds =>
      rw [e2] at h
      dsimp only at h
      cases e3 : g ds with
      | none => rw [e3] at h; exact h.elim
      | some rv =>
        rw [e3] at h
        exact ⟨F', ds, rv, I'.fh, rdVs_ok I' hs e2, e3, gives_of I' (PostV.later (r := .ok rv env') s n h)⟩
theorem run_make {es : List Expr} {ms : List (DEnv → ER)} {g : List D → Option Val} (hm : MEs X W R P es ms) (I : FI X.K R P G H F σ env L) (h : PostV X W R P G F σ (dMake g ms env) Q) :
    tWa X es σ H (fun vs H' => ∃ F' ds rv, Same F' H' ∧ Reps X.K F' vs ds ∧ g ds = some rv ∧ GivesV X.K H' F' σ rv Q) := by
  refine run_args hm I ?_
  unfold dMake at h
  cases e : mArgs ms env with
  | err => rw [e] at h; exact h
  | raise c env' => rw [e] at h; exact h
  | ok rvs env' =>
    rw [e] at h
    intro vs H' F' L' Lr I' s n hs nd fr
    dsimp only [AR.bind] at h
    cases e2 : frzVs env' rvs with
    | none => rw [e2] at h; exact h.elim
    | some p =>
      obtain ⟨ds, env2⟩ := p
      rw [e2] at h
      dsimp only at h
      cases e3 : g ds with
      | none => rw [e3] at h; exact h.elim
      | some rv =>
        rw [e3] at h
        obtain ⟨F2, L2, I2, ff2, nw2, r2, _⟩ := frzVs_ok I' hs nd fr e2
        exact ⟨F2, ds, rv, I2.fh, r2, e3, gives_of I2 (PostV.later (r := .ok rv env2) (s.trans ff2) (n.trans nw2) h)⟩
def dTup : List D → Option Val := fun ds => if ds.length ≤ sizeLine then some (.fz (.tup ds)) else none
def dLst : List D → Option Val := fun ds => if ds.length ≤ sizeLine then some (.tmp (.lst ds)) else none
theorem me_tup {es : List Expr} {ms : List (DEnv → ER)} {x1 pos} (hm : MEs X W R P es ms) (hp : PA X es (tWa X es)) : ME X W R P (.Tuple es x1 pos) (dMake dTup ms) := by
  intro G H F σ env L Q I h
  refine w_of (pe_tup hp) ?_
  refine tWa_mono (run_make hm I h) fun vs H' ⟨F', ds, rv, fh, r, e, k⟩ => ?_
  unfold dTup at e
  split at e
  · rename_i hl
    cases e
    refine ⟨by rw [r.1]; exact hl, fun p n => ?_⟩
    have r' := r.mono (same_upd (fh.free n) (o := .tup vs))
    exact k.new fh n (.tup (.inl (.inl upd_same)) (.inl upd_same) r'.1 r'.2)
  · cases e
theorem me_lst {es : List Expr} {ms : List (DEnv → ER)} {pos} (hm : MEs X W R P es ms) (hp : PA X es (tWa X es)) : ME X W R P (.List es pos) (dMake dLst ms) := by
  intro G H F σ env L Q I h
  refine w_of (pe_lst hp) ?_
  refine tWa_mono (run_make hm I h) fun vs H' ⟨F', ds, rv, fh, r, e, k⟩ => ?_
  unfold dLst at e
  split at e
  · rename_i hl
    cases e
    refine ⟨by rw [r.1]; exact hl, fun p n => ?_⟩
    exact k.own fh n (.lst upd_same r)
  · cases e
end
end DX

namespace DX
open PySem PySem.Spec L2
open PyProof.Rows hiding St

/-! ### == of data -/
def deqL (f : D → D → Option Bool) : List D → List D → Option Bool
  | [], [] => some true
  | x :: xs, y :: ys => match f x y with
    | some b => match deqL f xs ys with
      | some c => some (b && c)
      | none => none
    | none => none
  | [], _ :: _ => some false
  | _ :: _, [] => some false
/-- none, bools, ints, texts -/
def flatD : D → Bool
  | .non => true
  | .bl _ => true
  | .int _ => true
  | .str _ => true
  | _ => false
def deqF : D → D → Bool
  | .non, .non => true
  | .bl a, .bl b => a == b
  | .bl a, .int b => (if a then 1 else 0) == b
  | .int a, .bl b => a == (if b then 1 else 0)
  | .int a, .int b => a == b
  | .str a, .str b => a == b
  | _, _ => false
def deqN : Nat → D → D → Option Bool
  | 0, _, _ => none
  | n + 1, x, y => match x, y with
    | .tup xs, .tup ys => deqL (deqN n) xs ys
    | .lst xs, .lst ys => if xs.length = ys.length then deqL (deqN n) xs ys else some false
    | .tup _, .lst _ => some false
    | .lst _, .tup _ => some false
    | .tup _, y => if flatD y then some false else none
    | .lst _, y => if flatD y then some false else none
    | x, .tup _ => if flatD x then some false else none
    | x, .lst _ => if flatD x then some false else none
    | x, y => if flatD x && flatD y then some (deqF x y) else none
section
variable {X : Cx} {R G : Hp} {P : List (Option V)} {H F : Hp} {σ : St} {env : DEnv} {pins : List (Addr × Obj)} {s : Shared}

theorem items_rep {K : PySem.W.Frag} {F : Hp} {vs : List V} {xs : List D} {its : List Value} (r : Vals vs its) (h : Reps K F vs xs) {j : Nat} (hj : j < its.length) : ∃ v x, vs[j]? = some v ∧ xs[j]? = some x ∧ RelV v its[j] ∧ Rep K F v x := by
  have e1 := r.length
  have h1 : j < vs.length := by omega
  have h2 : j < xs.length := by have := h.1; omega
  obtain ⟨u, hu, rv⟩ := r.get (i := j) (List.getElem?_eq_getElem h1)
  rw [List.getElem?_eq_getElem hj] at hu
  cases hu
  exact ⟨vs[j], xs[j], List.getElem?_eq_getElem h1, List.getElem?_eq_getElem h2, rv, h.2 j _ _ (List.getElem?_eq_getElem h1) (List.getElem?_eq_getElem h2)⟩
theorem rep_lst (I : Inv X pins σ H s) {a : Addr} {xs : List D} (h : RepH X.K H F (.ref a) (.lst xs)) : ∃ vs its, Vals vs its ∧ Reps X.K F vs xs ∧ s.heap.IsList a its.toArray ∧ its.length = xs.length := by
  cases h with
  | lst h hi =>
    obtain ⟨its, r, p, _⟩ := I.list (.inl h)
    exact ⟨_, its, r, hi, p.isList, by rw [← r.length]; exact hi.1⟩
theorem rep_tup (I : Inv X pins σ H s) {a : Addr} {xs : List D} (h : RepH X.K H F (.ref a) (.tup xs)) : ∃ vs its, Vals vs its ∧ Reps X.K F vs xs ∧ s.heap.IsTuple a its.toArray ∧ its.length = xs.length := by
  cases h with
  | tup h hk hi =>
    obtain ⟨its, r, p, _⟩ := I.tuple h
    exact ⟨_, its, r, hi, p, by rw [← r.length]; exact hi.1⟩
def vOf : D → V
  | .bl b => .bl b
  | .int i => .int i
  | .str s => .str s
  | _ => .non
theorem flat_v {K : PySem.W.Frag} {H F : Hp} {v : V} {d : D} (h : RepH K H F v d) (f : flatD d = true) : v = vOf d := by
  cases h with
  | non => rfl
  | bl => rfl
  | int => rfl
  | str => rfl
  | _ => cases f
theorem flat_eqV {d e : D} (f : flatD d = true) (g : flatD e = true) : eqV (vOf d) (vOf e) = deqF d e := by
  cases d <;> cases e <;> first | rfl | (cases f; done) | (cases g; done)
theorem flat_flatV {d : D} (f : flatD d = true) : flatV (vOf d) = true := by cases d <;> first | rfl | cases f
theorem rc_flat {A : Around} {v v' : V} {u u' : Value} {d e : D} (f : flatD d = true) (g : flatD e = true) (hv : v = vOf d) (hv' : v' = vOf e) (r : RelV v u) (r' : RelV v' u') : SeqAt.RcAt A s u u' (deqF d e) := by
  subst hv; subst hv'
  cases d with
  | non => cases r; cases e with
    | non => cases r'; exact .none_none
    | bl => cases r'; exact .none_bool _
    | int => obtain ⟨t, rfl⟩ := r'; exact .none_int _ _
    | str => obtain ⟨t, rfl⟩ := r'; exact .none_str _ _
    | _ => cases g
  | bl a => cases r; cases e with
    | non => cases r'; exact .bool_none _
    | bl => cases r'; exact .bool_bool _ _
    | int => obtain ⟨t, rfl⟩ := r'; exact .bool_int _ _ _
    | str => obtain ⟨t, rfl⟩ := r'; exact .bool_str _ _ _
    | _ => cases g
  | int a => obtain ⟨t0, rfl⟩ := r; cases e with
    | non => cases r'; exact .int_none _ _
    | bl => cases r'; exact .int_bool _ _ _
    | int => obtain ⟨t, rfl⟩ := r'; exact .int_int _ _ _ _
    | str => obtain ⟨t, rfl⟩ := r'; exact .int_str _ _ _ _
    | _ => cases g
  | str a => obtain ⟨t0, rfl⟩ := r; cases e with
    | non => cases r'; exact .str_none _ _
    | bl => cases r'; exact .str_bool _ _ _
    | int => obtain ⟨t, rfl⟩ := r'; exact .str_int _ _ _ _
    | str => obtain ⟨t, rfl⟩ := r'; exact .str_str _ _ _ _
    | _ => cases g
  | _ => cases f
theorem rn_flat {A : Around} {v v' : V} {u u' : Value} {d e : D} (f : flatD d = true) (g : flatD e = true) (hv : v = vOf d) (hv' : v' = vOf e) (r : RelV v u) (r' : RelV v' u') : SeqAt.RcNeAt A s u u' (!deqF d e) := by
  subst hv; subst hv'
  cases d with
  | non => cases r; cases e with
    | non => cases r'; exact .none_none
    | bl => cases r'; exact .none_bool _
    | int => obtain ⟨t, rfl⟩ := r'; exact .none_int _ _
    | str => obtain ⟨t, rfl⟩ := r'; exact .none_str _ _
    | _ => cases g
  | bl a => cases r; cases e with
    | non => cases r'; exact .bool_none _
    | bl => cases r'; exact .bool_bool _ _
    | int => obtain ⟨t, rfl⟩ := r'; exact .bool_int _ _ _
    | str => obtain ⟨t, rfl⟩ := r'; exact .bool_str _ _ _
    | _ => cases g
  | int a => obtain ⟨t0, rfl⟩ := r; cases e with
    | non => cases r'; exact .int_none _ _
    | bl => cases r'; exact .int_bool _ _ _
    | int => obtain ⟨t, rfl⟩ := r'; exact .int_int _ _ _ _
    | str => obtain ⟨t, rfl⟩ := r'; exact .int_str _ _ _ _
    | _ => cases g
  | str a => obtain ⟨t0, rfl⟩ := r; cases e with
    | non => cases r'; exact .str_none _ _
    | bl => cases r'; exact .str_bool _ _ _
    | int => obtain ⟨t, rfl⟩ := r'; exact .str_int _ _ _ _
    | str => obtain ⟨t, rfl⟩ := r'; exact .str_str _ _ _ _
    | _ => cases g
  | _ => cases f

/-- the element-wise outcome -/
theorem deqL_all {f : D → D → Option Bool} : ∀ {xs ys : List D} {b : Bool}, deqL f xs ys = some b → ∃ e : Nat → Bool, (∀ j x y, xs[j]? = some x → ys[j]? = some y → f x y = some (e j)) ∧ ((List.range (min xs.length ys.length)).all e && xs.length == ys.length) = b
  | [], [], b, h => by cases h; exact ⟨fun _ => true, fun j x y h => by simp at h, by simp⟩
  | [], y :: ys, b, h => by cases h; exact ⟨fun _ => true, fun j x y h => by simp at h, by simp⟩
  | x :: xs, [], b, h => by cases h; exact ⟨fun _ => true, fun j x y _ h => by simp at h, by simp⟩
  | x :: xs, y :: ys, b, h => by
    unfold deqL at h
    cases e1 : f x y with
    | none => rw [e1] at h; cases h
    | some c =>
      cases e2 : deqL f xs ys with
      | none => rw [e1, e2] at h; cases h
      | some d =>
        rw [e1, e2] at h
        cases h
        obtain ⟨e, p, q⟩ := deqL_all e2
        refine ⟨fun j => match j with | 0 => c | j + 1 => e j, fun j x' y' hx hy => ?_, ?_⟩
        · cases j with
          | zero => simp at hx hy; subst hx; subst hy; exact e1
          | succ j => exact p j x' y' (by simpa using hx) (by simpa using hy)
        · rw [← q]
          simp only [List.length_cons]
          rw [show min (xs.length + 1) (ys.length + 1) = min xs.length ys.length + 1 by omega, List.range_succ_eq_map, List.all_cons, List.all_map]
          have e3 : ((fun j => match j with | 0 => c | j + 1 => e j) ∘ Nat.succ) = e := by funext j; rfl
          rw [e3]
          have e4 : (xs.length + 1 == ys.length + 1) = (xs.length == ys.length) := by simp
          rw [e4, Bool.and_assoc]
theorem Rep.uniq (I : Inv X pins σ H s) (fh : Same F H) {v : V} {d : D} (h : Rep X.K F v d) : ∀ {d' : D}, Rep X.K F v d' → ∀ {n : Nat} {b : Bool}, deqN n d d' = some b → b = true := by
  have items : ∀ {vs : List V} {xs ys : List D}, vs.length = xs.length → vs.length = ys.length → (∀ (i : Nat) (v : V) (x : D), vs[i]? = some v → xs[i]? = some x → ∀ {d' : D}, Rep X.K F v d' → ∀ {n : Nat} {b : Bool}, deqN n x d' = some b → b = true) →
      (∀ (i : Nat) (v : V) (x : D), vs[i]? = some v → ys[i]? = some x → Rep X.K F v x) → ∀ {n : Nat} {b : Bool}, deqL (deqN n) xs ys = some b → b = true := by
    intro vs xs ys h1 h2 ih hi n b hb
    obtain ⟨e, p, q⟩ := deqL_all hb
    rw [← q]
    have el : xs.length = ys.length := by omega
    rw [el, beq_self_eq_true, Bool.and_true, List.all_eq_true]
    intro j hj
    have hj' : j < ys.length := by simpa using hj
    have a1 : vs[j]? = some vs[j] := List.getElem?_eq_getElem (by omega)
    have a2 : xs[j]? = some xs[j] := List.getElem?_eq_getElem (by omega)
    have a3 : ys[j]? = some ys[j] := List.getElem?_eq_getElem hj'
    exact ih j _ _ a1 a2 (hi j _ _ a1 a3) (p j _ _ a2 a3)
  induction h with
  | non => intro d' h' n b e; cases h'; cases n <;> simp [deqN, flatD, deqF] at e; exact e
  | bl c => intro d' h' n b e; cases h'; cases n <;> simp [deqN, flatD, deqF] at e; exact e
  | int c => intro d' h' n b e; cases h'; cases n <;> simp [deqN, flatD, deqF] at e; exact e
  | str c => intro d' h' n b e; cases h'; cases n <;> simp [deqN, flatD, deqF] at e; exact e
  | @tup a vs xs h hk hl hi ih =>
    intro d' h' n b e
    cases n with
    | zero => cases e
    | succ n =>
      cases h' with
      | @tup _ vs' xs' k kk kl ki =>
        have ev : vs = vs' := I.tuple_inj (SqT.mono fh h) (SqT.mono fh k)
        subst ev
        exact items hl kl (fun i v x a b => ih i v x a b) ki e
      | @lst _ vs' xs' k kl ki =>
        obtain ⟨its, _, ⟨o, n1, e1, c1, _⟩, _⟩ := I.list (.inl (Rd.mono fh k))
        obtain ⟨its2, _, ⟨o2, e2, c2, _⟩, _⟩ := I.tuple (SqT.mono fh h)
        rw [e1] at e2; cases e2; rw [c1] at c2; injection c2 with c3; exact absurd c3 (by decide)
      | _ => cases e
  | @lst a vs xs h hl hi ih =>
    intro d' h' n b e
    cases n with
    | zero => cases e
    | succ n =>
      cases h' with
      | @lst _ vs' xs' k kl ki =>
        have ev : vs = vs' := I.list_inj (.inl (Rd.mono fh h)) (.inl (Rd.mono fh k))
        subst ev
        have el : xs.length = xs'.length := by omega
        simp only [deqN, el, if_true] at e
        exact items hl kl (fun i v x a b => ih i v x a b) ki e
      | @tup _ vs' xs' k kk kl ki =>
        obtain ⟨its, _, ⟨o, n1, e1, c1, _⟩, _⟩ := I.list (.inl (Rd.mono fh h))
        obtain ⟨its2, _, ⟨o2, e2, c2, _⟩, _⟩ := I.tuple (SqT.mono fh k)
        rw [e1] at e2; cases e2; rw [c1] at c2; injection c2 with c3; exact absurd c3 (by decide)
      | _ => cases e
  | scr h => intro d' h' n b e; cases h' <;> cases n <;> simp [deqN, flatD] at e
  | dK h hl hi ih => intro d' h' n b e; cases h' <;> cases n <;> simp [deqN, flatD] at e
  | dT h hl hi ih => intro d' h' n b e; cases h' <;> cases n <;> simp [deqN, flatD] at e

theorem all_eq {e e' : Nat → Bool} {n : Nat} (h : ∀ j, j < n → e j = e' j) : (List.range n).all e = (List.range n).all e' := by
  rw [Bool.eq_iff_iff, List.all_eq_true, List.all_eq_true]
  constructor
  · intro q j hj; rw [← h j (by simpa using hj)]; exact q j hj
  · intro q j hj; rw [h j (by simpa using hj)]; exact q j hj
section
variable {A : Around} {v v' : V} {u u' : Value}
theorem rc_step (I : Inv X pins σ H s) {n : Nat} (hu : A.units < cLine) (it : ∀ {v v' : V} {u u' : Value} {d d' : D} {b : Bool}, Rep X.K F v d → Rep X.K F v' d' → RelV v u → RelV v' u' → deqN n d d' = some b → SeqAt.EqAt A.in1 s u u' b)
    {d d' : D} {b : Bool} (h : RepH X.K H F v d) (h' : RepH X.K H F v' d') (r : RelV v u) (r' : RelV v' u') (e : deqN (n + 1) d d' = some b) : SeqAt.RcAt A s u u' b := by
  have flats : flatD d = true → flatD d' = true → SeqAt.RcAt A s u u' b := fun f g => by
    have e2 : b = deqF d d' := by
      cases d <;> cases d' <;> first | (cases f; done) | (cases g; done) | (simp [deqN, flatD] at e; exact e.symm)
    rw [e2]
    exact rc_flat f g (flat_v h f) (flat_v h' g) r r'
  cases d with
  | non => cases d' with
    | non => exact flats rfl rfl
    | bl => exact flats rfl rfl
    | int => exact flats rfl rfl
    | str => exact flats rfl rfl
    | tup ys => cases h; cases r; cases h' with | tup k kk ki => cases r'; obtain ⟨_, its, _, _, p, _⟩ := rep_tup I (RepH.tup k kk ki); cases e; exact .none_tuple p hu
    | lst ys => cases h; cases r; cases h' with | lst k ki => cases r'; obtain ⟨_, its, _, _, p, _⟩ := rep_lst I (RepH.lst k ki); cases e; exact .none_list p hu
    | _ => cases e
  | bl c => cases d' with
    | non => exact flats rfl rfl
    | bl => exact flats rfl rfl
    | int => exact flats rfl rfl
    | str => exact flats rfl rfl
    | tup ys => cases h; cases r; cases h' with | tup k kk ki => cases r'; obtain ⟨_, its, _, _, p, _⟩ := rep_tup I (RepH.tup k kk ki); cases e; exact .bool_tuple _ p hu
    | lst ys => cases h; cases r; cases h' with | lst k ki => cases r'; obtain ⟨_, its, _, _, p, _⟩ := rep_lst I (RepH.lst k ki); cases e; exact .bool_list _ p hu
    | _ => cases e
  | int c => cases d' with
    | non => exact flats rfl rfl
    | bl => exact flats rfl rfl
    | int => exact flats rfl rfl
    | str => exact flats rfl rfl
    | tup ys => cases h; obtain ⟨t0, rfl⟩ := r; cases h' with | tup k kk ki => cases r'; obtain ⟨_, its, _, _, p, _⟩ := rep_tup I (RepH.tup k kk ki); cases e; exact .int_tuple _ _ p hu
    | lst ys => cases h; obtain ⟨t0, rfl⟩ := r; cases h' with | lst k ki => cases r'; obtain ⟨_, its, _, _, p, _⟩ := rep_lst I (RepH.lst k ki); cases e; exact .int_list _ _ p hu
    | _ => cases e
  | str c => cases d' with
    | non => exact flats rfl rfl
    | bl => exact flats rfl rfl
    | int => exact flats rfl rfl
    | str => exact flats rfl rfl
    | tup ys => cases h; obtain ⟨t0, rfl⟩ := r; cases h' with | tup k kk ki => cases r'; obtain ⟨_, its, _, _, p, _⟩ := rep_tup I (RepH.tup k kk ki); cases e; exact .str_tuple _ _ p hu
    | lst ys => cases h; obtain ⟨t0, rfl⟩ := r; cases h' with | lst k ki => cases r'; obtain ⟨_, its, _, _, p, _⟩ := rep_lst I (RepH.lst k ki); cases e; exact .str_list _ _ p hu
    | _ => cases e
  | tup xs => cases h with | tup k kk ki => cases r; obtain ⟨vs, its, rv, hr, p, hl⟩ := rep_tup I (RepH.tup k kk ki); cases d' with
    | non => cases h'; cases r'; cases e; exact .tuple_none p hu
    | bl => cases h'; cases r'; cases e; exact .tuple_bool _ p hu
    | int => cases h'; obtain ⟨t, rfl⟩ := r'; cases e; exact .tuple_int _ _ p hu
    | str => cases h'; obtain ⟨t, rfl⟩ := r'; cases e; exact .tuple_str _ _ p hu
    | tup ys =>
      cases h' with | tup k' kk' ki' =>
      cases r'
      obtain ⟨vs', its', rv', hr', p', hl'⟩ := rep_tup I (RepH.tup k' kk' ki')
      obtain ⟨ef, q1, q2⟩ := deqL_all (f := deqN n) e
      have z := SeqAt.RcAt.tuples (A := A) (e := ef) p p' hu fun j h1 h2 => ?_
      · rw [← q2]
        simpa [hl, hl'] using z
      · have j1 : j < its.length := by simpa using h1
        have j2 : j < its'.length := by simpa using h2
        obtain ⟨v1, x1, a1, b1, c1, d1⟩ := items_rep rv hr j1
        obtain ⟨v2, x2, a2, b2, c2, d2⟩ := items_rep rv' hr' j2
        simpa using it d1 d2 c1 c2 (q1 j _ _ b1 b2)
    | lst ys =>
      cases h' with | lst k' ki' =>
      cases r'
      obtain ⟨vs', its', rv', hr', p', hl'⟩ := rep_lst I (RepH.lst k' ki')
      cases e
      exact .tuple_list p p' hu
    | _ => cases e
  | lst xs => cases h with | lst k ki => cases r; obtain ⟨vs, its, rv, hr, p, hl⟩ := rep_lst I (RepH.lst k ki); cases d' with
    | non => cases h'; cases r'; cases e; exact .list_none p hu
    | bl => cases h'; cases r'; cases e; exact .list_bool _ p hu
    | int => cases h'; obtain ⟨t, rfl⟩ := r'; cases e; exact .list_int _ _ p hu
    | str => cases h'; obtain ⟨t, rfl⟩ := r'; cases e; exact .list_str _ _ p hu
    | lst ys =>
      cases h' with | lst k' ki' =>
      cases r'
      obtain ⟨vs', its', rv', hr', p', hl'⟩ := rep_lst I (RepH.lst k' ki')
      by_cases el : xs.length = ys.length
      · simp only [deqN, el, if_true] at e
        obtain ⟨ef, q1, q2⟩ := deqL_all (f := deqN n) e
        have z := SeqAt.RcAt.lists (A := A) (e := ef) p p' (by simp [hl, hl', el]) hu fun j h1 h2 => ?_
        · rw [← q2]
          simpa [hl, hl', el] using z
        · have j1 : j < its.length := by simpa using h1
          have j2 : j < its'.length := by simpa using h2
          obtain ⟨v1, x1, a1, b1, c1, d1⟩ := items_rep rv hr j1
          obtain ⟨v2, x2, a2, b2, c2, d2⟩ := items_rep rv' hr' j2
          simpa using it d1 d2 c1 c2 (q1 j _ _ b1 b2)
      · simp only [deqN, el, if_false] at e
        cases e
        exact SeqAt.RcAt.lists_lengths p p' (by simp [hl, hl', el]) hu
    | tup ys =>
      cases h' with | tup k' kk' ki' =>
      cases r'
      obtain ⟨vs', its', rv', hr', p', hl'⟩ := rep_tup I (RepH.tup k' kk' ki')
      cases e
      exact .list_tuple p p' hu
    | _ => cases e
  | scr ns => cases d' <;> cases e
  | dK ns => cases d' <;> cases e
  | dT ns => cases d' <;> cases e
  | ob ns fs => cases d' <;> cases e
  | dt ns => cases d' <;> cases e
  | dl ns => cases d' <;> cases e
  | ow ns => cases d' <;> cases e
theorem rn_step (I : Inv X pins σ H s) {n : Nat} (hu : A.units < cLine) (it : ∀ {v v' : V} {u u' : Value} {d d' : D} {b : Bool}, Rep X.K F v d → Rep X.K F v' d' → RelV v u → RelV v' u' → deqN n d d' = some b → SeqAt.EqAt A.in1 s u u' b)
    {d d' : D} {b : Bool} (h : RepH X.K H F v d) (h' : RepH X.K H F v' d') (r : RelV v u) (r' : RelV v' u') (e : deqN (n + 1) d d' = some b) : SeqAt.RcNeAt A s u u' (!b) := by
  have flats : flatD d = true → flatD d' = true → SeqAt.RcNeAt A s u u' (!b) := fun f g => by
    have e2 : b = deqF d d' := by
      cases d <;> cases d' <;> first | (cases f; done) | (cases g; done) | (simp [deqN, flatD] at e; exact e.symm)
    rw [e2]
    exact rn_flat f g (flat_v h f) (flat_v h' g) r r'
  cases d with
  | non => cases d' with
    | non => exact flats rfl rfl
    | bl => exact flats rfl rfl
    | int => exact flats rfl rfl
    | str => exact flats rfl rfl
    | tup ys => cases h; cases r; cases h' with | tup k kk ki => cases r'; obtain ⟨_, its, _, _, p, _⟩ := rep_tup I (RepH.tup k kk ki); cases e; exact .none_tuple p hu
    | lst ys => cases h; cases r; cases h' with | lst k ki => cases r'; obtain ⟨_, its, _, _, p, _⟩ := rep_lst I (RepH.lst k ki); cases e; exact .none_list p hu
    | _ => cases e
  | bl c => cases d' with
    | non => exact flats rfl rfl
    | bl => exact flats rfl rfl
    | int => exact flats rfl rfl
    | str => exact flats rfl rfl
    | tup ys => cases h; cases r; cases h' with | tup k kk ki => cases r'; obtain ⟨_, its, _, _, p, _⟩ := rep_tup I (RepH.tup k kk ki); cases e; exact .bool_tuple _ p hu
    | lst ys => cases h; cases r; cases h' with | lst k ki => cases r'; obtain ⟨_, its, _, _, p, _⟩ := rep_lst I (RepH.lst k ki); cases e; exact .bool_list _ p hu
    | _ => cases e
  | int c => cases d' with
    | non => exact flats rfl rfl
    | bl => exact flats rfl rfl
    | int => exact flats rfl rfl
    | str => exact flats rfl rfl
    | tup ys => cases h; obtain ⟨t0, rfl⟩ := r; cases h' with | tup k kk ki => cases r'; obtain ⟨_, its, _, _, p, _⟩ := rep_tup I (RepH.tup k kk ki); cases e; exact .int_tuple _ _ p hu
    | lst ys => cases h; obtain ⟨t0, rfl⟩ := r; cases h' with | lst k ki => cases r'; obtain ⟨_, its, _, _, p, _⟩ := rep_lst I (RepH.lst k ki); cases e; exact .int_list _ _ p hu
    | _ => cases e
  | str c => cases d' with
    | non => exact flats rfl rfl
    | bl => exact flats rfl rfl
    | int => exact flats rfl rfl
    | str => exact flats rfl rfl
    | tup ys => cases h; obtain ⟨t0, rfl⟩ := r; cases h' with | tup k kk ki => cases r'; obtain ⟨_, its, _, _, p, _⟩ := rep_tup I (RepH.tup k kk ki); cases e; exact .str_tuple _ _ p hu
    | lst ys => cases h; obtain ⟨t0, rfl⟩ := r; cases h' with | lst k ki => cases r'; obtain ⟨_, its, _, _, p, _⟩ := rep_lst I (RepH.lst k ki); cases e; exact .str_list _ _ p hu
    | _ => cases e
  | tup xs => cases h with | tup k kk ki => cases r; obtain ⟨vs, its, rv, hr, p, hl⟩ := rep_tup I (RepH.tup k kk ki); cases d' with
    | non => cases h'; cases r'; cases e; exact .tuple_none p hu
    | bl => cases h'; cases r'; cases e; exact .tuple_bool _ p hu
    | int => cases h'; obtain ⟨t, rfl⟩ := r'; cases e; exact .tuple_int _ _ p hu
    | str => cases h'; obtain ⟨t, rfl⟩ := r'; cases e; exact .tuple_str _ _ p hu
    | tup ys =>
      cases h' with | tup k' kk' ki' =>
      cases r'
      obtain ⟨vs', its', rv', hr', p', hl'⟩ := rep_tup I (RepH.tup k' kk' ki')
      obtain ⟨ef, q1, q2⟩ := deqL_all (f := deqN n) e
      have z := SeqAt.RcNeAt.tuples (A := A) (e := ef) p p' hu fun j h1 h2 => ?_
      · rw [← q2]
        simpa [hl, hl'] using z
      · have j1 : j < its.length := by simpa using h1
        have j2 : j < its'.length := by simpa using h2
        obtain ⟨v1, x1, a1, b1, c1, d1⟩ := items_rep rv hr j1
        obtain ⟨v2, x2, a2, b2, c2, d2⟩ := items_rep rv' hr' j2
        simpa using it d1 d2 c1 c2 (q1 j _ _ b1 b2)
    | lst ys =>
      cases h' with | lst k' ki' =>
      cases r'
      obtain ⟨vs', its', rv', hr', p', hl'⟩ := rep_lst I (RepH.lst k' ki')
      cases e
      exact .tuple_list p p' hu
    | _ => cases e
  | lst xs => cases h with | lst k ki => cases r; obtain ⟨vs, its, rv, hr, p, hl⟩ := rep_lst I (RepH.lst k ki); cases d' with
    | non => cases h'; cases r'; cases e; exact .list_none p hu
    | bl => cases h'; cases r'; cases e; exact .list_bool _ p hu
    | int => cases h'; obtain ⟨t, rfl⟩ := r'; cases e; exact .list_int _ _ p hu
    | str => cases h'; obtain ⟨t, rfl⟩ := r'; cases e; exact .list_str _ _ p hu
    | lst ys =>
      cases h' with | lst k' ki' =>
      cases r'
      obtain ⟨vs', its', rv', hr', p', hl'⟩ := rep_lst I (RepH.lst k' ki')
      by_cases el : xs.length = ys.length
      · simp only [deqN, el, if_true] at e
        obtain ⟨ef, q1, q2⟩ := deqL_all (f := deqN n) e
        have z := SeqAt.RcNeAt.lists (A := A) (e := ef) p p' (by simp [hl, hl', el]) hu fun j h1 h2 => ?_
        · rw [← q2]
          simpa [hl, hl', el] using z
        · have j1 : j < its.length := by simpa using h1
          have j2 : j < its'.length := by simpa using h2
          obtain ⟨v1, x1, a1, b1, c1, d1⟩ := items_rep rv hr j1
          obtain ⟨v2, x2, a2, b2, c2, d2⟩ := items_rep rv' hr' j2
          simpa using it d1 d2 c1 c2 (q1 j _ _ b1 b2)
      · simp only [deqN, el, if_false] at e
        cases e
        exact SeqAt.RcNeAt.lists_lengths p p' (by simp [hl, hl', el]) hu
    | tup ys =>
      cases h' with | tup k' kk' ki' =>
      cases r'
      obtain ⟨vs', its', rv', hr', p', hl'⟩ := rep_tup I (RepH.tup k' kk' ki')
      cases e
      exact .list_tuple p p' hu
    | _ => cases e
  | scr ns => cases d' <;> cases e
  | dK ns => cases d' <;> cases e
  | dT ns => cases d' <;> cases e
  | ob ns fs => cases d' <;> cases e
  | dt ns => cases d' <;> cases e
  | dl ns => cases d' <;> cases e
  | ow ns => cases d' <;> cases e

end
theorem eqAt_rep (I : Inv X pins σ H s) (fh : Same F H) : ∀ {n : Nat} {A : Around} {v v' : V} {u u' : Value} {d d' : D} {b : Bool}, A.units + n < cLine → Rep X.K F v d → Rep X.K F v' d' → RelV v u → RelV v' u' → deqN n d d' = some b → SeqAt.EqAt A s u u' b
  | 0, A, v, v', u, u', d, d', b, hu, h, h', r, r', e => by cases e
  | n + 1, A, v, v', u, u', d, d', b, hu, h, h', r, r', e => by
    by_cases f : flatD d = true ∧ flatD d' = true
    · have e2 : b = deqF d d' := by
        obtain ⟨f, g⟩ := f
        cases d <;> cases d' <;> first | (cases f; done) | (cases g; done) | (simp [deqN, flatD] at e; exact e.symm)
      have hv := flat_v (h.toH fh) f.1
      have hv' := flat_v (h'.toH fh) f.2
      subst hv; subst hv'
      have z := eqAt_V (A := A) (s := s) r r' (flat_flatV f.1) (flat_flatV f.2)
      rw [flat_eqV f.1 f.2, ← e2] at z
      exact z
    · have rc : SeqAt.RcAt A s u u' b := rc_step I (by omega) (fun a b c d e => eqAt_rep I fh (n := n) (by show A.units + 1 + n < cLine; omega) a b c d e) (h.toH fh) (h'.toH fh) r r' e
      -- a reference among them
      have ref_of : ∀ {v : V} {u : Value} {d : D}, Rep X.K F v d → RelV v u → flatD d ≠ true → ∃ a, v = .ref a ∧ u = .ref a := fun h r f => by
        cases h <;> first | exact absurd rfl f | exact ⟨_, rfl, r⟩
      by_cases g : flatD d = true
      · obtain ⟨a', e1, e2⟩ := ref_of h' r' (fun z => f ⟨g, z⟩)
        have hv := flat_v (h.toH fh) g
        subst e2
        subst hv
        cases d with
        | non => cases r; intro prog w E Q hq; unfold eqBool; exact wpAny_holding (wpAny_ite_split (fun hab => nomatch eq_of_beq hab) fun _ => wpAny_bind (rc prog w E _ (wpAny_truthy_bool hq)))
        | bl => cases r; intro prog w E Q hq; unfold eqBool; exact wpAny_holding (wpAny_ite_split (fun hab => nomatch eq_of_beq hab) fun _ => wpAny_bind (rc prog w E _ (wpAny_truthy_bool hq)))
        | int => obtain ⟨t, rfl⟩ := r; intro prog w E Q hq; unfold eqBool; exact wpAny_holding (wpAny_ite_split (fun hab => nomatch eq_of_beq hab) fun _ => wpAny_bind (rc prog w E _ (wpAny_truthy_bool hq)))
        | str => obtain ⟨t, rfl⟩ := r; intro prog w E Q hq; unfold eqBool; exact wpAny_holding (wpAny_ite_split (fun hab => nomatch eq_of_beq hab) fun _ => wpAny_bind (rc prog w E _ (wpAny_truthy_bool hq)))
        | _ => cases g
      · obtain ⟨a, e1, e2⟩ := ref_of h r g
        by_cases g' : flatD d' = true
        · have hv := flat_v (h'.toH fh) g'
          subst e2
          subst hv
          cases d' with
          | non => cases r'; intro prog w E Q hq; unfold eqBool; exact wpAny_holding (wpAny_ite_split (fun hab => nomatch eq_of_beq hab) fun _ => wpAny_bind (rc prog w E _ (wpAny_truthy_bool hq)))
          | bl => cases r'; intro prog w E Q hq; unfold eqBool; exact wpAny_holding (wpAny_ite_split (fun hab => nomatch eq_of_beq hab) fun _ => wpAny_bind (rc prog w E _ (wpAny_truthy_bool hq)))
          | int => obtain ⟨t, rfl⟩ := r'; intro prog w E Q hq; unfold eqBool; exact wpAny_holding (wpAny_ite_split (fun hab => nomatch eq_of_beq hab) fun _ => wpAny_bind (rc prog w E _ (wpAny_truthy_bool hq)))
          | str => obtain ⟨t, rfl⟩ := r'; intro prog w E Q hq; unfold eqBool; exact wpAny_holding (wpAny_ite_split (fun hab => nomatch eq_of_beq hab) fun _ => wpAny_bind (rc prog w E _ (wpAny_truthy_bool hq)))
          | _ => cases g'
        · obtain ⟨a', e3, e4⟩ := ref_of h' r' g'
          subst e1; subst e2; subst e3; subst e4
          by_cases ea : a = a'
          · subst ea
            rw [Rep.uniq I fh h h' e]
            exact .same _
          · exact .of_refs ea rc
def deq := deqN 20
end
end DX

namespace DX
open PySem PySem.Spec L2
open PyProof.Rows hiding St

/-! ### lists of data -/
section
variable {K : PySem.W.Frag} {F : Hp} {vs ws : List V} {xs ys : List D}
theorem Reps.nil : Reps K F [] [] := ⟨rfl, fun i v x h => by simp at h⟩
theorem Reps.cons {v : V} {x : D} (h : Rep K F v x) (t : Reps K F vs xs) : Reps K F (v :: vs) (x :: xs) := ⟨by simp [t.1], fun i v' x' a b => by
  cases i with
  | zero => simp at a b; subst a; subst b; exact h
  | succ i => exact t.2 i _ _ (by simpa using a) (by simpa using b)⟩
theorem Reps.append (h : Reps K F vs xs) (t : Reps K F ws ys) : Reps K F (vs ++ ws) (xs ++ ys) := ⟨by simp [h.1, t.1], fun i v x a b => by
  by_cases hi : i < vs.length
  · rw [List.getElem?_append_left hi] at a
    rw [List.getElem?_append_left (by have := h.1; omega)] at b
    exact h.2 i v x a b
  · rw [List.getElem?_append_right (by omega)] at a
    rw [List.getElem?_append_right (by have := h.1; omega)] at b
    rw [← h.1] at b
    exact t.2 _ v x a b⟩
theorem Reps.drop (n : Nat) (h : Reps K F vs xs) : Reps K F (vs.drop n) (xs.drop n) := ⟨by simp [h.1], fun i v x a b => by
  rw [List.getElem?_drop] at a b
  exact h.2 _ v x a b⟩
theorem Reps.take (n : Nat) (h : Reps K F vs xs) : Reps K F (vs.take n) (xs.take n) := ⟨by simp [h.1], fun i v x a b => by
  rw [List.getElem?_take] at a b
  by_cases hi : i < n
  · rw [if_pos hi] at a b; exact h.2 i v x a b
  · rw [if_neg hi] at a; cases a⟩
theorem Reps.set {v : V} {x : D} (j : Nat) (r : Rep K F v x) (h : Reps K F vs xs) : Reps K F (vs.set j v) (xs.set j x) := ⟨by simp [h.1], fun i v' x' a b => by
  rw [List.getElem?_set] at a b
  by_cases hj : j = i
  · rw [if_pos hj] at a b
    split at a
    · split at b
      · cases a; cases b; exact r
      · cases b
    · cases a
  · rw [if_neg hj] at a b; exact h.2 i v' x' a b⟩
theorem Reps.reverse (h : Reps K F vs xs) : Reps K F vs.reverse xs.reverse := ⟨by simp [h.1], fun i v x a b => by
  have hi : i < vs.length := by
    have := (List.getElem?_eq_some_iff.mp a).1
    simpa using this
  have hx : i < xs.length := by have := h.1; omega
  rw [List.getElem?_reverse hi] at a
  rw [List.getElem?_reverse hx] at b
  rw [← h.1] at b
  exact h.2 _ v x a b⟩
theorem Reps.get {j : Nat} {x : D} (h : Reps K F vs xs) (e : xs[j]? = some x) : ∃ v, vs[j]? = some v ∧ Rep K F v x := by
  have hj : j < vs.length := by rw [h.1]; exact (List.getElem?_eq_some_iff.mp e).1
  exact ⟨vs[j], List.getElem?_eq_getElem hj, h.2 j _ _ (List.getElem?_eq_getElem hj) e⟩
theorem Reps.eraseIdx (j : Nat) (h : Reps K F vs xs) : Reps K F (vs.eraseIdx j) (xs.eraseIdx j) := ⟨by rw [List.length_eraseIdx, List.length_eraseIdx, h.1], fun i v x a b => by
  rw [List.getElem?_eraseIdx] at a b
  split at a
  · rename_i hij; rw [if_pos hij] at b; exact h.2 i v x a b
  · rename_i hij; rw [if_neg hij] at b; exact h.2 _ v x a b⟩
theorem Reps.dropLast (h : Reps K F vs xs) : Reps K F vs.dropLast xs.dropLast := by
  rw [List.dropLast_eq_take, List.dropLast_eq_take, h.1]; exact h.take _
theorem Reps.ints : ∀ {vs : List V} {ns : List Int}, Reps K F vs (ns.map D.int) → vs = ns.map V.int
  | [], [], _ => rfl
  | [], _ :: _, h => by have := h.1; simp at this
  | _ :: _, [], h => by have := h.1; simp at this
  | v :: vs, n :: ns, h => by
    have h0 := h.2 0 v (.int n) rfl rfl
    cases h0
    rw [List.map_cons, Reps.ints (vs := vs) (ns := ns) ⟨by have := h.1; simpa using this, fun i v x a b => h.2 (i + 1) v x (by simpa using a) (by simpa using b)⟩]
theorem Reps.bls : ∀ {vs : List V} {ns : List Bool}, Reps K F vs (ns.map D.bl) → vs = ns.map V.bl
  | [], [], _ => rfl
  | [], _ :: _, h => by have := h.1; simp at this
  | _ :: _, [], h => by have := h.1; simp at this
  | v :: vs, n :: ns, h => by
    have h0 := h.2 0 v (.bl n) rfl rfl
    cases h0
    rw [List.map_cons, Reps.bls (vs := vs) (ns := ns) ⟨by have := h.1; simpa using this, fun i v x a b => h.2 (i + 1) v x (by simpa using a) (by simpa using b)⟩]
theorem Reps.strs : ∀ {vs : List V} {ns : List Str}, Reps K F vs (ns.map D.str) → vs = ns.map V.str
  | [], [], _ => rfl
  | [], _ :: _, h => by have := h.1; simp at this
  | _ :: _, [], h => by have := h.1; simp at this
  | v :: vs, n :: ns, h => by
    have h0 := h.2 0 v (.str n) rfl rfl
    cases h0
    rw [List.map_cons, Reps.strs (vs := vs) (ns := ns) ⟨by have := h.1; simpa using this, fun i v x a b => h.2 (i + 1) v x (by simpa using a) (by simpa using b)⟩]
end
def asInts : List D → Option (List Int)
  | [] => some []
  | .int i :: r => (asInts r).map (i :: ·)
  | _ => none
theorem asInts_map : ∀ {xs : List D} {ns : List Int}, asInts xs = some ns → xs = ns.map D.int
  | [], ns, h => by cases h; rfl
  | x :: r, ns, h => by
    cases x <;> simp [asInts] at h
    obtain ⟨m, e, rfl⟩ := h
    rw [List.map_cons, ← asInts_map e]
def asBls : List D → Option (List Bool)
  | [] => some []
  | .bl i :: r => (asBls r).map (i :: ·)
  | _ => none
theorem asBls_map : ∀ {xs : List D} {ns : List Bool}, asBls xs = some ns → xs = ns.map D.bl
  | [], ns, h => by cases h; rfl
  | x :: r, ns, h => by
    cases x <;> simp [asBls] at h
    obtain ⟨m, e, rfl⟩ := h
    rw [List.map_cons, ← asBls_map e]
theorem asBls_of (ns : List Bool) : asBls (ns.map D.bl) = some ns := by
  induction ns with
  | nil => rfl
  | cons n ns ih => simp [asBls, ih]
theorem asInts_of (ns : List Int) : asInts (ns.map D.int) = some ns := by
  induction ns with
  | nil => rfl
  | cons n ns ih => simp [asInts, ih]
def asStrs : List D → Option (List Str)
  | [] => some []
  | .str i :: r => (asStrs r).map (i :: ·)
  | _ => none
theorem asStrs_map : ∀ {xs : List D} {ns : List Str}, asStrs xs = some ns → xs = ns.map D.str
  | [], ns, h => by cases h; rfl
  | x :: r, ns, h => by
    cases x <;> simp [asStrs] at h
    obtain ⟨m, e, rfl⟩ := h
    rw [List.map_cons, ← asStrs_map e]
theorem asStrs_of (ns : List Str) : asStrs (ns.map D.str) = some ns := by
  induction ns with
  | nil => rfl
  | cons n ns ih => simp [asStrs, ih]

/-! ### primitives by readings -/
/-- what is asked of the values: they stand for data on which g is told, and its outcome is wanted -/
def rG (K : PySem.W.Frag) (g : List D → Option Val) : List V → Hp → VK → Prop := fun vs H Q => ∃ (σ : St) (F : Hp) (ds : List D) (rv : Val), Same F H ∧ RepHs K H F vs ds ∧ g ds = some rv ∧ GivesV K H F σ rv Q
def r2G (K : PySem.W.Frag) (g : List D → Option Val) : R2 := fun x y H Q => rG K g [x, y] H Q
theorem opImp {X : Cx} {f : Value → Value → Sem Value} {r r' : R2} (h : OpR X f r) (i : ∀ x y H Q, r' x y H Q → r x y H Q) : OpR X f r' :=
  fun pins s σ H x y v u Q I rx ry q => h pins s σ H x y v u Q I rx ry (i x y H Q q)
theorem callImp {X : Cx} {f : Value} {r r' : List V → Hp → VK → Prop} (h : CallR X f r) (i : ∀ vs H Q, r' vs H Q → r vs H Q) : CallR X f r' :=
  fun pins s σ H xs us Q I r q => h pins s σ H xs us Q I r (i xs H Q q)
theorem ixImp {X : Cx} {r r' : R2} (h : IxR X r) (i : ∀ x y H Q, r' x y H Q → r x y H Q) : IxR X r' :=
  fun value slice pins s σ H x y v u Q I rx ry q hs => h value slice pins s σ H x y v u Q I rx ry (i x y H Q q) hs
section
variable {X : Cx} {W : WX} {R : Hp} {P : List (Option V)} {a b : Expr} {ma mb : DEnv → ER} {g : List D → Option Val} {pos : Pos}
theorem two {G H F : Hp} {σ : St} {env : DEnv} {L : List Addr} {Q : VK} (ha : ME X W R P a ma) (hb : ME X W R P b mb) (I : FI X.K R P G H F σ env L) (h : PostV X W R P G F σ (dPrim g [ma, mb] env) Q) :
    tOp (r2G X.K g) (tW X a) (tW X b) σ H Q := by
  have z := run_prim (.cons ha (.cons hb .nil)) I h
  exact tW_mono (Q := fun x H1 => tW X b σ H1 fun y H2 => _) z fun x H1 h1 => tW_mono h1 fun y H2 ⟨F', ds, rv, a, b, c, d⟩ => ⟨σ, F', ds, rv, a, b, c, d⟩
theorem me_bin {op : Operator} (ho : OpR X (binaryOp op) (r2G X.K g)) (ha : ME X W R P a ma) (hb : ME X W R P b mb) : ME X W R P (.BinOp a op b pos) (dPrim g [ma, mb]) :=
  fun G H F σ env L Q I h => w_of (pe_op ho pe_w pe_w) (two ha hb I h)
theorem me_cmp {op : CmpOp} (ho : OpR X (compareOp op) (r2G X.K g)) (ha : ME X W R P a ma) (hb : ME X W R P b mb) (hm : behindInMarks op b = false := by first | rfl | exact nomark _) : ME X W R P (.Compare a [op] [b] pos) (dPrim g [ma, mb]) :=
  fun G H F σ env L Q I h => w_of (pe_cmpR ho pe_w pe_w hm) (two ha hb I h)
theorem me_ix (ho : IxR X (r2G X.K g)) (ha : ME X W R P a ma) (hb : ME X W R P b mb) (hs : PlainIx b := by exact fun _ _ => rfl) : ME X W R P (.Subscript a b pos) (dPrim g [ma, mb]) :=
  fun G H F σ env L Q I h => w_of (pe_ix ho pe_w pe_w hs) (two ha hb I h)
theorem me_un {op : UnaryOp} {r : V → Hp → VK → Prop} (ho : UnR X (unaryOp op) r) (hr : ∀ x H Q, rG X.K g [x] H Q → r x H Q) (ha : ME X W R P a ma) : ME X W R P (.UnaryOp op a pos) (dPrim g [ma]) := by
  intro G H F σ env L Q I h
  refine w_of (pe_un ho pe_w) ?_
  exact tW_mono (Q := fun x H1 => ∃ F' ds rv, _) (run_prim (.cons ha .nil) I h) fun x H1 ⟨F', ds, rv, a, b, c, d⟩ => hr x H1 Q ⟨σ, F', ds, rv, a, b, c, d⟩
theorem me_callB {x : Str} {p : Pos} {e : Expr} {es : List Expr} {ms : List (DEnv → ER)} {id : String} (hc : CallR X (.builtin id) (rG X.K g)) (hg : Gl X x) (hm : X.mg x = none) (hv : bootBuiltins x = some (.builtin id)) (hs : MEs X W R P (e :: es) ms) (ha : PA X (e :: es) (tWa X (e :: es)))
    (hn : x ≠ "__name__" := by decide) (hdb : (x == ("__debug__" : Str)) = false := by decide) (he : starEach (e :: es) X.env = (false, eval e X.env) :: starEach es X.env := by rfl) (hpl : (backTo pos (starEach es X.env)).any (·.1) = false := by rfl) :
    ME X W R P (.Call (.Name x p) (e :: es) [] pos) (dPrim g ms) := fun G H F σ env L Q I h =>
  w_of (pe_callB hc hg hm hv ha hn hdb he hpl) (tWa_mono (run_prim hs I h) fun vs H1 ⟨F', ds, rv, a, b, c, d⟩ => ⟨σ, F', ds, rv, a, b, c, d⟩)
theorem me_callTy {x : Str} {p : Pos} {e : Expr} {es : List Expr} {ms : List (DEnv → ER)} {T : String} (hc : CallR X (.type T) (rG X.K g)) (hg : Gl X x) (hm : X.mg x = none) (hv : bootBuiltins x = some (.type T)) (hs : MEs X W R P (e :: es) ms) (ha : PA X (e :: es) (tWa X (e :: es)))
    (hn : x ≠ "__name__" := by decide) (hdb : (x == ("__debug__" : Str)) = false := by decide) (he : starEach (e :: es) X.env = (false, eval e X.env) :: starEach es X.env := by rfl) (hpl : (backTo pos (starEach es X.env)).any (·.1) = false := by rfl) :
    ME X W R P (.Call (.Name x p) (e :: es) [] pos) (dPrim g ms) := fun G H F σ env L Q I h =>
  w_of (pe_callTy hc hg hm hv ha hn hdb he hpl) (tWa_mono (run_prim hs I h) fun vs H1 ⟨F', ds, rv, a, b, c, d⟩ => ⟨σ, F', ds, rv, a, b, c, d⟩)
end

/-! ### numbers -/
def noInt : D → Bool
  | .int _ => false
  | _ => true
def gAdd : List D → Option Val
  | [.int a, .int b] => some (.fz (.int (a + b)))
  | [.str a, .str b] => if a.length + b.length ≤ sizeLine then some (.fz (.str (a ++ b))) else none
  | [.lst a, .lst b] => if a.length + b.length ≤ sizeLine then some (.tmp (.lst (a ++ b))) else none
  | [.tup a, .tup b] => if a.length + b.length ≤ sizeLine ∧ (a.all noInt && b.all noInt) = true then some (.fz (.tup (a ++ b))) else none
  | _ => none
def gSub : List D → Option Val
  | [.int a, .int b] => some (.fz (.int (a - b)))
  | _ => none
abbrev MulOk (a b : Int) : Prop := a.natAbs.log2 + b.natAbs.log2 < 134217720
def gMul : List D → Option Val
  | [.int a, .int b] => if MulOk a b then some (.fz (.int (a * b))) else none
  | _ => none
abbrev DivOk (b : Int) : Prop := 0 < b ∧ b.natAbs.log2 < 9000
def gDiv : List D → Option Val
  | [.int a, .int b] => if DivOk b then some (.fz (.int (a / b))) else none
  | _ => none
def gMod : List D → Option Val
  | [.int a, .int b] => if 0 < b then some (.fz (.int (a % b))) else none
  | _ => none
def gPow : List D → Option Val
  | [.int a, .int b] => if 0 ≤ b ∧ b ≤ 1000000 ∧ a.natAbs < 2 ^ 64 then some (.fz (.int (a ^ b.toNat))) else none
  | _ => none
def gNeg : List D → Option Val
  | [.int a] => some (.fz (.int (-a)))
  | _ => none
def gCmp (p : Int → Int → Bool) (q : Str → Str → Bool) : List D → Option Val
  | [.int a, .int b] => some (.fz (.bl (p a b)))
  | [.str a, .str b] => some (.fz (.bl (q a b)))
  | _ => none
abbrev strLt (a b : Str) : Bool := decide (a.cps.toList < b.cps.toList)
def gLt := gCmp (fun a b => decide (a < b)) strLt
def gGt := gCmp (fun a b => decide (b < a)) (fun a b => strLt b a)
def gLe := gCmp (fun a b => decide (a ≤ b)) (fun a b => !strLt b a)
def gGe := gCmp (fun a b => decide (b ≤ a)) (fun a b => !strLt a b)
def gEq : List D → Option Val
  | [a, b] => (deq a b).map fun r => .fz (.bl r)
  | _ => none
def gNe : List D → Option Val
  | [a, b] => (deq a b).map fun r => .fz (.bl (!r))
  | _ => none
section
variable {X : Cx}
theorem rd2 {K : PySem.W.Frag} {H F : Hp} {x y : V} {ds : List D} (h : RepHs K H F [x, y] ds) : ∃ dx dy, ds = [dx, dy] ∧ RepH K H F x dx ∧ RepH K H F y dy := by
  cases h with | cons a t => cases t with | cons b t => cases t; exact ⟨_, _, rfl, a, b⟩
theorem rd1 {K : PySem.W.Frag} {H F : Hp} {x : V} {ds : List D} (h : RepHs K H F [x] ds) : ∃ dx, ds = [dx] ∧ RepH K H F x dx := by
  cases h with | cons a t => cases t; exact ⟨_, rfl, a⟩
theorem MulOk.ok {i j : Int} (h : MulOk i j) : IntMulOk i j := by
  have b : ∀ x : Int, Builtin.Int.intBits x ≤ x.natAbs.log2 + 1 := fun x => by
    unfold Builtin.Int.intBits
    split <;> omega
  have h1 := b i
  have h2 := b j
  have h3 : i.natAbs.log2 + j.natAbs.log2 < 134217720 := h
  have e : bitsLine = 134217728 := by decide
  unfold IntMulOk
  intro z
  rw [Bool.and_eq_true] at z
  have z2 := z.2
  unfold Builtin.Int.intTooBig at z2
  have z3 := of_decide_eq_true z2
  rw [e] at z3
  omega
theorem op_mulD : OpR X (binaryOp .Mult) (rI MulOk fun i j => .int (i * j)) := opI fun _ _ _ _ _ _ _ hc q => mul_int q hc.ok
theorem opd_sub : OpR X (binaryOp .Sub) (r2G X.K gSub) := opImp op_sub fun x y H Q ⟨σ, F, ds, rv, fh, h, e, k⟩ => by
  obtain ⟨dx, dy, rfl, hx, hy⟩ := rd2 h
  cases hx <;> cases hy <;> simp [gSub] at e
  subst e
  exact ⟨_, _, rfl, rfl, k.atom (X := X) fh (.int _)⟩
theorem opd_mul : OpR X (binaryOp .Mult) (r2G X.K gMul) := opImp op_mulD fun x y H Q ⟨σ, F, ds, rv, fh, h, e, k⟩ => by
  obtain ⟨dx, dy, rfl, hx, hy⟩ := rd2 h
  cases hx <;> cases hy <;> simp only [gMul] at e <;> first | (cases e; done) | skip
  split at e
  · rename_i hm
    cases e
    exact ⟨_, _, rfl, rfl, hm, k.atom (X := X) fh (.int _)⟩
  · cases e
theorem opd_div : OpR X (binaryOp .FloorDiv) (r2G X.K gDiv) := opImp op_fdivW fun x y H Q ⟨σ, F, ds, rv, fh, h, e, k⟩ => by
  obtain ⟨dx, dy, rfl, hx, hy⟩ := rd2 h
  cases hx <;> cases hy <;> simp only [gDiv] at e <;> first | (cases e; done) | skip
  split at e
  · rename_i hm
    cases e
    exact ⟨_, _, rfl, rfl, hm, k.atom (X := X) fh (.int _)⟩
  · cases e
theorem opd_mod : OpR X (binaryOp .Mod) (r2G X.K gMod) := opImp op_mod fun x y H Q ⟨σ, F, ds, rv, fh, h, e, k⟩ => by
  obtain ⟨dx, dy, rfl, hx, hy⟩ := rd2 h
  cases hx <;> cases hy <;> simp only [gMod] at e <;> first | (cases e; done) | skip
  split at e
  · rename_i hm
    cases e
    exact ⟨_, _, rfl, rfl, hm, k.atom (X := X) fh (.int _)⟩
  · cases e
theorem opd_pow : OpR X (binaryOp .Pow) (r2G X.K gPow) := opImp op_pow fun x y H Q ⟨σ, F, ds, rv, fh, h, e, k⟩ => by
  obtain ⟨dx, dy, rfl, hx, hy⟩ := rd2 h
  cases hx <;> cases hy <;> simp only [gPow] at e <;> first | (cases e; done) | skip
  split at e
  · rename_i hm
    cases e
    exact ⟨_, _, rfl, rfl, hm, k.atom (X := X) fh (.int _)⟩
  · cases e
/-- two lists, as they stand -/
def rCatR : R2 := fun x y H Q => ∃ l b xs zs, x = .ref l ∧ y = .ref b ∧ Rd H l (.lst xs) ∧ Rd H b (.lst zs) ∧ xs.length + zs.length ≤ sizeLine ∧ ∀ p, H p = none → Q (.ref p) (upd H p (.lst (xs ++ zs)))
theorem lstR {pins : List (Addr × Obj)} {σ : St} {H : Hp} {s : Shared} {l : Addr} {xs : List V} (I : Inv X pins σ H s) (hH : Rd H l (.lst xs)) : xs.length ≤ sizeLine ∧ ∃ (its : List Value) (n : Nat), Vals xs its ∧ xs.length = its.length ∧ s.heap.get? l = some { cls := .type "list", data := .seq its.toArray n } := by
  obtain ⟨z, its, n, r, e⟩ := hH.ok I.hok
  exact ⟨z, its, n, r, r.length, e⟩
theorem op_catR : OpR X (binaryOp .Add) rCatR := by
  intro pins s σ H x y v u Q I rx ry h
  obtain ⟨l, b, xs, zs, rfl, rfl, hH, hB, hz, q⟩ := h
  cases rx
  cases ry
  obtain ⟨z, its, n, r, hl, e⟩ := lstR I hH
  obtain ⟨z2, its2, n2, r2, hl2, e2⟩ := lstR I hB
  refine PySem.P.add_list e e2 ?_ (by rw [List.size_toArray, List.size_toArray]; omega)
  have ea : its.toArray ++ its2.toArray = (its ++ its2).toArray := by simp
  rw [ea]
  exact ⟨.ref _, _, I.lnew (t' := s.toks) (r.append r2) (by rw [List.length_append]; omega), rfl, q _ I.fresh⟩
theorem lay_tupH {K : PySem.W.Frag} {H F : Hp} {a : Addr} {xs : List D} (h : RepH K H F (.ref a) (.tup xs)) (hn : xs.all noInt = true) (fh : Same F H) : ∃ F', Same F F' ∧ Same F' H ∧ NewF H F F' ∧ Rep K F' (.ref a) (.tup xs) := by
  cases h with
  | @tup _ vs _ h hk hi =>
    have e : H a = some (.tup vs) := by
      rcases hk with hk | ⟨n, hk⟩
      · exact hk
      · have := List.all_eq_true.1 hn _ hk
        cases this
    have e1 : Same F (upd F a (.tup vs)) := fun b o q => by
      by_cases hb : b = a
      · subst hb; rw [upd_same]; have := fh _ _ q; rw [e] at this; exact this
      · rw [upd_ne hb]; exact q
    have e2 : Same (upd F a (.tup vs)) H := fun b o q => by
      by_cases hb : b = a
      · subst hb; rw [upd_same] at q; cases q; exact e
      · rw [upd_ne hb] at q; exact fh _ _ q
    have e3 : NewF H F (upd F a (.tup vs)) := fun b q => by
      by_cases hb : b = a
      · subst hb; exact .inr (.inr ⟨vs, e⟩)
      · rw [upd_ne hb] at q; exact .inl q
    have hi' := hi.mono e1
    exact ⟨_, e1, e2, e3, .tup (.inl (.inl upd_same)) (.inl upd_same) hi'.1 hi'.2⟩
/-- tuple + tuple -/
theorem op_catT : OpR X (binaryOp .Add) (fun x y H Q => ∃ l b xs zs, x = .ref l ∧ y = .ref b ∧ SqT X.K H l xs ∧ SqT X.K H b zs ∧ xs.length + zs.length ≤ sizeLine ∧ (xs = [] → Q (.ref b) H) ∧ (zs = [] → Q (.ref l) H) ∧ ∀ p, H p = none → Q (.ref p) (upd H p (.tup (xs ++ zs)))) := by
  intro pins s σ H x y v u Q I rx ry h
  obtain ⟨l, b, xs, zs, rfl, rfl, hH, hB, hz, q0, q1, q⟩ := h
  obtain rfl : v = Value.ref l := rx
  obtain rfl : u = Value.ref b := ry
  obtain ⟨its, r, ht, _⟩ := I.tuple hH
  obtain ⟨its2, r2, ht2, _⟩ := I.tuple hB
  have hl := r.length
  have hl2 := r2.length
  obtain ⟨⟨cls, dd, data, sl⟩, ho, hc, n, hd⟩ := id ht
  obtain ⟨⟨cls2, dd2, data2, sl2⟩, ho2, hc2, n2, hd2⟩ := id ht2
  simp only at hc hd hc2 hd2
  subst hc hd hc2 hd2
  have e : its.toArray ++ its2.toArray = (its ++ its2).toArray := by simp
  by_cases hv : its = []
  · refine concat_meets ⟨_, ho, rfl⟩ ⟨_, ho2, rfl⟩ noFill_tuple_add seq_tuple_add PySem.F.slot_tuple_add PySem.F.entry_tuple_add (PySem.F.args_tuple_add_2 _ _)
      (PyProof.Rows.tuple_addW0 l b its.toArray its2.toArray n n2 dd dd2 sl sl2 (by simp [hv])) ⟨ho, ho2, .ref b, H, I, rfl, q0 ?_⟩
    subst hv; exact List.length_eq_zero_iff.1 hl
  · by_cases hw : its2 = []
    · refine concat_meets ⟨_, ho, rfl⟩ ⟨_, ho2, rfl⟩ noFill_tuple_add seq_tuple_add PySem.F.slot_tuple_add PySem.F.entry_tuple_add (PySem.F.args_tuple_add_2 _ _)
        (PyProof.Rows.tuple_addW1 l b its.toArray its2.toArray n n2 dd dd2 sl sl2 (by simpa using hv) (by simp [hw])) ⟨ho, ho2, .ref l, H, I, rfl, q1 ?_⟩
      subst hw; exact List.length_eq_zero_iff.1 hl2
    · refine concat_meets ⟨_, ho, rfl⟩ ⟨_, ho2, rfl⟩ noFill_tuple_add seq_tuple_add PySem.F.slot_tuple_add PySem.F.entry_tuple_add (PySem.F.args_tuple_add_2 _ _)
        (PyProof.Rows.tuple_addW2 l b its.toArray its2.toArray n n2 dd dd2 sl sl2 (by simpa using hv) (by simpa using hw) (by rw [List.size_toArray, List.size_toArray]; omega)) ⟨ho, ho2, ?_⟩
      rw [e]
      exact ⟨.ref _, upd H s.heap.objs.size (.tup (xs ++ zs)), I.laid (t' := s.toks) (fun _ _ q => Heap.get?_push_of_some _ q) (Nat.le_refl _) (show ObjOk X.prog X.w _ _ _ (.tup (xs ++ zs)) from ⟨by rw [List.length_append]; omega, _, r.append r2, ⟨_, Heap.get?_push_size _ rfl, rfl, _, rfl⟩⟩), rfl, q _ I.fresh⟩
theorem opd_add : OpR X (binaryOp .Add) (r2G X.K gAdd) := opImp (OpR.or (OpR.or op_add (OpR.or op_add_str op_catR)) op_catT) fun x y H Q ⟨σ, F, ds, rv, fh, h, e, k⟩ => by
  obtain ⟨dx, dy, rfl, hx, hy⟩ := rd2 h
  cases hx with
  | int i => cases hy <;> simp only [gAdd] at e <;> first | (cases e; done) | skip
             cases e; exact .inl (.inl ⟨_, _, rfl, rfl, k.atom (X := X) fh (.int _)⟩)
  | str i =>
    cases hy <;> simp only [gAdd] at e <;> first | (cases e; done) | skip
    split at e
    · rename_i hl; cases e; exact .inl (.inr (.inl ⟨_, _, rfl, rfl, hl, k.atom (X := X) fh (.str _)⟩))
    · cases e
  | lst ha hi =>
    cases hy with
    | lst hb hj =>
      simp only [gAdd] at e
      split at e
      · rename_i hl
        cases e
        refine .inl (.inr (.inr ⟨_, _, _, _, rfl, rfl, ha, hb, by rw [hi.1, hj.1]; exact hl, fun p n => ?_⟩))
        exact k.own (X := X) fh n (.lst upd_same (hi.append hj))
      · cases e
    | _ => cases e
  | @tup a vs xs ha hk hi =>
    have hx : RepH X.K H F (.ref a) (.tup xs) := .tup ha hk hi
    cases hy with
    | @tup b ws ys hb hk' hj =>
      have hy : RepH X.K H F (.ref b) (.tup ys) := .tup hb hk' hj
      simp only [gAdd] at e
      split at e
      · rename_i hl
        cases e
        obtain ⟨hl, hn⟩ := hl
        simp only [Bool.and_eq_true] at hn
        refine .inr ⟨_, _, _, _, rfl, rfl, ha, hb, by rw [hi.1, hj.1]; exact hl, fun z => ?_, fun z => ?_, fun p n => ?_⟩
        · have : xs = [] := by have := hi.1; rw [z] at this; exact List.length_eq_zero_iff.1 this.symm
          subst this
          obtain ⟨F', s1, s2, s3, r⟩ := lay_tupH hy hn.2 fh
          exact k _ H F' [] (Same.refl H) s1 s2 s3 ⟨rfl, r⟩ List.nodup_nil (fun _ z => nomatch z)
        · have : ys = [] := by have := hj.1; rw [z] at this; exact List.length_eq_zero_iff.1 this.symm
          subst this
          rw [List.append_nil] at k
          obtain ⟨F', s1, s2, s3, r⟩ := lay_tupH hx hn.1 fh
          exact k _ H F' [] (Same.refl H) s1 s2 s3 ⟨rfl, r⟩ List.nodup_nil (fun _ z => nomatch z)
        · have hh := (hi.append hj).mono (same_upd (o := .tup (vs ++ ws)) (fh.free n))
          exact k.new (X := X) fh n (.tup (.inl (.inl upd_same)) (.inl upd_same) hh.1 hh.2)
      · cases e
    | _ => cases e
  | _ => cases hy <;> cases e
theorem opd_neg : UnR X (unaryOp .USub) (rU fun i => .int (-i)) := un_neg
theorem neg_imp (x : V) (H : Hp) (Q : VK) (h : rG X.K gNeg [x] H Q) : rU (fun i => .int (-i)) x H Q := by
  obtain ⟨σ, F, ds, rv, fh, h, e, k⟩ := h
  obtain ⟨dx, rfl, hx⟩ := rd1 h
  cases hx <;> simp [gNeg] at e
  subst e
  exact ⟨_, rfl, k.atom (X := X) fh (.int _)⟩
theorem cmp_imp {op : CmpOp} {p : Int → Int → Bool} {q : Str → Str → Bool} (h1 : OpR X (compareOp op) (rI0 fun i j => .bl (p i j))) (h2 : OpR X (compareOp op) (fun x y H Q => ∃ i j, x = .str i ∧ y = .str j ∧ Q (.bl (q i j)) H)) :
    OpR X (compareOp op) (r2G X.K (gCmp p q)) := opImp (OpR.or h1 h2) fun x y H Q ⟨σ, F, ds, rv, fh, h, e, k⟩ => by
  obtain ⟨dx, dy, rfl, hx, hy⟩ := rd2 h
  cases hx <;> cases hy <;> simp only [gCmp] at e <;> first | (cases e; done) | skip
  · cases e; exact .inl ⟨_, _, rfl, rfl, k.atom (X := X) fh (.bl _)⟩
  · cases e; exact .inr ⟨_, _, rfl, rfl, k.atom (X := X) fh (.bl _)⟩
theorem opd_lt : OpR X (compareOp .Lt) (r2G X.K gLt) := cmp_imp op_lt op_lt_str
theorem opd_gt : OpR X (compareOp .Gt) (r2G X.K gGt) := cmp_imp op_gt op_gt_str
theorem opd_le : OpR X (compareOp .LtE) (r2G X.K gLe) := cmp_imp op_le op_le_str
theorem opd_ge : OpR X (compareOp .GtE) (r2G X.K gGe) := cmp_imp op_ge op_ge_str
theorem opd_eq (hu : X.A.units + 64 < cLine) : OpR X (compareOp .Eq) (r2G X.K gEq) := by
  intro pins s σ H x y v u Q I rx ry ⟨σ', F, ds, rv, fh, h, e, k⟩
  obtain ⟨dx, dy, rfl, hx, hy⟩ := rd2 h
  simp only [gEq] at e
  cases ed : deq dx dy with
  | none => rw [ed] at e; cases e
  | some b =>
    rw [ed] at e
    cases e
    exact rc_step I (by omega) (fun a b c d e => eqAt_rep I fh (n := 19) (by show X.A.units + 1 + 19 < cLine; omega) a b c d e) hx hy rx ry ed X.prog X.w X.xe _ ⟨.bl b, H, I, rfl, k.atom (X := X) fh (.bl _)⟩
theorem opd_ne (hu : X.A.units + 64 < cLine) : OpR X (compareOp .NotEq) (r2G X.K gNe) := by
  intro pins s σ H x y v u Q I rx ry ⟨σ', F, ds, rv, fh, h, e, k⟩
  obtain ⟨dx, dy, rfl, hx, hy⟩ := rd2 h
  simp only [gNe] at e
  cases ed : deq dx dy with
  | none => rw [ed] at e; cases e
  | some b =>
    rw [ed] at e
    cases e
    exact rn_step I (by omega) (fun a b c d e => eqAt_rep I fh (n := 19) (by show X.A.units + 1 + 19 < cLine; omega) a b c d e) hx hy rx ry ed X.prog X.w X.xe _ ⟨.bl (!b), H, I, rfl, k.atom (X := X) fh (.bl _)⟩
end
end DX

namespace DX
open PySem PySem.Spec L2
open PyProof.Rows hiding St

def gIx : List D → Option Val
  | [.lst xs, .int i] => (atI xs i).map .fz
  | [.tup xs, .int i] => (atI xs i).map .fz
  | [.scr xs, .int i] => (atI xs i).map fun n => .fz (.int n)
  | [.str z, .int i] => if z.length ≤ sizeLine then (atI z.cps.toList i).map fun c => .fz (.str ⟨#[c]⟩) else none
  | _ => none
def cutL {α : Type} (xs : List α) (lo hi : Option Int) : List α := (xs.drop (HT.sIx xs.length 0 lo)).take (HT.sIx xs.length xs.length hi - HT.sIx xs.length 0 lo)
def gLen : List D → Option Val
  | [.lst xs] => some (.fz (.int xs.length))
  | [.tup xs] => some (.fz (.int xs.length))
  | [.scr xs] => some (.fz (.int xs.length))
  | [.str z] => if z.length ≤ sizeLine then some (.fz (.int z.length)) else none
  | _ => none
def gAbs : List D → Option Val
  | [.int a] => some (.fz (.int (if a < 0 then -a else a)))
  | _ => none
def gMax : List D → Option Val
  | [.int i, .int j] => some (.fz (.int (if j > i then j else i)))
  | _ => none
def gMin : List D → Option Val
  | [.int i, .int j] => some (.fz (.int (if j < i then j else i)))
  | _ => none
def gInt : List D → Option Val
  | [.int i] => some (.fz (.int i))
  | [.bl b] => some (.fz (.int (if b then 1 else 0)))
  | _ => none
def gTuple : List D → Option Val
  | [.lst xs] => some (.fz (.tup xs))
  | _ => none
def gList : List D → Option Val
  | [.lst xs] => some (.tmp (.lst xs))
  | [.tup xs] => some (.tmp (.lst xs))
  | _ => none
def isNon : D → Bool
  | .non => true
  | _ => false
def gIsN : List D → Option Val
  | [x, .non] => some (.fz (.bl (isNon x)))
  | _ => none
def gNotN : List D → Option Val
  | [x, .non] => some (.fz (.bl (!isNon x)))
  | _ => none
def gAll : List D → Option Val
  | [.lst xs] => (asBls xs).map fun bs => .fz (.bl (bs.all id))
  | _ => none
def gAny : List D → Option Val
  | [.lst xs] => (asBls xs).map fun bs => .fz (.bl (bs.any id))
  | _ => none
theorem Reps.tupNew {K : PySem.W.Frag} {F : Hp} {vs : List V} {xs : List D} {p : Addr} (h : Reps K F vs xs) (n : F p = none) : Rep K (upd F p (.tup vs)) (.ref p) (.tup xs) :=
  let h' := h.mono (same_upd n); .tup (.inl (.inl upd_same)) (.inl upd_same) h'.1 h'.2
section
variable {X : Cx} {W : WX} {R : Hp} {P : List (Option V)} {g : List D → Option Val} {pos : Pos}
theorem ixN_lt {n : Nat} {i : Int} {j : Nat} (h : ixN n i = some j) : j < n := (ixN_seq h).2.1
theorem atI_rep {K : PySem.W.Frag} {F : Hp} {vs : List V} {xs : List D} {i : Int} {x : D} (h : Reps K F vs xs) (e : atI xs i = some x) : ∃ v, atI vs i = some v ∧ Rep K F v x := by
  unfold atI at e ⊢
  rw [← h.1] at e
  cases q : ixN vs.length i with
  | none => rw [q] at e; cases e
  | some j =>
    rw [q] at e
    exact h.get e
theorem ixd : IxR X (r2G X.K gIx) := ixImp ix_seq fun x y H Q ⟨σ, F, ds, rv, fh, h, e, k⟩ => by
  obtain ⟨dx, dy, rfl, hx, hy⟩ := rd2 h
  cases hy with
  | int i =>
    cases hx with
    | @lst a vs xs ha hi =>
      simp only [gIx] at e
      cases q : atI xs i with
      | none => rw [q] at e; cases e
      | some d =>
        rw [q] at e; cases e
        obtain ⟨v, q1, q2⟩ := atI_rep hi q
        exact .inl ⟨_, _, _, _, rfl, rfl, .inl ha, q1, k.atom (X := X) fh q2⟩
    | @tup a vs xs ha hk hi =>
      simp only [gIx] at e
      cases q : atI xs i with
      | none => rw [q] at e; cases e
      | some d =>
        rw [q] at e; cases e
        obtain ⟨v, q1, q2⟩ := atI_rep hi q
        exact .inr (.inl ⟨_, _, _, _, rfl, rfl, ha, q1, k.atom (X := X) fh q2⟩)
    | @scr a ns ha =>
      simp only [gIx] at e
      cases q : atI ns i with
      | none => rw [q] at e; cases e
      | some d =>
        rw [q] at e; cases e
        refine .inl ⟨_, _, _, .int d, rfl, rfl, ha, ?_, k.atom (X := X) fh (.int d)⟩
        unfold atI at q ⊢
        rw [List.length_map]
        cases z : ixN ns.length i with
        | none => rw [z] at q; cases q
        | some j =>
          rw [z] at q
          show (ns.map V.int)[j]? = _
          rw [List.getElem?_map, show ns[j]? = some d from q]; rfl
    | str z =>
      simp only [gIx] at e
      split at e
      · rename_i hl
        cases q : atI z.cps.toList i with
        | none => rw [q] at e; cases e
        | some d =>
          rw [q] at e; cases e
          exact .inr (.inr ⟨_, _, _, rfl, rfl, hl, q, k.atom (X := X) fh (.str _)⟩)
      · cases e
    | _ => cases e
  | _ => cases hx <;> cases e
theorem callLen : CallR X (.builtin "len") (rG X.K gLen) := callImp call_len fun vs H Q ⟨σ, F, ds, rv, fh, h, e, k⟩ => by
  cases h with
  | nil => cases e
  | cons h t =>
    cases t with
    | cons h2 t2 => cases h <;> cases e
    | nil =>
      cases h with
      | lst ha hi => cases e; exact ⟨_, _, rfl, .inl ⟨_, .inl ha, hi.1.symm⟩, k.atom (X := X) fh (.int _)⟩
      | scr ha => cases e; exact ⟨_, _, rfl, .inl ⟨_, ha, by simp⟩, k.atom (X := X) fh (.int _)⟩
      | tup ha hk hi => cases e; exact ⟨_, _, rfl, .inr ⟨_, ha, hi.1.symm⟩, k.atom (X := X) fh (.int _)⟩
      | str z =>
        simp only [gLen] at e
        split at e
        · rename_i hl; cases e; exact ⟨_, _, rfl, ⟨hl, rfl⟩, k.atom (X := X) fh (.int _)⟩
        · cases e
      | _ => cases e
theorem one {K : PySem.W.Frag} {H F : Hp} {vs : List V} {d : D} (h : RepHs K H F vs [d]) : ∃ x, vs = [x] ∧ RepH K H F x d := by
  cases h with | cons a t => cases t; exact ⟨_, rfl, a⟩
theorem twoH {K : PySem.W.Frag} {H F : Hp} {vs : List V} {d e : D} (h : RepHs K H F vs [d, e]) : ∃ x y, vs = [x, y] ∧ RepH K H F x d ∧ RepH K H F y e := by
  cases h with | cons a t => cases t with | cons b t => cases t; exact ⟨_, _, rfl, a, b⟩
theorem callAbs : CallR X (.builtin "abs") (rG X.K gAbs) := callImp call_abs fun vs H Q ⟨σ, F, ds, rv, fh, h, e, k⟩ => by
  unfold gAbs at e; split at e
  · cases e; obtain ⟨x, rfl, hx⟩ := one h; cases hx; exact ⟨_, rfl, k.atom (X := X) fh (.int _)⟩
  · cases e
theorem callMax (hc : X.calm = true) : CallR X (.builtin "max") (rG X.K gMax) := callImp (call_max2 hc) fun vs H Q ⟨σ, F, ds, rv, fh, h, e, k⟩ => by
  unfold gMax at e; split at e
  · cases e; obtain ⟨x, y, rfl, hx, hy⟩ := twoH h; cases hx; cases hy; exact ⟨_, _, rfl, k.atom (X := X) fh (.int _)⟩
  · cases e
theorem callMin (hc : X.calm = true) : CallR X (.builtin "min") (rG X.K gMin) := callImp (call_min2 hc) fun vs H Q ⟨σ, F, ds, rv, fh, h, e, k⟩ => by
  unfold gMin at e; split at e
  · cases e; obtain ⟨x, y, rfl, hx, hy⟩ := twoH h; cases hx; cases hy; exact ⟨_, _, rfl, k.atom (X := X) fh (.int _)⟩
  · cases e
theorem callInt : CallR X (.type "int") (rG X.K gInt) := callImp call_int1 fun vs H Q ⟨σ, F, ds, rv, fh, h, e, k⟩ => by
  unfold gInt at e; split at e
  · cases e; obtain ⟨x, rfl, hx⟩ := one h; cases hx; exact .inl ⟨_, rfl, k.atom (X := X) fh (.int _)⟩
  · cases e; obtain ⟨x, rfl, hx⟩ := one h; cases hx; exact .inr ⟨_, rfl, k.atom (X := X) fh (.int _)⟩
  · cases e
theorem callTuple : CallR X (.type "tuple") (rG X.K gTuple) := callImp call_tuple_of fun vs H Q ⟨σ, F, ds, rv, fh, h, e, k⟩ => by
  unfold gTuple at e; split at e
  · cases e; obtain ⟨x, rfl, hx⟩ := one h
    cases hx with
    | lst ha hi =>
      refine ⟨_, _, rfl, .inl ⟨.inl ha, fun l n => ?_⟩⟩
      exact k.new (X := X) fh n (hi.tupNew (fh.free n))
  · cases e
theorem callList : CallR X (.type "list") (rG X.K gList) := callImp call_list_of fun vs H Q ⟨σ, F, ds, rv, fh, h, e, k⟩ => by
  unfold gList at e; split at e
  · cases e; obtain ⟨x, rfl, hx⟩ := one h
    cases hx with | lst ha hi => exact ⟨_, _, rfl, .inl (.inl ha), fun l n => k.own (X := X) fh n (.lst upd_same hi)⟩
  · cases e; obtain ⟨x, rfl, hx⟩ := one h
    cases hx with | tup ha hk hi => exact ⟨_, _, rfl, .inr ha, fun l n => k.own (X := X) fh n (.lst upd_same hi)⟩
  · cases e
theorem callAll (hc : X.calm = true) : CallR X (.builtin "all") (rG X.K gAll) := callImp (cr_all hc) fun vs H Q ⟨σ, F, ds, rv, fh, h, e, k⟩ => by
  unfold gAll at e; split at e
  · rename_i xs
    cases q : asBls xs with
    | none => rw [q] at e; cases e
    | some bs =>
      rw [q] at e; cases e
      obtain ⟨x, rfl, hx⟩ := one h
      have e2 := asBls_map q
      subst e2
      cases hx with | lst ha hi => have e3 := Reps.bls hi; subst e3; exact ⟨_, _, rfl, .inl ha, k.atom (X := X) fh (.bl _)⟩
  · cases e
theorem callAny (hc : X.calm = true) : CallR X (.builtin "any") (rG X.K gAny) := callImp (cr_any hc) fun vs H Q ⟨σ, F, ds, rv, fh, h, e, k⟩ => by
  unfold gAny at e; split at e
  · rename_i xs
    cases q : asBls xs with
    | none => rw [q] at e; cases e
    | some bs =>
      rw [q] at e; cases e
      obtain ⟨x, rfl, hx⟩ := one h
      have e2 := asBls_map q
      subst e2
      cases hx with | lst ha hi => have e3 := Reps.bls hi; subst e3; exact ⟨_, _, rfl, .inl ha, k.atom (X := X) fh (.bl _)⟩
  · cases e
theorem isN_dec {K : PySem.W.Frag} {H F : Hp} {x : V} {d : D} (h : RepH K H F x d) : decide (x = .non) = isNon d := by
  cases h <;> simp [isNon]
theorem opd_isN : OpR X (compareOp .Is) (r2G X.K gIsN) := opImp op_isN fun x y H Q ⟨σ, F, ds, rv, fh, h, e, k⟩ => by
  obtain ⟨dx, dy, rfl, hx, hy⟩ := rd2 h
  unfold gIsN at e; split at e
  · rename_i q; cases q; cases e; cases hy; refine ⟨rfl, ?_⟩; rw [isN_dec hx]; exact k.atom (X := X) fh (.bl _)
  · cases e
theorem opd_notN : OpR X (compareOp .IsNot) (r2G X.K gNotN) := opImp op_notN fun x y H Q ⟨σ, F, ds, rv, fh, h, e, k⟩ => by
  obtain ⟨dx, dy, rfl, hx, hy⟩ := rd2 h
  unfold gNotN at e; split at e
  · rename_i q; cases q; cases e; cases hy; refine ⟨rfl, ?_⟩; rw [isN_dec hx]; exact k.atom (X := X) fh (.bl _)
  · cases e

/-! ### slices -/
def gSlice (lo hi : Option Int) : D → Option Val
  | .lst xs => some (.tmp (.lst (cutL xs lo hi)))
  | .scr ns => some (.tmp (.lst ((cutL ns lo hi).map D.int)))
  | .str z => if z.length ≤ sizeLine then some (.fz (.str (cutS z lo hi))) else none
  | .tup xs => if HT.sIx xs.length 0 lo = 0 ∧ HT.sIx xs.length xs.length hi = xs.length then none else some (.fz (.tup (cutL xs lo hi)))
  | _ => none
theorem cut_map {α β : Type} (f : α → β) (xs : List α) (lo hi : Option Int) : cutL (xs.map f) lo hi = (cutL xs lo hi).map f := by
  unfold cutL; rw [List.length_map, List.map_take, List.map_drop]
theorem Reps.cut {K : PySem.W.Frag} {F : Hp} {vs : List V} {xs : List D} (lo hi : Option Int) (h : Reps K F vs xs) : Reps K F (cutV vs lo hi) (cutL xs lo hi) := by
  unfold cutV cutL; rw [h.1]; exact (h.drop _).take _
theorem Reps.ofInts {K : PySem.W.Frag} {F : Hp} (ns : List Int) : Reps K F (ns.map V.int) (ns.map D.int) := ⟨by simp, fun i v x a b => by
  rw [List.getElem?_map] at a b
  cases q : ns[i]? with
  | none => rw [q] at a; cases a
  | some n => rw [q] at a b; cases a; cases b; exact .int n⟩
def rSlD (K : PySem.W.Frag) : V → Option Int → Option Int → Hp → VK → Prop := fun x lo hi H Q => ∃ σ F d rv, Same F H ∧ RepH K H F x d ∧ gSlice lo hi d = some rv ∧ GivesV K H F σ rv Q
theorem slImp {r r' : V → Option Int → Option Int → Hp → VK → Prop} (h : SlR X r) (i : ∀ x lo hi H Q, r' x lo hi H Q → r x lo hi H Q) : SlR X r' :=
  fun pins s σ H x v vl vu lo hi sl Q I rx hs pl pu q => h pins s σ H x v vl vu lo hi sl Q I rx hs pl pu (i x lo hi H Q q)
theorem sl_tup : SlR X (fun x lo hi H Q => ∃ a xs, x = .ref a ∧ SqT X.K H a xs ∧ ¬ (HT.sIx xs.length 0 lo = 0 ∧ HT.sIx xs.length xs.length hi = xs.length) ∧ ∀ p, H p = none → Q (.ref p) (upd H p (.tup (cutV xs lo hi)))) := by
  intro pins s σ H x v vl vu lo hi sl Q I rx hs pl pu h
  obtain ⟨a, xs, rfl, hx, hw, q⟩ := h
  obtain rfl : v = Value.ref a := rx
  obtain ⟨its, r, ht, hz⟩ := I.tuple hx
  have hlen := r.length
  refine ⟨"tuple", _, PyProof.Rows.slot_tuple_getitem.lookup, ht.typeIs, ?_⟩
  refine HT.getItem_tuple_cut ht hs pl pu (by rw [List.size_toArray, ← hlen]; exact hw) ?_ (by rw [List.size_toArray]; omega)
  refine ⟨.ref s.heap.objs.size, upd H s.heap.objs.size (.tup (cutV xs lo hi)), I.laid (t' := s.toks) (fun b ob q => Heap.get?_push_of_some _ q) (Nat.le_refl _)
    (show ObjOk X.prog X.w _ _ _ (.tup (cutV xs lo hi)) from ⟨Nat.le_trans (cutV_length xs lo hi) hz, _, (r.drop (HT.sIx xs.length 0 lo)).take (HT.sIx xs.length xs.length hi - HT.sIx xs.length 0 lo), ⟨_, Heap.get?_push_size _ rfl, rfl, 0, ?_⟩⟩), rfl, q _ (I.hok.fresh (Nat.le_refl _))⟩
  simp [hlen]
theorem sl_d : SlR X (rSlD X.K) := slImp (SlR.or (SlR.or sl_list sl_str) sl_tup) fun x lo hi H Q ⟨σ, F, d, rv, fh, h, e, k⟩ => by
  cases h with
  | lst ha hj => cases e; exact .inl (.inl ⟨_, _, rfl, .inl ha, fun p n => k.own (X := X) fh n (.lst upd_same (hj.cut lo hi))⟩)
  | @scr a ns ha =>
    cases e
    refine .inl (.inl ⟨_, _, rfl, ha, fun p n => k.own (X := X) fh n (.lst upd_same ?_)⟩)
    have e2 : cutV (ns.map V.int) lo hi = (cutL ns lo hi).map V.int := cut_map V.int ns lo hi
    rw [e2]
    exact Reps.ofInts _
  | str z =>
    simp only [gSlice] at e
    split at e
    · rename_i hl; cases e; exact .inl (.inr ⟨_, rfl, hl, k.atom (X := X) fh (.str _)⟩)
    · cases e
  | tup ha hk hj =>
    simp only [gSlice] at e
    split at e
    · cases e
    · rename_i hw
      cases e
      refine .inr ⟨_, _, rfl, ha, by rw [hj.1]; exact hw, fun p n => ?_⟩
      exact k.new (X := X) fh n ((hj.cut lo hi).tupNew (fh.free n))
  | _ => cases e
/-- an evaluation while a value is held -/
theorem hold {G H F : Hp} {σ : St} {env : DEnv} {L Lr : List Addr} {Q Q' : VK} {v : V} {rv : Val} {b : Expr} {mb : DEnv → ER} {f : Val → DEnv → ER} (hb : ME X W R P b mb) (I : FI X.K R P G H F σ env L) (r : RepVal X.K H F σ v rv Lr) (nd : (Lr ++ L).Nodup) (fr : ∀ a ∈ Lr, F a = none ∧ G a = none)
    (h : PostV X W R P G F σ ((mb env).bind f) Q') (k : ∀ rw env' w H' F' L' Lw, mb env = .ok rw env' → FI X.K R P G H' F' σ env' L' → Same F F' → NewF G F F' → RepVal X.K H' F' σ v rv Lr → RepVal X.K H' F' σ w rw Lw → (Lr ++ (Lw ++ L')).Nodup →
      (∀ a ∈ Lr, F' a = none ∧ G a = none) → (∀ a ∈ Lw, F' a = none ∧ G a = none) → PostV X W R P G F' σ (f rw env') Q' → Q w H') : tW X b σ H Q := by
  have ndr : Lr.Nodup := (List.nodup_append.mp nd).1
  refine hb (addG G H Lr) H F σ env L Q (I.held nd fr) ?_
  cases e : mb env with
  | err => rw [e] at h; exact h
  | raise c env' => rw [e] at h; exact PRaise.less (addG_same fun a q => (fr a q).2) I.rg h
  | ok rw env' =>
    rw [e] at h
    intro w H' F' L' Lw I' s n rw' nd' fr'
    obtain ⟨J, n', rk, nk, frk, nn⟩ := held_back I r fr I' s n
    refine k rw env' w H' F' L' Lw e J s n' rk rw' ?_ frk (fun a ha => ⟨(fr' a ha).1, (addG_same fun a q => (fr a q).2).free (fr' a ha).2⟩) (PostV.later s n' h)
    have q1 := List.nodup_append.mp (nk ndr)
    refine List.nodup_append.mpr ⟨ndr, nd', fun a ha b hb => ?_⟩
    rcases List.mem_append.mp hb with z | z
    · exact fun q => nn a ha (by rw [q]; exact (fr' b z).2)
    · exact q1.2.2 a ha b z
/-- an evaluation, then what stands behind it -/
theorem then_ {G H F : Hp} {σ : St} {env : DEnv} {L : List Addr} {Q Q' : VK} {b : Expr} {mb : DEnv → ER} {f : Val → DEnv → ER} (hb : ME X W R P b mb) (I : FI X.K R P G H F σ env L)
    (h : PostV X W R P G F σ ((mb env).bind f) Q') (k : ∀ rw env' w H' F' L' Lw, mb env = .ok rw env' → FI X.K R P G H' F' σ env' L' → Same F F' → NewF G F F' → RepVal X.K H' F' σ w rw Lw → (Lw ++ L').Nodup →
      (∀ a ∈ Lw, F' a = none ∧ G a = none) → PostV X W R P G F' σ (f rw env') Q' → Q w H') : tW X b σ H Q := by
  refine hb G H F σ env L Q I ?_
  cases e : mb env with
  | err => rw [e] at h; exact h
  | raise c env' => rw [e] at h; exact h
  | ok rw env' =>
    rw [e] at h
    intro w H' F' L' Lw I' s n r nd fr
    exact k rw env' w H' F' L' Lw e I' s n r nd fr (PostV.later s n h)
def dFin (r : Option Val) (env : DEnv) : ER := match r with
  | some rv => .ok rv env
  | none => .err
def dSl2 (me ml mh : DEnv → ER) : DEnv → ER := fun env => (me env).bind fun ve e1 => (ml e1).bind fun vl e2 => match vl with
  | .fz (.int i) => (mh e2).bind fun vh e3 => match vh with
    | .fz (.int j) => dFin ((rdV e3 ve).bind (gSlice (some i) (some j))) e3
    | _ => .err
  | _ => .err
def dSlL (me ml : DEnv → ER) : DEnv → ER := fun env => (me env).bind fun ve e1 => (ml e1).bind fun vl e2 => match vl with
  | .fz (.int i) => dFin ((rdV e2 ve).bind (gSlice (some i) none)) e2
  | _ => .err
def dSlH (me ml : DEnv → ER) : DEnv → ER := fun env => (me env).bind fun ve e1 => (ml e1).bind fun vl e2 => match vl with
  | .fz (.int i) => dFin ((rdV e2 ve).bind (gSlice none (some i))) e2
  | _ => .err
theorem fin_ok {G H F : Hp} {σ : St} {env : DEnv} {L Lr : List Addr} {Q : VK} {v : V} {rv : Val} {lo hi : Option Int} (I : FI X.K R P G H F σ env L) (r : RepVal X.K H F σ v rv Lr)
    (h : PostV X W R P G F σ (dFin ((rdV env rv).bind (gSlice lo hi)) env) Q) : rSlD X.K v lo hi H Q := by
  cases e : rdV env rv with
  | none => rw [e] at h; exact h.elim
  | some d =>
    rw [e] at h
    cases e2 : gSlice lo hi d with
    | none => simp only [Option.bind, dFin, e2] at h; exact h.elim
    | some rw => simp only [Option.bind, dFin, e2] at h; exact ⟨σ, F, d, rw, I.fh, rdV_ok I r e, e2, gives_of I h⟩
theorem me_sl2 {e l h : Expr} {me ml mh : DEnv → ER} {p2 pos : Pos} (he : ME X W R P e me) (hl : ME X W R P l ml) (hh : ME X W R P h mh) : ME X W R P (.Subscript e (.Slice (some l) (some h) none p2) pos) (dSl2 me ml mh) := by
  intro G H F σ env L Q I q
  refine w_of (pe_slice sl_d pe_w (po_some pe_w) (po_some pe_w)) ?_
  refine then_ he I q fun ve e1 v H1 F1 L1 Lv _ I1 s1 n1 r1 nd1 fr1 q1 => ?_
  refine hold hl I1 r1 nd1 fr1 q1 fun vl e2 w H2 F2 L2 Lw _ I2 s2 n2 r2 rw2 nd2 fr2 frw q2 => ?_
  cases vl with
  | fz d =>
    cases d with
    | int i =>
      obtain ⟨rfl, rr⟩ := rw2
      cases rr
      refine ⟨i, rfl, ?_⟩
      refine hold hh I2 r2 (by simpa using nd2) fr2 q2 fun vh e3 w H3 F3 L3 Lw3 _ I3 s3 n3 r3 rw3 nd3 fr3 frw3 q3 => ?_
      cases vh with
      | fz d =>
        cases d with
        | int j =>
          obtain ⟨rfl, rr⟩ := rw3
          cases rr
          exact ⟨j, rfl, fin_ok I3 r3 q3⟩
        | _ => exact q3.elim
      | _ => exact q3.elim
    | _ => exact q2.elim
  | _ => exact q2.elim
theorem me_slL {e l : Expr} {me ml : DEnv → ER} {p2 pos : Pos} (he : ME X W R P e me) (hl : ME X W R P l ml) : ME X W R P (.Subscript e (.Slice (some l) none none p2) pos) (dSlL me ml) := by
  intro G H F σ env L Q I q
  refine w_of (pe_slice sl_d pe_w (po_some pe_w) po_none) ?_
  refine then_ he I q fun ve e1 v H1 F1 L1 Lv _ I1 s1 n1 r1 nd1 fr1 q1 => ?_
  refine hold hl I1 r1 nd1 fr1 q1 fun vl e2 w H2 F2 L2 Lw _ I2 s2 n2 r2 rw2 nd2 fr2 frw q2 => ?_
  cases vl with
  | fz d =>
    cases d with
    | int i =>
      obtain ⟨rfl, rr⟩ := rw2
      cases rr
      exact ⟨i, rfl, fin_ok I2 r2 q2⟩
    | _ => exact q2.elim
  | _ => exact q2.elim
theorem me_slH {e l : Expr} {me ml : DEnv → ER} {p2 pos : Pos} (he : ME X W R P e me) (hl : ME X W R P l ml) : ME X W R P (.Subscript e (.Slice none (some l) none p2) pos) (dSlH me ml) := by
  intro G H F σ env L Q I q
  refine w_of (pe_slice sl_d pe_w po_none (po_some pe_w)) ?_
  refine then_ he I q fun ve e1 v H1 F1 L1 Lv _ I1 s1 n1 r1 nd1 fr1 q1 => ?_
  refine hold hl I1 r1 nd1 fr1 q1 fun vl e2 w H2 F2 L2 Lw _ I2 s2 n2 r2 rw2 nd2 fr2 frw q2 => ?_
  cases vl with
  | fz d =>
    cases d with
    | int i =>
      obtain ⟨rfl, rr⟩ := rw2
      cases rr
      exact ⟨i, rfl, fin_ok I2 r2 q2⟩
    | _ => exact q2.elim
  | _ => exact q2.elim
/-- xs[::-1] -/
def gRev : List D → Option Val
  | [.lst xs] => some (.tmp (.lst xs.reverse))
  | _ => none
theorem me_rev {e : Expr} {me : DEnv → ER} {k : Nat} {p1 p2 p3 pos : Pos} (he : ME X W R P e me) : ME X W R P (.Subscript e (.Slice none none (some (.UnaryOp .USub (.Constant (.int 1) k p1) p2)) p3) pos) (dPrim gRev [me]) := by
  intro G H F σ env L Q I q
  refine w_of (pe_revL pe_w) ?_
  refine tW_mono (Q := fun x H1 => ∃ F' ds rv, _) (run_prim (.cons he .nil) I q) fun x H1 ⟨F', ds, rv, fh, h, e, k⟩ => ?_
  unfold gRev at e; split at e
  · cases e
    obtain ⟨x, ex, hx⟩ := one h
    cases ex
    cases hx with | lst ha hi => exact ⟨_, _, rfl, .inl ha, fun p n => k.own (X := X) fh n (.lst upd_same hi.reverse)⟩
  · cases e
end
end DX

namespace DX
open PySem PySem.Spec L2
open PyProof.Rows hiding St

/-! ### tests -/
inductive TR where
  | ok (b : Bool) (env : DEnv) | raise (c : Str) (env : DEnv) | err
def TOk (X : Cx) (R : Hp) (P : List (Option V)) (G F : Hp) (σ : St) (b : Bool) (env : DEnv) (Q : Bool → Hp → Prop) : Prop :=
  ∀ (H' F' : Hp) (L' : List Addr), FI X.K R P G H' F' σ env L' → Same F F' → NewF G F F' → Q b H'
def PostT (X : Cx) (W : WX) (R : Hp) (P : List (Option V)) (G F : Hp) (σ : St) (r : TR) (Q : Bool → Hp → Prop) : Prop := match r with
  | .ok b env => TOk X R P G F σ b env Q
  | .raise c env => PRaise X W R P G F σ c env
  | .err => False
def MT (X : Cx) (W : WX) (R : Hp) (P : List (Option V)) (e : Expr) (m : DEnv → TR) : Prop :=
  ∀ (G H F : Hp) (σ : St) (env : DEnv) (L : List Addr) (Q : Bool → Hp → Prop), FI X.K R P G H F σ env L → PostT X W R P G F σ (m env) Q → tWt X e σ H Q
/-- whatever its 'whole' is -/
def tWw (X : Cx) (e : Expr) : TT := fun σ H Q => ∀ (whole : Sem Value) (pins : List (Addr × Obj)) (s : Shared), Inv X pins σ H s → wpAny (model X.prog X.w) X.A (isTrue e X.env whole) (TP X pins σ Q) X.xe s
theorem pw_w {X : Cx} {e : Expr} : PW X e (tWw X e) := ⟨fun wh pins s σ H Q I h => h wh pins s I⟩
theorem ww_of {X : Cx} {e : Expr} {t : TT} {σ : St} {H : Hp} {Q : Bool → Hp → Prop} (h : PW X e t) (q : t σ H Q) : tWw X e σ H Q := fun wh pins s I => h.run wh pins s σ H Q I q
def MW (X : Cx) (W : WX) (R : Hp) (P : List (Option V)) (e : Expr) (m : DEnv → TR) : Prop :=
  ∀ (G H F : Hp) (σ : St) (env : DEnv) (L : List Addr) (Q : Bool → Hp → Prop), FI X.K R P G H F σ env L → PostT X W R P G F σ (m env) Q → tWw X e σ H Q
def TR.bind (r : TR) (f : Bool → DEnv → TR) : TR := match r with
  | .ok b env => f b env
  | .raise c env => .raise c env
  | .err => .err
def TR.thn (r : TR) (f : Bool → DEnv → FR) : FR := match r with
  | .ok b env => f b env
  | .raise c env => .raise c env
  | .err => .err
def TR.thenE (r : TR) (f : Bool → DEnv → ER) : ER := match r with
  | .ok b env => f b env
  | .raise c env => .raise c env
  | .err => .err
def dTst (m : DEnv → ER) : DEnv → TR := fun env => match m env with
  | .ok (.fz (.bl b)) env => .ok b env
  | .raise c env => .raise c env
  | _ => .err
def dNotT (m : DEnv → TR) : DEnv → TR := fun env => (m env).bind fun b e => .ok (!b) e
def dAndT (ma mb : DEnv → TR) : DEnv → TR := fun env => (ma env).bind fun b e => if b then mb e else .ok false e
def dOrT (ma mb : DEnv → TR) : DEnv → TR := fun env => (ma env).bind fun b e => if b then .ok true e else mb e
section
variable {X : Cx} {W : WX} {R : Hp} {P : List (Option V)} {a b : Expr} {rest : List Expr} {pos : Pos}
theorem PostT.later {G F F' : Hp} {σ : St} {r : TR} {Q : Bool → Hp → Prop} (e : Same F F') (n : NewF G F F') (h : PostT X W R P G F σ r Q) : PostT X W R P G F' σ r Q := by
  cases r with
  | ok b env => exact fun H' F'' L' I s n' => h H' F'' L' I (e.trans s) (n.trans n')
  | raise c env => exact PRaise.later e n h
  | err => exact h
theorem tst_post {m : DEnv → ER} {G F : Hp} {σ : St} {env : DEnv} {Q : Bool → Hp → Prop} (q : PostT X W R P G F σ (dTst m env) Q) : PostV X W R P G F σ (m env) (fun x H' => ∃ c, x = .bl c ∧ Q c H') := by
  unfold dTst at q
  cases e : m env with
  | err => rw [e] at q; exact q
  | raise c env' => rw [e] at q; exact q
  | ok rv env' =>
    rw [e] at q
    cases rv with
    | fz d =>
      cases d with
      | bl c =>
        intro v H' F' L' Lr I' s n r nd fr
        obtain ⟨rfl, r⟩ := r
        cases r
        exact ⟨c, rfl, q H' F' L' I' s n⟩
      | _ => exact q.elim
    | _ => exact q.elim
theorem mt_val {m : DEnv → ER} (h : ME X W R P a m) (he : ∀ whole, isTrue a X.env whole = (do let v ← whole; standAt a.pos; holding [v] (truthy v)) := by intro _; rfl) : MT X W R P a (dTst m) := by
  intro G H F σ env L Q I q
  exact wt_of (pt_val pe_w he) (h G H F σ env L _ I (tst_post q))
theorem mt_cmp {op : CmpOp} {ma mb : DEnv → ER} {g : List D → Option Val} (ho : OpR X (compareOp op) (r2G X.K g)) (ha : ME X W R P a ma) (hb : ME X W R P b mb) (hm : behindInMarks op b = false := by first | rfl | exact nomark _) : MT X W R P (.Compare a [op] [b] pos) (dTst (dPrim g [ma, mb])) := by
  intro G H F σ env L Q I q
  exact wt_of (pt_cmpR ho pe_w pe_w hm) (two ha hb I (tst_post q))
theorem mt_bind {m : DEnv → TR} {f : Bool → DEnv → TR} {G H F : Hp} {σ : St} {env : DEnv} {L : List Addr} {Q Q' : Bool → Hp → Prop} (h : MT X W R P a m) (I : FI X.K R P G H F σ env L) (q : PostT X W R P G F σ ((m env).bind f) Q')
    (k : ∀ c env' H' F' L', m env = .ok c env' → FI X.K R P G H' F' σ env' L' → Same F F' → NewF G F F' → PostT X W R P G F' σ (f c env') Q' → Q c H') : tWt X a σ H Q := by
  refine h G H F σ env L Q I ?_
  cases e : m env with
  | err => rw [e] at q; exact q
  | raise c env' => rw [e] at q; exact q
  | ok c env' => rw [e] at q; exact fun H' F' L' I' s n => k c env' H' F' L' e I' s n (PostT.later s n q)
theorem PostT.now {G H F : Hp} {σ : St} {env : DEnv} {L : List Addr} {Q : Bool → Hp → Prop} {c : Bool} (I : FI X.K R P G H F σ env L) (h : PostT X W R P G F σ (.ok c env) Q) : Q c H := h H F L I (Same.refl F) NewF.refl
theorem mt_not {m : DEnv → TR} (h : MT X W R P a m) : MT X W R P (.UnaryOp .Not a pos) (dNotT m) := by
  intro G H F σ env L Q I q
  exact wt_of (pt_not pt_w) (mt_bind h I q fun c env' H' F' L' _ I' s n q' => PostT.now I' q')
theorem mw_and1 {m : DEnv → TR} (h : MT X W R P a m) : MW X W R P (.BoolOp .And [a] pos) m := fun G H F σ env L Q I q => ww_of (pw_and1 pt_w) (h G H F σ env L Q I q)
theorem mw_or1 {m : DEnv → TR} (h : MT X W R P a m) : MW X W R P (.BoolOp .Or [a] pos) m := fun G H F σ env L Q I q => ww_of (pw_or1 pt_w) (h G H F σ env L Q I q)
theorem mw_and {ma mb : DEnv → TR} (h : MT X W R P a ma) (h2 : MW X W R P (.BoolOp .And (b :: rest) pos) mb) : MW X W R P (.BoolOp .And (a :: b :: rest) pos) (dAndT ma mb) := by
  intro G H F σ env L Q I q
  refine ww_of (pw_and pt_w pw_w) ?_
  refine mt_bind h I q fun c env' H' F' L' _ I' s n q' => ?_
  cases c with
  | true => exact iteT (h2 G H' F' σ env' L' Q I' q')
  | false => exact iteF (PostT.now I' q')
theorem mw_or {ma mb : DEnv → TR} (h : MT X W R P a ma) (h2 : MW X W R P (.BoolOp .Or (b :: rest) pos) mb) : MW X W R P (.BoolOp .Or (a :: b :: rest) pos) (dOrT ma mb) := by
  intro G H F σ env L Q I q
  refine ww_of (pw_or pt_w pw_w) ?_
  refine mt_bind h I q fun c env' H' F' L' _ I' s n q' => ?_
  cases c with
  | true => exact iteT (PostT.now I' q')
  | false => exact iteF (h2 G H' F' σ env' L' Q I' q')
theorem mt_w {m : DEnv → TR} (h : MW X W R P a m) : MT X W R P a m := fun G H F σ env L Q I q pins s J => h G H F σ env L Q I q _ pins s J
end
def dNotV (m : DEnv → ER) : DEnv → ER := fun env => (dTst m env).thenE fun b e => .ok (.fz (.bl (!b))) e
def dAndV (ma mb : DEnv → ER) : DEnv → ER := fun env => (dTst ma env).thenE fun b e => if b then mb e else .ok (.fz (.bl false)) e
def dOrV (ma mb : DEnv → ER) : DEnv → ER := fun env => (dTst ma env).thenE fun b e => if b then .ok (.fz (.bl true)) e else mb e
def dIfE (mc : DEnv → TR) (ma mb : DEnv → ER) : DEnv → ER := fun env => (mc env).thenE fun b e => if b then ma e else mb e
section
variable {X : Cx} {W : WX} {R : Hp} {P : List (Option V)} {a b c : Expr} {rest : List Expr} {pos : Pos}
theorem mv_bind {m : DEnv → ER} {f : Bool → DEnv → ER} {G H F : Hp} {σ : St} {env : DEnv} {L : List Addr} {Q Q' : VK} (h : ME X W R P a m) (I : FI X.K R P G H F σ env L) (q : PostV X W R P G F σ ((dTst m env).thenE f) Q')
    (k : ∀ c env' H' F' L', FI X.K R P G H' F' σ env' L' → Same F F' → NewF G F F' → PostV X W R P G F' σ (f c env') Q' → Q (.bl c) H') : tW X a σ H Q := by
  refine h G H F σ env L Q I ?_
  unfold dTst at q
  cases e : m env with
  | err => rw [e] at q; exact q
  | raise c env' => rw [e] at q; exact q
  | ok rv env' =>
    rw [e] at q
    cases rv with
    | fz d =>
      cases d with
      | bl c =>
        intro v H' F' L' Lr I' s n r nd fr
        obtain ⟨rfl, r⟩ := r
        cases r
        exact k c env' H' F' L' I' s n (PostV.later s n q)
      | _ => exact q.elim
    | _ => exact q.elim
theorem PostV.now {G H F : Hp} {σ : St} {env : DEnv} {L : List Addr} {Q : VK} {d : D} {v : V} (I : FI X.K R P G H F σ env L) (h : PostV X W R P G F σ (.ok (.fz d) env) Q) (r : Rep X.K F v d) : Q v H := POk.now h I r
theorem me_not {m : DEnv → ER} (h : ME X W R P a m) : ME X W R P (.UnaryOp .Not a pos) (dNotV m) := by
  intro G H F σ env L Q I q
  exact w_of (pe_not pe_w) (mv_bind h I q fun c env' H' F' L' I' s n q' => ⟨c, rfl, PostV.now I' q' (.bl _)⟩)
theorem me_one {op} {m : DEnv → ER} (h : ME X W R P a m) : ME X W R P (.BoolOp op [a] pos) m := fun G H F σ env L Q I q => w_of (pe_one pe_w) (h G H F σ env L Q I q)
theorem me_and {ma mb : DEnv → ER} (h : ME X W R P a ma) (h2 : ME X W R P (.BoolOp .And (b :: rest) pos) mb) : ME X W R P (.BoolOp .And (a :: b :: rest) pos) (dAndV ma mb) := by
  intro G H F σ env L Q I q
  refine w_of (pe_and pe_w pe_w) ?_
  refine mv_bind h I q fun c env' H' F' L' I' s n q' => ⟨c, rfl, ?_⟩
  cases c with
  | true => exact iteT (h2 G H' F' σ env' L' Q I' q')
  | false => exact iteF (PostV.now I' q' (.bl _))
theorem me_or {ma mb : DEnv → ER} (h : ME X W R P a ma) (h2 : ME X W R P (.BoolOp .Or (b :: rest) pos) mb) : ME X W R P (.BoolOp .Or (a :: b :: rest) pos) (dOrV ma mb) := by
  intro G H F σ env L Q I q
  refine w_of (pe_or pe_w pe_w) ?_
  refine mv_bind h I q fun c env' H' F' L' I' s n q' => ⟨c, rfl, ?_⟩
  cases c with
  | true => exact iteT (PostV.now I' q' (.bl _))
  | false => exact iteF (h2 G H' F' σ env' L' Q I' q')
theorem me_ifE {mc : DEnv → TR} {ma mb : DEnv → ER} (hc : MT X W R P c mc) (h : ME X W R P a ma) (h2 : ME X W R P b mb) : ME X W R P (.IfExp c a b pos) (dIfE mc ma mb) := by
  intro G H F σ env L Q I q
  refine w_of (pe_ifExp pt_w pe_w pe_w) ?_
  refine hc G H F σ env L _ I ?_
  unfold dIfE at q
  cases e : mc env with
  | err => rw [e] at q; exact q
  | raise c env' => rw [e] at q; exact q
  | ok c env' =>
    rw [e] at q
    intro H' F' L' I' s n
    have q' := PostV.later s n q
    cases c with
    | true => exact iteT (h G H' F' σ env' L' Q I' q')
    | false => exact iteF (h2 G H' F' σ env' L' Q I' q')
end

/-! ### statements -/
def NOk (X : Cx) (R : Hp) (P : List (Option V)) (G F : Hp) (env : DEnv) (k : St → Hp → Prop) : Prop :=
  ∀ (σ' : St) (H' F' : Hp) (L' : List Addr), FI X.K R P G H' F' σ' env L' → Same F F' → NewF G F F' → k σ' H'
def PostS (X : Cx) (W : WX) (R : Hp) (P : List (Option V)) (G F : Hp) (r : FR) (D : Ends) : Prop := match r with
  | .next env => NOk X R P G F env D.nx
  | .brk env => NOk X R P G F env D.bk
  | .cnt env => NOk X R P G F env D.ct
  | .ret rv env => ∀ (v : V) (σ' : St) (H' F' : Hp) (L' Lr : List Addr), FI X.K R P G H' F' σ' env L' → Same F F' → NewF G F F' → RepVal X.K H' F' σ' v rv Lr → (Lr ++ L').Nodup → (∀ a ∈ Lr, F' a = none ∧ G a = none) → D.rt v H'
  | .raise c env => ∀ (C : Addr) (σ' : St) (H' F' : Hp) (L' : List Addr), X.mg c = some (.ref C) → FI X.K R P G H' F' σ' env L' → Same F F' → NewF G F F' → W (.ref C) none σ' H'
  | .err => False
def MS (X : Cx) (W : WX) (R : Hp) (P : List (Option V)) (st : Stmt) (m : DEnv → FR) : Prop :=
  ∀ (G H F : Hp) (σ : St) (env : DEnv) (L : List Addr) (D : Ends), FI X.K R P G H F σ env L → PostS X W R P G F (m env) D → tWs X st D σ H
def MSs (X : Cx) (W : WX) (R : Hp) (P : List (Option V)) (st : List Stmt) (m : DEnv → FR) : Prop :=
  ∀ (G H F : Hp) (σ : St) (env : DEnv) (L : List Addr) (D : Ends), FI X.K R P G H F σ env L → PostS X W R P G F (m env) D → tWss X st D σ H
section
variable {X : Cx} {W : WX} {R : Hp} {P : List (Option V)} {pos : Pos} {st : Stmt} {sts : List Stmt}
theorem PostS.later {G F F' : Hp} {r : FR} {D : Ends} (e : Same F F') (n : NewF G F F') (h : PostS X W R P G F r D) : PostS X W R P G F' r D := by
  cases r with
  | next env => exact fun σ' H' F'' L' I s n' => h σ' H' F'' L' I (e.trans s) (n.trans n')
  | brk env => exact fun σ' H' F'' L' I s n' => h σ' H' F'' L' I (e.trans s) (n.trans n')
  | cnt env => exact fun σ' H' F'' L' I s n' => h σ' H' F'' L' I (e.trans s) (n.trans n')
  | ret rv env => exact fun v σ' H' F'' L' Lr I s n' r nd fr => h v σ' H' F'' L' Lr I (e.trans s) (n.trans n') r nd fr
  | raise c env => exact fun C σ' H' F'' L' g I s n' => h C σ' H' F'' L' g I (e.trans s) (n.trans n')
  | err => exact h
theorem PostS.less {G G' F : Hp} {r : FR} {D : Ends} (gg : Same G G') (rg : Same R G) (h : PostS X W R P G F r D) : PostS X W R P G' F r D := by
  have nf : ∀ a, G' a = none → G a = none := fun a => gg.free
  cases r with
  | next env => exact fun σ' H' F'' L' I s n' => h σ' H' F'' L' (I.less gg rg) s (n'.less gg)
  | brk env => exact fun σ' H' F'' L' I s n' => h σ' H' F'' L' (I.less gg rg) s (n'.less gg)
  | cnt env => exact fun σ' H' F'' L' I s n' => h σ' H' F'' L' (I.less gg rg) s (n'.less gg)
  | ret rv env => exact fun v σ' H' F'' L' Lr I s n' r nd fr => h v σ' H' F'' L' Lr (I.less gg rg) s (n'.less gg) r nd fun a ha => ⟨(fr a ha).1, nf a (fr a ha).2⟩
  | raise c env => exact fun C σ' H' F'' L' g I s n' => h C σ' H' F'' L' g (I.less gg rg) s (n'.less gg)
  | err => exact h
/-- other ends, where these say more -/
theorem PostS.ends {G F : Hp} {r : FR} {D D' : Ends} (h : PostS X W R P G F r D) (n : ∀ σ H, D.nx σ H → D'.nx σ H) (rt : ∀ v H, D.rt v H → D'.rt v H) (bk : ∀ σ H, D.bk σ H → D'.bk σ H) (ct : ∀ σ H, D.ct σ H → D'.ct σ H) : PostS X W R P G F r D' := by
  cases r with
  | next env => exact fun σ' H' F'' L' I s n' => n _ _ (h σ' H' F'' L' I s n')
  | brk env => exact fun σ' H' F'' L' I s n' => bk _ _ (h σ' H' F'' L' I s n')
  | cnt env => exact fun σ' H' F'' L' I s n' => ct _ _ (h σ' H' F'' L' I s n')
  | ret rv env => exact fun v σ' H' F'' L' Lr I s n' r nd fr => rt _ _ (h v σ' H' F'' L' Lr I s n' r nd fr)
  | raise c env => exact h
  | err => exact h
theorem NOk.now {G H F : Hp} {σ : St} {env : DEnv} {L : List Addr} {k : St → Hp → Prop} (I : FI X.K R P G H F σ env L) (h : NOk X R P G F env k) : k σ H := h σ H F L I (Same.refl F) NewF.refl
theorem mss_nil : MSs X W R P [] (fun env => .next env) := fun G H F σ env L D I q => wss_of pss_nil (NOk.now I q)
def dSeq (ma mb : DEnv → FR) : DEnv → FR := fun env => (ma env).bind mb
theorem mss_cons {ma mb : DEnv → FR} (h : MS X W R P st ma) (h2 : MSs X W R P sts mb) : MSs X W R P (st :: sts) (dSeq ma mb) := by
  intro G H F σ env L D I q
  refine wss_of (pss_cons ps_w pss_w) ?_
  refine h G H F σ env L _ I ?_
  unfold dSeq at q
  cases e : ma env with
  | next env' => rw [e] at q; exact fun σ' H' F' L' I' s n => h2 G H' F' σ' env' L' D I' (PostS.later s n q)
  | brk env' => rw [e] at q; exact q
  | cnt env' => rw [e] at q; exact q
  | ret rv env' => rw [e] at q; exact q
  | raise c env' => rw [e] at q; exact q
  | err => rw [e] at q; exact q
theorem mss_one {ma : DEnv → FR} (h : MS X W R P st ma) : MSs X W R P [st] ma := by
  intro G H F σ env L D I q
  exact wss_of (pss_one ps_w) (h G H F σ env L D I q)
/-- an expression, then a statement's rest -/
theorem me_thn {e : Expr} {m : DEnv → ER} {f : Val → DEnv → FR} {G H F : Hp} {σ : St} {env : DEnv} {L : List Addr} {Q : VK} {D : Ends} (h : ME X W R P e m) (I : FI X.K R P G H F σ env L) (q : PostS X W R P G F ((m env).thn f) D)
    (k : ∀ rv env' v H' F' L' Lr, FI X.K R P G H' F' σ env' L' → Same F F' → NewF G F F' → RepVal X.K H' F' σ v rv Lr → (Lr ++ L').Nodup → (∀ a ∈ Lr, F' a = none ∧ G a = none) → PostS X W R P G F' (f rv env') D → Q v H') : tW X e σ H Q := by
  refine h G H F σ env L Q I ?_
  cases em : m env with
  | err => rw [em] at q; exact q
  | raise c env' => rw [em] at q; exact fun C H' F' L' g I' s n => q C σ H' F' L' g I' s n
  | ok rv env' => rw [em] at q; exact fun v H' F' L' Lr I' s n r nd fr => k rv env' v H' F' L' Lr I' s n r nd fr (PostS.later s n q)
def dDrop (m : DEnv → ER) : DEnv → FR := fun env => (m env).thn fun _ e => .next e
theorem ms_expr {e : Expr} {m : DEnv → ER} (h : ME X W R P e m) (hs : swapsWith e none pos.line X.env = pure false := by rfl) : MS X W R P (.Expr e pos) (dDrop m) := by
  intro G H F σ env L D I q
  exact ws_of (ps_expr pe_w hs) (me_thn h I q fun rv env' v H' F' L' Lr I' s n r nd fr q' => NOk.now I' q')
theorem ms_doc {x j pos'} : MS X W R P (.Expr (.Constant (.str x) j pos) pos') (fun env => .next env) := fun G H F σ env L D I q => ws_of ps_doc (NOk.now I q)
theorem ms_pass : MS X W R P (.Pass pos) (fun env => .next env) := fun G H F σ env L D I q => ws_of ps_pass (NOk.now I q)
theorem ms_break : MS X W R P (.Break pos) (fun env => .brk env) := fun G H F σ env L D I q => ws_of ps_break (NOk.now I q)
theorem ms_continue : MS X W R P (.Continue pos) (fun env => .cnt env) := fun G H F σ env L D I q => ws_of ps_continue (NOk.now I q)
def dRet (m : DEnv → ER) : DEnv → FR := fun env => (m env).thn fun v e => .ret v e
theorem ms_ret {e : Expr} {m : DEnv → ER} (h : ME X W R P e m) : MS X W R P (.Return (some e) pos) (dRet m) := by
  intro G H F σ env L D I q
  exact ws_of (ps_ret pe_w) (me_thn h I q fun rv env' v H' F' L' Lr I' s n r nd fr q' => q' v σ H' F' L' Lr I' (Same.refl F') NewF.refl r nd fr)
theorem ms_retN : MS X W R P (.Return none pos) (fun env => .ret (.fz .non) env) := fun G H F σ env L D I q => ws_of ps_retN (q .non σ H F L [] I (Same.refl F) NewF.refl ⟨rfl, .non⟩ I.disj fun _ z => nomatch z)
def dIf (mc : DEnv → TR) (ma mb : DEnv → FR) : DEnv → FR := fun env => (mc env).thn fun b e => if b then ma e else mb e
theorem ms_if {c : Expr} {a b : List Stmt} {mc : DEnv → TR} {ma mb : DEnv → FR} (hc : MT X W R P c mc) (ha : MSs X W R P a ma) (hb : MSs X W R P b mb) : MS X W R P (.If c a b pos) (dIf mc ma mb) := by
  intro G H F σ env L D I q
  refine ws_of (ps_if pt_w pss_w pss_w) ?_
  refine hc G H F σ env L _ I ?_
  unfold dIf at q
  cases e : mc env with
  | err => rw [e] at q; exact q
  | raise c env' => rw [e] at q; exact fun C H' F' L' g I' s n => q C σ H' F' L' g I' s n
  | ok c env' =>
    rw [e] at q
    intro H' F' L' I' s n
    have q' := PostS.later s n q
    cases c with
    | true => exact iteT (ha G H' F' σ env' L' D I' q')
    | false => exact iteF (hb G H' F' σ env' L' D I' q')

/-! ### assignment -/
/-- a slot is stored -/
def putRaw (env : DEnv) (i : Nat) : Val → Option DEnv
  | .fz d => some (env.set i (.v .fz d))
  | .tmp d => some (env.set i (.v .ow d))
  | .br j => match env[j]? with
    | some (.v .rd d) => some (env.set i (.v .rd d))
    | _ => match frzV env (.br j) with
      | some (d, env') => some (env'.set i (.v .fz d))
      | none => none
def putV (env : DEnv) (i : Nat) (rv : Val) : Option DEnv := match env[i]? with
  | some (.v .io _) => none
  | some .pin => none
  | none => none
  | _ => putRaw env i rv
theorem getElem?_lt {α : Type} {l : List α} {i : Nat} {x : α} (h : l[i]? = some x) : i < l.length := (List.getElem?_eq_some_iff.mp h).1
theorem FI.putFz {G H F : Hp} {σ : St} {env : DEnv} {L : List Addr} {i : Nat} {v : V} {d : D} (I : FI X.K R P G H F σ env L) (r : Rep X.K F v d) (hi : i < env.length) :
    ∃ L', FI X.K R P G H F (σ.set i (some v)) (env.set i (.v .fz d)) L' ∧ ∀ a ∈ L', a ∈ L := by
  obtain ⟨L', e, m, n⟩ := I.er.set (Lr := []) (o := some v) (s := .v .fz d) (fun _ _ _ _ t => .fz r t) hi
  have m' : ∀ a ∈ L', a ∈ L := fun a ha => (m a ha).elim (fun z => nomatch z) id
  exact ⟨L', ⟨I.fh, I.gh, I.rg, e, n (by simpa using I.nd), fun a ha => I.fr a (m' a ha)⟩, m'⟩
theorem putV_ok {G H F : Hp} {σ : St} {env env' : DEnv} {L Lr : List Addr} {i : Nat} {v : V} {rv : Val} (I : FI X.K R P G H F σ env L) (r : RepVal X.K H F σ v rv Lr) (nd : (Lr ++ L).Nodup) (fr : ∀ a ∈ Lr, F a = none ∧ G a = none) (e : putV env i rv = some env') :
    ∃ F' L', FI X.K R P G H F' (σ.set i (some v)) env' L' ∧ Same F F' ∧ NewF G F F' := by
  unfold putV at e
  have main : i < env.length → putRaw env i rv = some env' → ∃ F' L', FI X.K R P G H F' (σ.set i (some v)) env' L' ∧ Same F F' ∧ NewF G F F' := by
    intro hi e
    cases rv with
    | fz d =>
      cases e
      obtain ⟨L', I', _⟩ := I.putFz r.2 hi
      exact ⟨F, L', I', Same.refl F, NewF.refl⟩
    | tmp d =>
      cases e
      obtain ⟨L', e, m, n⟩ := I.er.set (Lr := Lr) (o := some v) (s := .v .ow d) (fun _ _ _ _ t => .ow r t) hi
      refine ⟨F, L', ⟨I.fh, I.gh, I.rg, e, n nd, fun a ha => (m a ha).elim (fr a) (I.fr a)⟩, Same.refl F, NewF.refl⟩
    | br j =>
      cases ej : env[j]? with
      | none => simp only [putRaw, ej, frzV] at e; cases e
      | some s =>
        have frz : (match frzV env (.br j) with | some (d, env') => some (env'.set i (.v .fz d)) | none => none) = some env' → ∃ F' L', FI X.K R P G H F' (σ.set i (some v)) env' L' ∧ Same F F' ∧ NewF G F F' := by
          intro e
          cases q : frzV env (.br j) with
          | none => rw [q] at e; cases e
          | some p =>
            obtain ⟨d, env1⟩ := p
            rw [q] at e
            cases e
            obtain ⟨F', L', I', ff, nf, r', _, _⟩ := frzV_ok I r nd fr q
            have hl : env1.length = env.length := by rw [← I'.er.len, I.er.len]
            obtain ⟨L2, I2, _⟩ := I'.putFz (i := i) r' (by rw [hl]; exact hi)
            exact ⟨F', L2, I2, ff, nf⟩
        cases s with
        | un => simp only [putRaw, ej] at e; exact frz e
        | pin => simp only [putRaw, ej] at e; exact frz e
        | v m d =>
          cases m with
          | fz => simp only [putRaw, ej] at e; exact frz e
          | ow => simp only [putRaw, ej] at e; exact frz e
          | io => simp only [putRaw, ej] at e; exact frz e
          | rd =>
            simp only [putRaw, ej] at e
            cases e
            -- an alias of what is read
            have rr : RepR X.K R F v d := by
              obtain ⟨_, rs⟩ := r
              have go : ∀ {P : List (Option V)} {σ : St} {env : DEnv} {L : List Addr}, EnvR X.K R H F P σ env L → ∀ {j : Nat}, env[j]? = some (.v .rd d) → σ[j]? = some (some v) → RepR X.K R F v d := by
                intro P σ env L h
                induction h with
                | nil => intro j a b; simp at a
                | un t ih => intro j a b; cases j with
                  | zero => simp at a
                  | succ j => exact ih (by simpa using a) (by simpa using b)
                | pin p t ih => intro j a b; cases j with
                  | zero => simp at a
                  | succ j => exact ih (by simpa using a) (by simpa using b)
                | fz r t ih => intro j a b; cases j with
                  | zero => simp at a
                  | succ j => exact ih (by simpa using a) (by simpa using b)
                | rd r t ih => intro j a b; cases j with
                  | zero => simp at a b; subst a; subst b; exact r
                  | succ j => exact ih (by simpa using a) (by simpa using b)
                | ow r t ih => intro j a b; cases j with
                  | zero => simp at a
                  | succ j => exact ih (by simpa using a) (by simpa using b)
                | io p r t ih => intro j a b; cases j with
                  | zero => simp at a
                  | succ j => exact ih (by simpa using a) (by simpa using b)
              exact go I.er ej rs
            obtain ⟨L', e, m, n⟩ := I.er.set (Lr := []) (o := some v) (s := .v .rd d) (fun _ _ _ _ t => .rd rr t) hi
            have m' : ∀ a ∈ L', a ∈ L := fun a ha => (m a ha).elim (fun z => nomatch z) id
            exact ⟨F, L', ⟨I.fh, I.gh, I.rg, e, n (by simpa using I.nd), fun a ha => I.fr a (m' a ha)⟩, Same.refl F, NewF.refl⟩
  cases ei : env[i]? with
  | none => rw [ei] at e; cases e
  | some s =>
    have hi := getElem?_lt ei
    rw [ei] at e
    cases s with
    | un => exact main hi e
    | pin => cases e
    | v m d => cases m <;> first | (cases e; done) | exact main hi e
def dSet (i : Nat) (m : DEnv → ER) : DEnv → FR := fun env => (m env).thn fun rv e => match putV e i rv with
  | some e' => .next e'
  | none => .err
theorem ms_set {i : Nat} {x : Str} {e : Expr} {m : DEnv → ER} {pos' : Pos} (hN : X.N.Nodup) (h : ME X W R P e m) (hi : X.N[i]? = some x := by rfl) (hx : Loc X.env.scope x := by first | exact .inl rfl | exact .inr rfl) (hs : swapsWith e (some (.Name x pos')) pos.line X.env = pure false := by rfl)
    (hf : X.fn x = true ∨ X.env.scope.names.lookup x = some .local := by first | exact .inl rfl | exact .inr rfl | assumption) : MS X W R P (.Assign [.Name x pos'] e pos) (dSet i m) := by
  intro G H F σ env L D I q
  refine ws_of (ps_set hN hi hx pe_w hs hf) ?_
  refine me_thn h I q fun rv env' v H' F' L' Lr I' s n r nd fr q' => ?_
  cases ep : putV env' i rv with
  | none => rw [ep] at q'; exact q'.elim
  | some e2 =>
    rw [ep] at q'
    obtain ⟨F2, L2, I2, ff, nf⟩ := putV_ok I' r nd fr ep
    exact q' _ _ F2 L2 I2 ff nf

/-! ### targets -/
def tWg (X : Cx) (tg : Expr) : TG := fun v σ H Q => ∀ (pins : List (Addr × Obj)) (s : Shared) (u : Value), Inv X pins σ H s → RelV v u → wpAny (model X.prog X.w) X.A (assign tg X.env u) (fun _ s' => ∃ σ' H', Inv X pins σ' H' s' ∧ Q σ' H') X.xe s
theorem pg_w {tg : Expr} : PG X tg (tWg X tg) := ⟨fun pins s σ H v u Q I r h => h pins s u I r⟩
theorem wg_of {tg : Expr} {g : TG} {v : V} {σ : St} {H : Hp} {Q : St → Hp → Prop} (h : PG X tg g) (q : g v σ H Q) : tWg X tg v σ H Q := fun pins s u I r => h.run pins s σ H v u Q I r q
def MG (X : Cx) (R : Hp) (P : List (Option V)) (tg : Expr) (t : D → DEnv → Option DEnv) : Prop :=
  ∀ (G H F : Hp) (σ : St) (env env' : DEnv) (L : List Addr) (v : V) (d : D) (k : St → Hp → Prop), FI X.K R P G H F σ env L → Rep X.K F v d → t d env = some env' → NOk X R P G F env' k → tWg X tg v σ H k
inductive MGs (X : Cx) (R : Hp) (P : List (Option V)) : List Expr → List (D → DEnv → Option DEnv) → Prop
  | nil : MGs X R P [] []
  | cons {e : Expr} {t : D → DEnv → Option DEnv} {es : List Expr} {ts : List (D → DEnv → Option DEnv)} (h : MG X R P e t) (r : MGs X R P es ts) : MGs X R P (e :: es) (t :: ts)
def gNm (i : Nat) : D → DEnv → Option DEnv := fun d env => putV env i (.fz d)
theorem mg_name {i : Nat} {x : Str} (hN : X.N.Nodup) (hi : X.N[i]? = some x := by rfl) (hx : Loc X.env.scope x := by first | exact .inl rfl | exact .inr rfl) (hf : X.fn x = true ∨ X.env.scope.names.lookup x = some .local := by first | exact .inl rfl | exact .inr rfl | assumption) :
    MG X R P (.Name x pos) (gNm i) := by
  intro G H F σ env env' L v d k I r e q
  refine wg_of (pg_name hN hi hx hf) ?_
  obtain ⟨F2, L2, I2, ff, nf⟩ := putV_ok I (rv := .fz d) (Lr := []) ⟨rfl, r⟩ I.disj (fun _ z => nomatch z) e
  exact q _ _ F2 L2 I2 ff nf
def gEach : List (D → DEnv → Option DEnv) → List D → DEnv → Option DEnv
  | [], [], env => some env
  | t :: ts, d :: ds, env => match t d env with
    | some env' => gEach ts ds env'
    | none => none
  | _, _, _ => none
def gTp (ts : List (D → DEnv → Option DEnv)) : D → DEnv → Option DEnv := fun d env => match d with
  | .tup ds => gEach ts ds env
  | _ => none
def gLs (ts : List (D → DEnv → Option DEnv)) : D → DEnv → Option DEnv := fun d env => match d with
  | .lst ds => gEach ts ds env
  | _ => none
def tWgs (X : Cx) : List Expr → TGs
  | [] => gNil
  | e :: es => gCons (tWg X e) (tWgs X es)
theorem mgs_ok {es : List Expr} {ts : List (D → DEnv → Option DEnv)} (h : MGs X R P es ts) : ∀ {G H F : Hp} {σ : St} {env env' : DEnv} {L : List Addr} {vs : List V} {ds : List D} {k : St → Hp → Prop}, FI X.K R P G H F σ env L → Reps X.K F vs ds → gEach ts ds env = some env' → NOk X R P G F env' k → tWgs X es vs σ H k ∧ vs.length = es.length := by
  induction h with
  | nil =>
    intro G H F σ env env' L vs ds k I r e q
    cases ds with
    | nil => cases e; cases vs with
      | nil => exact ⟨⟨rfl, NOk.now I q⟩, rfl⟩
      | cons v vs => have := r.1; simp at this
    | cons d ds => cases e
  | @cons e0 t es ts h hr ih =>
    intro G H F σ env env' L vs ds k I r e q
    cases ds with
    | nil => cases e
    | cons d ds =>
      cases vs with
      | nil => have := r.1; simp at this
      | cons v vs =>
        unfold gEach at e
        cases e1 : t d env with
        | none => rw [e1] at e; cases e
        | some env1 =>
          rw [e1] at e
          have r0 := r.2 0 v d rfl rfl
          have rr : Reps X.K F vs ds := ⟨by have := r.1; simpa using this, fun i v x a b => r.2 (i + 1) v x (by simpa using a) (by simpa using b)⟩
          have hlen : ∀ (vs : List V) (es : List Expr), vs.length = es.length → (v :: vs).length = (e0 :: es).length := fun vs es h => by simp [h]
          have lenE : vs.length = es.length := by
            have l1 : ∀ {ts : List (D → DEnv → Option DEnv)} {ds : List D} {env env' : DEnv}, gEach ts ds env = some env' → ts.length = ds.length := by
              intro ts
              induction ts with
              | nil => intro ds env env' e; cases ds with
                | nil => rfl
                | cons => cases e
              | cons t ts ih => intro ds env env' e; cases ds with
                | nil => cases e
                | cons d ds =>
                  unfold gEach at e
                  cases q : t d env with
                  | none => rw [q] at e; cases e
                  | some z => rw [q] at e; simp [ih e]
            have l2 : ∀ {es : List Expr} {ts : List (D → DEnv → Option DEnv)}, MGs X R P es ts → es.length = ts.length := fun h => by
              induction h with
              | nil => rfl
              | cons _ _ ih => simp [ih]
            rw [rr.1, ← l1 e, l2 hr]
          refine ⟨⟨v, vs, rfl, h G H F σ env env1 L v d _ I r0 e1 fun σ' H' F' L' I' s n => ?_⟩, hlen _ _ lenE⟩
          exact (ih I' (rr.mono s) e (fun σ'' H'' F'' L'' J s' n' => q σ'' H'' F'' L'' J (s.trans s') (n.trans n'))).1
theorem mg_tup {es : List Expr} {k : Nat} {ts : List (D → DEnv → Option DEnv)} (hc : X.calm = true) (h : MGs X R P es ts) (hp : PGs X es (tWgs X es)) (hn : (assignEach es X.env).length = es.length := by rfl) (hst : (assignEach es X.env).findIdx? (·.1) = none := by rfl) : MG X R P (.Tuple es k pos) (gTp ts) := by
  intro G H F σ env env' L v d k I r e q
  refine wg_of (pg_tup hc hp hn hst) ?_
  cases r with
  | tup hs hk hl hi =>
    obtain ⟨q1, q2⟩ := mgs_ok h I ⟨hl, hi⟩ e q
    exact ⟨_, _, rfl, SqT.mono I.fh hs, q2, q1⟩
  | _ => cases e
theorem mg_lst {es : List Expr} {k : Nat} {ts : List (D → DEnv → Option DEnv)} (hc : X.calm = true) (h : MGs X R P es ts) (hp : PGs X es (tWgs X es)) (hn : (assignEach es X.env).length = es.length := by rfl) (hst : (assignEach es X.env).findIdx? (·.1) = none := by rfl) : MG X R P (.Tuple es k pos) (gLs ts) := by
  intro G H F σ env env' L v d k I r e q
  refine wg_of (pg_lst hc hp hn hst) ?_
  cases r with
  | lst hs hl hi =>
    obtain ⟨q1, q2⟩ := mgs_ok h I ⟨hl, hi⟩ e q
    exact ⟨_, _, rfl, .inl (Rd.mono I.fh hs), q2, q1⟩
  | _ => cases e
/-- a target that is no name: the value is laid down first -/
def dAsg (t : D → DEnv → Option DEnv) (m : DEnv → ER) : DEnv → FR := fun env => (m env).thn fun rv e => match frzV e rv with
  | some (d, e1) => match t d e1 with
    | some e2 => .next e2
    | none => .err
  | none => .err
theorem ms_asg {tg e : Expr} {m : DEnv → ER} {t : D → DEnv → Option DEnv} (h : ME X W R P e m) (hg : MG X R P tg t) (hs : swapsWithSole [tg] e pos.line X.env = pure false := by rfl) (hw : swappedStores [tg] e X.env = pure none := by rfl)
    (h1 : (assignEach [tg] X.env).map (·.2) = [assign tg X.env] := by rfl) : MS X W R P (.Assign [tg] e pos) (dAsg t m) := by
  intro G H F σ env L D I q
  refine ws_of (ps_asg pe_w pg_w hs hw h1) ?_
  refine me_thn h I q fun rv env' v H' F' L' Lr I' s n r nd fr q' => ?_
  cases ef : frzV env' rv with
  | none => rw [ef] at q'; exact q'.elim
  | some p =>
    obtain ⟨d, e1⟩ := p
    rw [ef] at q'
    dsimp only at q'
    cases et : t d e1 with
    | none => rw [et] at q'; exact q'.elim
    | some e2 =>
      rw [et] at q'
      obtain ⟨F2, L2, I2, ff, nf, r2, _, _⟩ := frzV_ok I' r nd fr ef
      exact hg G H' F2 σ e1 e2 L2 v d D.nx I2 r2 et (fun σ'' H'' F'' L'' J s' n' => q' σ'' H'' F'' L'' J (ff.trans s') (nf.trans n'))
/-- a, b = x, y with plain local names -/
def dPar (i j : Nat) (ma mb : DEnv → ER) : DEnv → FR := fun env => (mArgs [ma, mb] env).thn fun vs e => match vs with
  | [v, w] => match frzVs e [v, w] with
    | some ([d, d'], e1) => match putV e1 i (.fz d) with
      | some e2 => match putV e2 j (.fz d') with
        | some e3 => .next e3
        | none => .err
      | none => .err
    | _ => .err
  | _ => .err
end
end DX

namespace DX
open PySem PySem.Spec L2
open PyProof.Rows hiding St

def forget : List Nat → DEnv → DEnv
  | [], env => env
  | i :: is, env => forget is (env.set i .un)
/-- a for over data -/
def forL (t : D → DEnv → Option DEnv) (dead : List Nat) (body : DEnv → FR) : List D → DEnv → FR
  | [], env => .next (forget dead env)
  | x :: xs, env => match t x (forget dead env) with
    | none => .err
    | some e1 => match body e1 with
      | .next e2 => forL t dead body xs e2
      | .cnt e2 => forL t dead body xs e2
      | .brk e2 => .next (forget dead e2)
      | .ret v e2 => .ret v e2
      | .raise c e2 => .raise c e2
      | .err => .err
structure Walks (K : PySem.W.Frag) (J : It) (xs : List D) (G F0 : Hp) : Prop where
  go : ∀ i H, i < xs.length → Same G H → Same F0 H → J.go i H
  stop : ∀ i H, xs.length ≤ i → Same G H → Same F0 H → J.stop i H
  yld : ∀ i H F x H' d, Same G H → Same F0 F → Same F H → J.yld i H x H' → xs[i]? = some d → ∃ F', Same H H' ∧ Same F F' ∧ Same F' H' ∧ NewF H F F' ∧ Rep K F' x d
section
variable {X : Cx} {W : WX} {R : Hp} {P : List (Option V)} {pos : Pos} {G H F : Hp} {σ : St} {env : DEnv} {L : List Addr}
theorem FI.drop (I : FI X.K R P G H F σ env L) (i : Nat) : ∃ L', FI X.K R P G H F σ (env.set i .un) L' := by
  by_cases hi : i < env.length
  · have hs : i < σ.length := by rw [I.er.len]; exact hi
    obtain ⟨L', e, m, n⟩ := I.er.set (Lr := []) (o := σ[i]) (s := .un) (fun _ _ _ _ t => .un t) hi
    rw [List.set_getElem_self] at e
    have m' : ∀ a ∈ L', a ∈ L := fun a ha => (m a ha).elim (fun z => nomatch z) id
    exact ⟨L', I.fh, I.gh, I.rg, e, n (by simpa using I.nd), fun a ha => I.fr a (m' a ha)⟩
  · rw [List.set_eq_of_length_le (by omega)]
    exact ⟨L, I⟩
theorem FI.forget : ∀ {dead : List Nat} {env : DEnv} {L : List Addr}, FI X.K R P G H F σ env L → ∃ L', FI X.K R P G H F σ (DX.forget dead env) L'
  | [], env, L, I => ⟨L, I⟩
  | i :: is, env, L, I => let ⟨L', I'⟩ := I.drop i; I'.forget (dead := is)
theorem NOk.unforget {dead : List Nat} {k : St → Hp → Prop} (h : NOk X R P G F (forget dead env) k) : NOk X R P G F env k := fun σ' H' F' L' I s n =>
  let ⟨L2, I2⟩ := I.forget (dead := dead); h σ' H' F' L2 I2 s n
theorem for_go {J : It} {xs : List D} {t : D → DEnv → Option DEnv} {dead : List Nat} {mb : DEnv → FR} {tg : Expr} {body : List Stmt} {D : Ends} (Wk : Walks X.K J xs G F) (hg : MG X R P tg t) (hb : MSs X W R P body mb) (I : FI X.K R P G H F σ env L)
    (q : PostS X W R P G F (forL t dead mb xs env) D) :
    ∃ W' : Nat → Nat → St → Hp → Prop, (∃ m, W' 0 m σ H) ∧ ∀ i m σ H, W' i m σ H → (J.stop i H ∧ D.nx σ H) ∨ (J.go i H ∧ ∃ N : St → Hp → Prop, (∀ σ' H', N σ' H' → ∃ m', m' < m ∧ W' (i + 1) m' σ' H') ∧
      ∀ x H', J.yld i H x H' → tWg X tg x σ H' fun σ2 H2 => tWss X body { D with nx := N, ct := N, bk := D.nx } σ2 H2) := by
  refine ⟨fun i m σ H => m = xs.length - i ∧ i ≤ xs.length ∧ ∃ env F1 L, FI X.K R P G H F1 σ env L ∧ Same F F1 ∧ PostS X W R P G F1 (forL t dead mb (xs.drop i) env) D, ⟨_, rfl, Nat.zero_le _, env, F, L, I, Same.refl F, by simpa using q⟩, ?_⟩
  rintro i m σ H ⟨rfl, hi, env, F1, L, I, ff, q⟩
  by_cases hlt : i < xs.length
  · refine .inr ⟨Wk.go i H hlt I.gh (ff.trans I.fh), _, fun σ' H' (h : i + 1 ≤ xs.length ∧ ∃ env F1 L, FI X.K R P G H' F1 σ' env L ∧ Same F F1 ∧ PostS X W R P G F1 (forL t dead mb (xs.drop (i + 1)) env) D) => ⟨xs.length - (i + 1), by omega, rfl, h⟩, fun x H' y => ?_⟩
    have ed : xs.drop i = xs[i] :: xs.drop (i + 1) := List.drop_eq_getElem_cons hlt
    rw [ed] at q
    unfold forL at q
    obtain ⟨F2, hh, f2, fh2, nw2, r2⟩ := Wk.yld i H F1 x H' xs[i] I.gh ff I.fh y (List.getElem?_eq_getElem hlt)
    have I2 := I.ext hh f2 fh2 nw2
    have n2 := I.newF nw2
    obtain ⟨L3, I3⟩ := I2.forget (dead := dead)
    cases et : t xs[i] (forget dead env) with
    | none => rw [et] at q; exact q.elim
    | some e1 =>
      rw [et] at q
      dsimp only at q
      refine hg G H' F2 σ _ e1 L3 x xs[i] _ I3 r2 et fun σ4 H4 F4 L4 I4 s4 n4 => ?_
      refine hb G H4 F4 σ4 e1 L4 _ I4 ?_
      have s' := f2.trans s4
      have n' := n2.trans n4
      cases eb : mb e1 with
      | next e2 => rw [eb] at q; exact fun σ5 H5 F5 L5 I5 s5 n5 => ⟨hlt, e2, F5, L5, I5, (ff.trans s').trans s5, PostS.later (s'.trans s5) (n'.trans n5) q⟩
      | cnt e2 => rw [eb] at q; exact fun σ5 H5 F5 L5 I5 s5 n5 => ⟨hlt, e2, F5, L5, I5, (ff.trans s').trans s5, PostS.later (s'.trans s5) (n'.trans n5) q⟩
      | brk e2 => rw [eb] at q; exact NOk.unforget (dead := dead) (PostS.later (r := .next (forget dead e2)) s' n' q)
      | ret v e2 => rw [eb] at q; exact PostS.later (r := .ret v e2) s' n' q
      | raise c e2 => rw [eb] at q; exact PostS.later (r := .raise c e2) s' n' q
      | err => rw [eb] at q; exact q.elim
  · have e : i = xs.length := by omega
    subst e
    rw [List.drop_length] at q
    exact .inl ⟨Wk.stop _ H (Nat.le_refl _) I.gh (ff.trans I.fh), NOk.now I (NOk.unforget (dead := dead) q)⟩

/-! ### what is walked -/
theorem walks_list {K : PySem.W.Frag} {G F : Hp} {a : Addr} {vs : List V} {xs : List D} (hl : ∀ H, Same G H → Same F H → SqL K H a vs) (hr : Reps K F vs xs) : Walks K (Itl K a) xs G F where
  go := fun i H hi gh fh => ⟨vs, vs[i]'(by rw [hr.1]; exact hi), hl H gh fh, List.getElem?_eq_getElem _⟩
  stop := fun i H hi gh fh => ⟨vs, hl H gh fh, by rw [hr.1]; exact hi⟩
  yld := fun i H F1 x H' d gh f1 fh y e => by
    obtain ⟨rfl, y⟩ := y
    have ev := y vs (hl H' gh (f1.trans fh))
    exact ⟨F1, Same.refl _, Same.refl _, fh, NewF.refl, (hr.2 i x d ev e).mono f1⟩
theorem walks_tup {K : PySem.W.Frag} {G F : Hp} {a : Addr} {vs : List V} {xs : List D} (hl : ∀ H, Same G H → Same F H → SqT K H a vs) (hr : Reps K F vs xs) : Walks K (Itt K a) xs G F where
  go := fun i H hi gh fh => ⟨vs, vs[i]'(by rw [hr.1]; exact hi), hl H gh fh, List.getElem?_eq_getElem _⟩
  stop := fun i H hi gh fh => ⟨vs, hl H gh fh, by rw [hr.1]; exact hi⟩
  yld := fun i H F1 x H' d gh f1 fh y e => by
    obtain ⟨rfl, y⟩ := y
    have ev := y vs (hl H' gh (f1.trans fh))
    exact ⟨F1, Same.refl _, Same.refl _, fh, NewF.refl, (hr.2 i x d ev e).mono f1⟩
theorem walks_range {K : PySem.W.Frag} {G F : Hp} {lo : Int} {n : Nat} : Walks K (Itr lo n) ((List.range n).map fun k => D.int (lo + (k : Nat))) G F where
  go := fun i H hi _ _ => by show i < n; simpa using hi
  stop := fun i H hi _ _ => by show n ≤ i; simpa using hi
  yld := fun i H F1 x H' d gh f1 fh y e => by
    obtain ⟨rfl, rfl⟩ := y
    rw [List.getElem?_map] at e
    cases q : (List.range n)[i]? with
    | none => rw [q] at e; cases e
    | some k =>
      rw [q] at e
      cases e
      have : k = i := by
        obtain ⟨h1, h2⟩ := List.getElem?_eq_some_iff.mp q
        simpa using h2.symm
      subst this
      exact ⟨F1, Same.refl _, Same.refl _, fh, NewF.refl, .int _⟩
/-- what is read without being one's own -/
def rdMode (env : DEnv) : Val → Option D
  | .br j => match env[j]? with
    | some (.v .rd d) => some d
    | _ => none
  | _ => none
/-- a list to be walked -/
def itL (env : DEnv) (rv : Val) : Option (List D × DEnv) := match rdMode env rv with
  | some (.lst xs) => some (xs, env)
  | _ => match frzV env rv with
    | some (.lst xs, e) => some (xs, e)
    | _ => none
def itT (env : DEnv) (rv : Val) : Option (List D × DEnv) := match frzV env rv with
  | some (.tup xs, e) => some (xs, e)
  | _ => none
theorem rd_slot {P : List (Option V)} {σ : St} {env : DEnv} {L : List Addr} {v : V} {d : D} (h : EnvR X.K R H F P σ env L) : ∀ {j : Nat}, env[j]? = some (.v .rd d) → σ[j]? = some (some v) → RepR X.K R F v d := by
  induction h with
  | nil => intro j a b; simp at a
  | un t ih => intro j a b; cases j with
    | zero => simp at a
    | succ j => exact ih (by simpa using a) (by simpa using b)
  | pin p t ih => intro j a b; cases j with
    | zero => simp at a
    | succ j => exact ih (by simpa using a) (by simpa using b)
  | fz r t ih => intro j a b; cases j with
    | zero => simp at a
    | succ j => exact ih (by simpa using a) (by simpa using b)
  | rd r t ih => intro j a b; cases j with
    | zero => simp at a b; subst a; subst b; exact r
    | succ j => exact ih (by simpa using a) (by simpa using b)
  | ow r t ih => intro j a b; cases j with
    | zero => simp at a
    | succ j => exact ih (by simpa using a) (by simpa using b)
  | io p r t ih => intro j a b; cases j with
    | zero => simp at a
    | succ j => exact ih (by simpa using a) (by simpa using b)
theorem itL_ok {Lr : List Addr} {v : V} {rv : Val} {xs : List D} {env' : DEnv} (I : FI X.K R P G H F σ env L) (r : RepVal X.K H F σ v rv Lr) (nd : (Lr ++ L).Nodup) (fr : ∀ a ∈ Lr, F a = none ∧ G a = none) (e : itL env rv = some (xs, env')) :
    ∃ a vs F' L', v = .ref a ∧ FI X.K R P G H F' σ env' L' ∧ Same F F' ∧ NewF G F F' ∧ Reps X.K F' vs xs ∧ ∀ H, Same G H → Same F' H → SqL X.K H a vs := by
  unfold itL at e
  have second : (match frzV env rv with | some (.lst xs, e) => some (xs, e) | _ => none) = some (xs, env') → ∃ a vs F' L', v = .ref a ∧ FI X.K R P G H F' σ env' L' ∧ Same F F' ∧ NewF G F F' ∧ Reps X.K F' vs xs ∧ ∀ H, Same G H → Same F' H → SqL X.K H a vs := by
    intro e
    cases q : frzV env rv with
    | none => rw [q] at e; cases e
    | some p =>
      obtain ⟨d, e1⟩ := p
      rw [q] at e
      cases d with
      | lst ys =>
        cases e
        obtain ⟨F', L', I', ff, nf, r', _, _⟩ := frzV_ok I r nd fr q
        cases r' with
        | lst h hl hi => exact ⟨_, _, F', L', rfl, I', ff, nf, ⟨hl, hi⟩, fun H _ fh => .inl (Rd.mono fh h)⟩
      | _ => cases e
  cases q : rdMode env rv with
  | none => rw [q] at e; exact second e
  | some d =>
    rw [q] at e
    cases d with
    | lst ys =>
      cases e
      cases rv with
      | br j =>
        simp only [rdMode] at q
        have ej : env[j]? = some (.v .rd (.lst xs)) := by
          split at q
          · rename_i h; cases q; exact h
          · cases q
        have rr := (rd_slot I.er ej r.2).toR (Same.refl R) rfl
        cases rr with
        | lst h hi => exact ⟨_, _, F, L, rfl, I, Same.refl F, NewF.refl, hi, fun H gh _ => .inl (Rd.mono (I.rg.trans gh) h)⟩
      | _ => cases q
    | _ => exact second e
def dFor (it : DEnv → Val → Option (List D × DEnv)) (m : DEnv → ER) (t : D → DEnv → Option DEnv) (dead : List Nat) (mb : DEnv → FR) : DEnv → FR := fun env => (m env).thn fun rv e1 => match it e1 rv with
  | some (xs, e2) => forL t dead mb xs e2
  | none => .err
theorem ms_forL {iter tg : Expr} {body : List Stmt} {m : DEnv → ER} {t : D → DEnv → Option DEnv} {dead : List Nat} {mb : DEnv → FR} (hp : PassesOwn (model X.prog X.w) X.A X.env X.xe) (hc : X.calm = true) (hi : ME X W R P iter m) (hg : MG X R P tg t) (hb : MSs X W R P body mb)
    (hs : ∀ x, foldedSetIterable iter X.env x = pure x := by intro _; rfl) : MS X W R P (.For tg iter body [] pos) (dFor itL m t dead mb) := by
  intro G H F σ env L D I q
  refine ws_of (ps_for hp hc (pi_list pe_w) pg_w pss_w hs) ?_
  refine me_thn hi I q fun rv env' v H' F' L' Lr I' s n r nd fr q' => ?_
  cases e : itL env' rv with
  | none => rw [e] at q'; exact q'.elim
  | some p =>
    obtain ⟨xs, e2⟩ := p
    rw [e] at q'
    obtain ⟨a, vs, F2, L2, rfl, I2, ff, nf, hr, hl⟩ := itL_ok I' r nd fr e
    exact ⟨a, rfl, ⟨vs, hl H' I2.gh I2.fh⟩, for_go (walks_list hl hr) hg hb I2 (PostS.later ff nf q')⟩
theorem ms_forT {iter tg : Expr} {body : List Stmt} {m : DEnv → ER} {t : D → DEnv → Option DEnv} {dead : List Nat} {mb : DEnv → FR} (hp : PassesOwn (model X.prog X.w) X.A X.env X.xe) (hc : X.calm = true) (hi : ME X W R P iter m) (hg : MG X R P tg t) (hb : MSs X W R P body mb)
    (hs : ∀ x, foldedSetIterable iter X.env x = pure x := by intro _; rfl) : MS X W R P (.For tg iter body [] pos) (dFor itT m t dead mb) := by
  intro G H F σ env L D I q
  refine ws_of (ps_for hp hc (pi_tup pe_w) pg_w pss_w hs) ?_
  refine me_thn hi I q fun rv env' v H' F' L' Lr I' s n r nd fr q' => ?_
  unfold itT at q'
  cases e : frzV env' rv with
  | none => rw [e] at q'; exact q'.elim
  | some p =>
    obtain ⟨d, e2⟩ := p
    rw [e] at q'
    cases d with
    | tup xs =>
      obtain ⟨F2, L2, I2, ff, nf, r2, _, _⟩ := frzV_ok I' r nd fr e
      cases r2 with
      | tup h hk hl hi =>
        have hS : ∀ H, Same G H → Same F2 H → SqT X.K H _ _ := fun H _ fh => SqT.mono fh h
        exact ⟨_, rfl, ⟨_, hS H' I2.gh I2.fh⟩, for_go (walks_tup hS ⟨hl, hi⟩) hg hb I2 (PostS.later ff nf q')⟩
    | _ => exact q'.elim
noncomputable def dForR1 (m : DEnv → ER) (t : D → DEnv → Option DEnv) (dead : List Nat) (mb : DEnv → FR) : DEnv → FR := fun env => (m env).thn fun rv e1 => match rv with
  | .fz (.int j) => @ite _ (-(2 ^ 62) ≤ j ∧ j < 2 ^ 62) (Classical.propDecidable _) (forL t dead mb ((List.range j.toNat).map fun k => D.int (0 + (k : Nat))) e1) .err
  | _ => .err
theorem ms_forR1 {a tg : Expr} {body : List Stmt} {m : DEnv → ER} {t : D → DEnv → Option DEnv} {dead : List Nat} {mb : DEnv → FR} {p pos' : Pos} (hp : PassesOwn (model X.prog X.w) X.A X.env X.xe) (hc : X.calm = true) (hm : X.mg "range" = none) (hi : ME X W R P a m) (hg : MG X R P tg t) (hb : MSs X W R P body mb)
    (hgl : Gl X "range" := by rfl) (hst : starEach [a] X.env = [(false, eval a X.env)] := by rfl) (hs : ∀ x, foldedSetIterable (.Call (.Name "range" p) [a] [] pos') X.env x = pure x := by intro _; rfl) : MS X W R P (.For tg (.Call (.Name "range" p) [a] [] pos') body [] pos) (dForR1 m t dead mb) := by
  intro G H F σ env L D I q
  refine ws_of (ps_for hp hc (pi_range1 hgl hm (pa_cons pe_w pa_nil hst) hst) pg_w pss_w hs) ?_
  show tW X a σ H fun x H1 => _
  refine me_thn hi I q fun rv env' v H' F' L' Lr I' s n r nd fr q' => ?_
  cases rv with
  | fz d =>
    cases d with
    | int j =>
      obtain ⟨rfl, r⟩ := r
      cases r
      dsimp only at q'
      split at q'
      · rename_i hj
        refine ⟨j, rfl, hj.1, hj.2, for_go walks_range hg hb I' q'⟩
      · exact q'.elim
    | _ => exact q'.elim
  | _ => exact q'.elim
noncomputable def dForR2 (ma mb' : DEnv → ER) (t : D → DEnv → Option DEnv) (dead : List Nat) (mb : DEnv → FR) : DEnv → FR := fun env => (mArgs [ma, mb'] env).thn fun vs e1 => match vs with
  | [.fz (.int i), .fz (.int j)] => @ite _ (-(2 ^ 62) ≤ i ∧ i < 2 ^ 62 ∧ -(2 ^ 62) ≤ j ∧ j < 2 ^ 62) (Classical.propDecidable _) (forL t dead mb ((List.range (j - i).toNat).map fun k => D.int (i + (k : Nat))) e1) .err
  | _ => .err
theorem ms_forR2 {a b tg : Expr} {body : List Stmt} {ma mb' : DEnv → ER} {t : D → DEnv → Option DEnv} {dead : List Nat} {mb : DEnv → FR} {p pos' : Pos} (hp : PassesOwn (model X.prog X.w) X.A X.env X.xe) (hc : X.calm = true) (hm : X.mg "range" = none) (hi : ME X W R P a ma) (hi2 : ME X W R P b mb') (hg : MG X R P tg t) (hb : MSs X W R P body mb)
    (hgl : Gl X "range" := by rfl) (hst : starEach [a, b] X.env = [(false, eval a X.env), (false, eval b X.env)] := by rfl) (hst2 : starEach [b] X.env = [(false, eval b X.env)] := by rfl) (hs : ∀ x, foldedSetIterable (.Call (.Name "range" p) [a, b] [] pos') X.env x = pure x := by intro _; rfl) :
    MS X W R P (.For tg (.Call (.Name "range" p) [a, b] [] pos') body [] pos) (dForR2 ma mb' t dead mb) := by
  intro G H F σ env L D I q
  refine ws_of (ps_for hp hc (pi_range2 hgl hm (pa_cons pe_w (pa_cons pe_w pa_nil hst2) (hst.trans (by rw [hst2]))) hst hst2) pg_w pss_w hs) ?_
  show tWa X [a, b] σ H _
  refine run_args (.cons hi (.cons hi2 .nil)) I ?_
  unfold dForR2 at q
  cases e : mArgs [ma, mb'] env with
  | err => rw [e] at q; exact q
  | raise c env' => rw [e] at q; exact fun C H' F' L' g I' s n => q C σ H' F' L' g I' s n
  | ok rvs env' =>
    rw [e] at q
    intro vs H' F' L' Lr I' s n hs nd fr
    dsimp only [AR.thn] at q
    split at q
    · rename_i i j
      cases hs with
      | cons h1 t1 =>
        cases t1 with
        | cons h2 t2 =>
          cases t2
          obtain ⟨rfl, r1⟩ := h1
          obtain ⟨rfl, r2⟩ := h2
          cases r1; cases r2
          split at q
          · rename_i hj
            exact ⟨i, j, rfl, hj, for_go walks_range hg hb I' (PostS.later s n q)⟩
          · exact q.elim
    · exact q.elim

/-! ### while -/
def whileN (c : DEnv → TR) (dead : List Nat) (body : DEnv → FR) : Nat → DEnv → FR
  | 0, _ => .err
  | n + 1, env => match c (forget dead env) with
    | .ok true e1 => match body e1 with
      | .next e2 => whileN c dead body n e2
      | .cnt e2 => whileN c dead body n e2
      | .brk e2 => .next (forget dead e2)
      | .ret v e2 => .ret v e2
      | .raise x e2 => .raise x e2
      | .err => .err
    | .ok false e1 => .next (forget dead e1)
    | .raise x e1 => .raise x e1
    | .err => .err
open Classical in
noncomputable def dWhile (c : DEnv → TR) (dead : List Nat) (body : DEnv → FR) : DEnv → FR := fun env =>
  if h : ∃ n, whileN c dead body n env ≠ .err then whileN c dead body h.choose env else .err
theorem whileN_mono {c : DEnv → TR} {dead : List Nat} {body : DEnv → FR} : ∀ {n : Nat} {env : DEnv}, whileN c dead body n env ≠ .err → whileN c dead body (n + 1) env = whileN c dead body n env
  | 0, env, h => absurd rfl h
  | n + 1, env, h => by
    rw [whileN]
    rw [whileN] at h
    conv => rhs; rw [whileN]
    cases e : c (forget dead env) with
    | ok b e1 =>
      cases b with
      | false => rfl
      | true =>
        rw [e] at h
        dsimp only at h ⊢
        cases eb : body e1 with
        | next e2 => rw [eb] at h; exact whileN_mono h
        | cnt e2 => rw [eb] at h; exact whileN_mono h
        | _ => rfl
    | _ => rfl
theorem whileN_le {c : DEnv → TR} {dead : List Nat} {body : DEnv → FR} {n m : Nat} {env : DEnv} (h : whileN c dead body n env ≠ .err) (hm : n ≤ m) : whileN c dead body m env = whileN c dead body n env := by
  induction hm with
  | refl => rfl
  | step _ ih => rw [whileN_mono (by rw [ih]; exact h), ih]
/-- what a while gives, by any number of turns that is enough -/
theorem dWhile_of {c : DEnv → TR} {dead : List Nat} {body : DEnv → FR} {n : Nat} {env : DEnv} {r : FR} (h : whileN c dead body n env = r) (hr : r ≠ .err) : dWhile c dead body env = r := by
  have hex : ∃ n, whileN c dead body n env ≠ .err := ⟨n, by rw [h]; exact hr⟩
  unfold dWhile
  rw [dif_pos hex]
  have h1 := hex.choose_spec
  rcases Nat.le_total n hex.choose with q | q
  · rw [whileN_le (by rw [h]; exact hr) q, h]
  · rw [← whileN_le h1 q, h]
theorem ms_while {c : Expr} {body : List Stmt} {mc : DEnv → TR} {dead : List Nat} {mb : DEnv → FR} (hp : PassesOwn (model X.prog X.w) X.A X.env X.xe) (hc : MT X W R P c mc) (hb : MSs X W R P body mb) : MS X W R P (.While c body [] pos) (dWhile mc dead mb) := by
  intro G H F σ env L D I q
  refine ws_of (ps_while hp pt_w pss_w) ?_
  unfold dWhile at q
  split at q
  · rename_i hex
    refine ⟨fun m σ H => ∃ env F1 L, FI X.K R P G H F1 σ env L ∧ PostS X W R P G F1 (whileN mc dead mb m env) D, ⟨_, env, F, L, I, q⟩, ?_⟩
    rintro m σ H ⟨env, F1, L, I, q⟩
    cases m with
    | zero => exact q.elim
    | succ m =>
      unfold whileN at q
      obtain ⟨L2, I2⟩ := I.forget (dead := dead)
      refine hc G H F1 σ _ L2 _ I2 ?_
      cases e : mc (forget dead env) with
      | err => rw [e] at q; exact q
      | raise x e1 => rw [e] at q; exact fun C H' F' L' g I' s n => q C σ H' F' L' g I' s n
      | ok b e1 =>
        rw [e] at q
        intro H3 F3 L3 I3 s3 n3
        cases b with
        | false => exact iteF (NOk.now I3 (NOk.unforget (dead := dead) (PostS.later (r := .next (forget dead e1)) s3 n3 q)))
        | true =>
          refine iteT ⟨_, fun σ' H' (h : ∃ env F1 L, FI X.K R P G H' F1 σ' env L ∧ PostS X W R P G F1 (whileN mc dead mb m env) D) => ⟨m, Nat.lt_succ_self m, h⟩, ?_⟩
          refine hb G H3 F3 σ e1 L3 _ I3 ?_
          dsimp only at q
          cases eb : mb e1 with
          | next e2 => rw [eb] at q; exact fun σ5 H5 F5 L5 I5 s5 n5 => ⟨e2, F5, L5, I5, PostS.later (s3.trans s5) (n3.trans n5) q⟩
          | cnt e2 => rw [eb] at q; exact fun σ5 H5 F5 L5 I5 s5 n5 => ⟨e2, F5, L5, I5, PostS.later (s3.trans s5) (n3.trans n5) q⟩
          | brk e2 => rw [eb] at q; exact NOk.unforget (dead := dead) (PostS.later (r := .next (forget dead e2)) s3 n3 q)
          | ret v e2 => rw [eb] at q; exact PostS.later (r := .ret v e2) s3 n3 q
          | raise c e2 => rw [eb] at q; exact PostS.later (r := .raise c e2) s3 n3 q
          | err => rw [eb] at q; exact q.elim
  · exact q.elim
end
end DX

namespace DX
open PySem PySem.Spec L2
open PyProof.Rows hiding St

/-! ### what a def does: from its arguments its value and what became of those that it changes -/
/-- how an argument is handed over: laid down, read, changed in place, handed over for good -/
inductive PM where
  | va | rd | io | mv
  deriving DecidableEq
inductive FnR where
  | ok (v : Val) (ios : List D) | raise (c : Str) (ios : List D) | err
def inS : List PM → List D → DEnv
  | .va :: ps, d :: ds => .v .fz d :: inS ps ds
  | .rd :: ps, d :: ds => .v .rd d :: inS ps ds
  | .io :: ps, d :: ds => .v .io d :: inS ps ds
  | .mv :: ps, d :: ds => .v .ow d :: inS ps ds
  | _, _ => []
def outS : List PM → DEnv → Option (List D)
  | [], _ => some []
  | .io :: ps, .v .io d :: env => match outS ps env with
    | some os => some (d :: os)
    | none => none
  | .io :: _, _ => none
  | _ :: ps, env => outS ps env.tail
def exS : List PM → List D → DEnv
  | [], _ => []
  | .io :: ps, d :: os => .v .io d :: exS ps os
  | _ :: ps, os => .un :: exS ps os
/-- the value that is returned: what is one's own goes out -/
def retS (sig : List PM) (v : Val) (env : DEnv) : FnR := match v with
  | .fz d => match outS sig env with
    | some os => .ok (.fz d) os
    | none => .err
  | .tmp d => match outS sig env with
    | some os => .ok (.tmp d) os
    | none => .err
  | .br i => match env[i]? with
    | some (.v .ow d) => match outS sig (env.set i .un) with
      | some os => .ok (.tmp d) os
      | none => .err
    | some (.v .fz d) => match outS sig env with
      | some os => .ok (.fz d) os
      | none => .err
    | _ => .err
def runFn (M : DEnv → FR) (N : Nat) (sig : List PM) (ds : List D) : FnR := match M (inS sig ds ++ List.replicate (N - sig.length) .un) with
  | .next env => retS sig (.fz .non) env
  | .ret v env => retS sig v env
  | .raise c env => match outS sig env with
    | some os => .raise c os
    | none => .err
  | _ => .err
def PostF (K : PySem.W.Frag) (mg : Str → Option Value) (R : Hp) (P : List (Option V)) (G F : Hp) (sig : List PM) (r : FnR) (Q : VK) (E : XK) : Prop := match r with
  | .ok rv os => ∀ (v : V) (H' F' : Hp) (L' Lr : List Addr), FI K R P G H' F' P (exS sig os) L' → Same F F' → NewF G F F' → RepVal K H' F' [] v rv Lr → (Lr ++ L').Nodup → (∀ a ∈ Lr, F' a = none ∧ G a = none) → Q v H'
  | .raise c os => ∀ (C : Addr) (H' F' : Hp) (L' : List Addr), mg c = some (.ref C) → FI K R P G H' F' P (exS sig os) L' → Same F F' → NewF G F F' → E (.ref C) none H'
  | .err => False
def spF (K : PySem.W.Frag) (mg : Str → Option Value) (sig : List PM) (f : List D → FnR) : Sp := fun vs H Q E => ∃ (R G F : Hp) (ds : List D) (L : List Addr), vs.length = sig.length ∧ ds.length = sig.length ∧ FI K R (vs.map some) G H F (vs.map some) (inS sig ds) L ∧ PostF K mg R (vs.map some) G F sig (f ds) Q E
theorem inS_len : ∀ {sig : List PM} {ds : List D}, ds.length = sig.length → (inS sig ds).length = sig.length
  | [], [], _ => rfl
  | p :: ps, d :: ds, h => by cases p <;> simp [inS, inS_len (sig := ps) (ds := ds) (by simpa using h)]
  | [], _ :: _, h => by simp at h
  | _ :: _, [], h => by simp at h
section
variable {K : PySem.W.Frag} {mg : Str → Option Value} {R G H F : Hp}
theorem EnvR.more : ∀ {P : List (Option V)} {σ : St} {env : DEnv} {L : List Addr} (k : Nat), EnvR K R H F P σ env L → EnvR K R H F P (σ ++ List.replicate k none) (env ++ List.replicate k .un) L := by
  intro P σ env L k h
  have base : ∀ (k : Nat) (P : List (Option V)), EnvR K R H F P (List.replicate k none) (List.replicate k .un) [] := by
    intro k
    induction k with
    | zero => intro P; exact .nil
    | succ k ih => intro P; rw [List.replicate_succ, List.replicate_succ]; exact .un (ih _)
  induction h with
  | nil => simpa using base k _
  | un t ih => exact .un ih
  | pin p t ih => exact .pin p ih
  | fz r t ih => exact .fz r ih
  | rd r t ih => exact .rd r ih
  | ow r t ih => exact .ow r ih
  | io p r t ih => exact .io p r ih
theorem outS_cons {p : PM} {ps : List PM} {env : DEnv} {os : List D} (hp : p ≠ .io) (h : outS (p :: ps) env = some os) : outS ps env.tail = some os ∧ exS (p :: ps) os = .un :: exS ps os := by
  cases p with
  | io => exact absurd rfl hp
  | va => exact ⟨h, rfl⟩
  | rd => exact ⟨h, rfl⟩
  | mv => exact ⟨h, rfl⟩
theorem EnvR.fin : ∀ (sig : List PM) (vs : List V) {P : List (Option V)} {σ : St} {env : DEnv} {L : List Addr} {os : List D}, vs.length = sig.length → P = vs.map some → EnvR K R H F P σ env L → L.Nodup → outS sig env = some os → ∃ L', EnvR K R H F P P (exS sig os) L' ∧ (∀ a ∈ L', a ∈ L) ∧ L'.Nodup
  | [], [], P, σ, env, L, os, hl, e, h, nd, ho => ⟨[], by subst e; exact EnvR.nil, fun a z => absurd z (by simp), List.nodup_nil⟩
  | [], _ :: _, _, _, _, _, _, hl, _, _, _, _ => by simp at hl
  | _ :: _, [], _, _, _, _, _, hl, _, _, _, _ => by simp at hl
  | p :: ps, v :: vs, P, σ, env, L, os, hl, e, h, nd, ho => by
    subst e
    have hl' : vs.length = ps.length := by simpa using hl
    have skip : ∀ {σ' : St} {env' : DEnv} {L2 : List Addr}, EnvR K R H F (vs.map some) σ' env' L2 → L2.Nodup → (∀ a ∈ L2, a ∈ L) → env.tail = env' → p ≠ .io → ∃ L', EnvR K R H F ((v :: vs).map some) ((v :: vs).map some) (exS (p :: ps) os) L' ∧ (∀ a ∈ L', a ∈ L) ∧ L'.Nodup := by
      intro σ' env' L2 t n m et hp
      obtain ⟨h1, h2⟩ := outS_cons hp ho
      rw [et] at h1
      obtain ⟨L3, e3, m3, n3⟩ := EnvR.fin ps vs (P := vs.map some) hl' rfl t n h1
      rw [h2]
      exact ⟨L3, .un e3, fun a ha => m a (m3 a ha), n3⟩
    by_cases hp : p = .io
    · subst hp
      cases h with
      | @io _ v' d σ' env' L1 L2 pp r t =>
        cases ho' : outS ps env' with
        | none => simp [outS, ho'] at ho
        | some os' =>
          simp only [outS, ho', Option.some.injEq] at ho
          subst ho
          obtain ⟨n1, n2, n3⟩ := List.nodup_append.mp nd
          obtain ⟨L3, e3, m3, nn3⟩ := EnvR.fin ps vs (P := vs.map some) hl' rfl t n2 ho'
          simp only [List.map_cons, List.head?_cons, Option.some.injEq] at pp
          subst pp
          refine ⟨L1 ++ L3, .io rfl r e3, fun a ha => ?_, List.nodup_append.mpr ⟨n1, nn3, fun a ha b hb => n3 a ha b (m3 b hb)⟩⟩
          exact (List.mem_append.mp ha).elim (List.mem_append_left _) fun z => List.mem_append_right _ (m3 a z)
      | nil => simp [outS] at ho
      | un => simp [outS] at ho
      | pin => simp [outS] at ho
      | fz => simp [outS] at ho
      | rd => simp [outS] at ho
      | ow => simp [outS] at ho
    · cases h with
      | nil => exact skip (σ' := []) (env' := []) (L2 := []) .nil List.nodup_nil (fun a z => nomatch z) rfl hp
      | un t => exact skip t nd (fun _ q => q) rfl hp
      | pin p t => exact skip t nd (fun _ q => q) rfl hp
      | fz r t => exact skip t nd (fun _ q => q) rfl hp
      | rd r t => exact skip t nd (fun _ q => q) rfl hp
      | ow r t => exact skip t (List.nodup_append.mp nd).2.1 (fun _ q => List.mem_append_right _ q) rfl hp
      | io p r t => exact skip t (List.nodup_append.mp nd).2.1 (fun _ q => List.mem_append_right _ q) rfl hp
theorem FI.fin {sig : List PM} {vs : List V} {σ : St} {env : DEnv} {L : List Addr} {os : List D} (I : FI K R (vs.map some) G H F σ env L) (hl : vs.length = sig.length) (ho : outS sig env = some os) : ∃ L', FI K R (vs.map some) G H F (vs.map some) (exS sig os) L' ∧ ∀ a ∈ L', a ∈ L :=
  let ⟨L', e, m, n⟩ := I.er.fin sig vs hl rfl I.nd ho; ⟨L', ⟨I.fh, I.gh, I.rg, e, n, fun a ha => I.fr a (m a ha)⟩, m⟩
end

/-- a body computes M, wherever it runs -/
def BodyOk (P : Program) (w : World) (K : PySem.W.Frag) (mg : Str → Option Value) (base : Heap) (N : List Str) (qual : Str) (st : Stmt) (f : Addr) (k : Nat) (M : DEnv → FR) : Prop :=
  ∀ (cdv : Value) (A : Around) (outer : List Env) (s : Shared) (H : Hp) (E : XK) (R : Hp) (Pn : List (Option V)), Room k (A.deeper (envOfC qual (defScope st) s.heap.objs.size f cdv)) →
    MSs (cxOf (L2.CX P w) P w K mg base N qual (defScope st) f cdv A outer s H E) (fun cls d _ H => E cls d H) R Pn (defBody st) M
theorem fn_ok {P : Program} {w : World} {K : PySem.W.Frag} {mg : Str → Option Value} {base : Heap} {x qual : Str} {st : Stmt} {f : Addr} {fd : FuncData} {N ps : List Str} {k : Nat} {M : DEnv → FR} (F : Fun K x qual st f fd) (S : FnScope N ps (defScope st)) (sig : List PM) (hs : sig.length = ps.length)
    (hM : BodyOk P w K mg base N qual st f k M) : FnOk P w K mg base (L2.CX P w) (k + 1) f fd ps (spF K mg sig (runFn M N.length sig)) := by
  refine F.okX S (fun vs H Q E ⟨_, _, _, _, _, h, _⟩ => h.trans hs) (fun cdv A outer s H vs Q E hr h => ?_)
  obtain ⟨R, G, F0, ds, L, hl, hd, I, q⟩ := h
  refine ⟨_, pss_w, ?_⟩
  have I2 : FI K R (vs.map some) G H F0 (start N vs) (inS sig ds ++ List.replicate (N.length - sig.length) .un) L := by
    refine ⟨I.fh, I.gh, I.rg, ?_, I.nd, I.fr⟩
    have e := I.er.more (N.length - sig.length)
    unfold L2.start
    rw [← hl] at e ⊢
    exact e
  refine hM cdv A outer s H E R (vs.map some) hr G H F0 _ _ L _ I2 ?_
  unfold runFn at q
  have ap : ∀ {L L' Lr : List Addr}, (Lr ++ L).Nodup → (∀ a ∈ L', a ∈ L) → L'.Nodup → (Lr ++ L').Nodup := fun nd m n =>
    List.nodup_append.mpr ⟨(List.nodup_append.mp nd).1, n, fun a ha b hb => (List.nodup_append.mp nd).2.2 a ha b (m b hb)⟩
  have fin : ∀ (rv : Val) (env : DEnv), PostF K mg R (vs.map some) G F0 sig (retS sig rv env) Q E → ∀ (v : V) (σ' : St) (H' F' : Hp) (L' Lr : List Addr), FI K R (vs.map some) G H' F' σ' env L' → Same F0 F' → NewF G F0 F' → RepVal K H' F' σ' v rv Lr → (Lr ++ L').Nodup → (∀ a ∈ Lr, F' a = none ∧ G a = none) → Q v H' := by
    intro rv env q v σ' H' F' L' Lr J s n r nd fr
    unfold retS at q
    cases rv with
    | fz d =>
      dsimp only at q
      cases ho : outS sig env with
      | none => rw [ho] at q; exact q.elim
      | some os =>
        rw [ho] at q
        obtain ⟨L2, J2, m2⟩ := J.fin hl ho
        exact q v H' F' L2 Lr J2 s n r (ap nd m2 J2.nd) fr
    | tmp d =>
      dsimp only at q
      cases ho : outS sig env with
      | none => rw [ho] at q; exact q.elim
      | some os =>
        rw [ho] at q
        obtain ⟨L2, J2, m2⟩ := J.fin hl ho
        exact q v H' F' L2 Lr J2 s n r (ap nd m2 J2.nd) fr
    | br i =>
      dsimp only at q
      obtain ⟨rfl, es⟩ := r
      split at q
      · rename_i d ei
        obtain ⟨u, La, L3, e1, ro, ndA, mem, put⟩ := J.er.focus J.nd (.inl rfl) ei
        rw [es] at e1
        cases e1
        obtain ⟨k1, _, _⟩ := put H' F' (Same.refl _) fun _ _ => rfl
        have J1 : FI K R (vs.map some) G H' F' σ' (env.set i .un) L3 := ⟨J.fh, J.gh, J.rg, k1, (List.nodup_append.mp ndA).2.1, fun a ha => J.fr a ((mem a).mpr (.inr ha))⟩
        cases ho : outS sig (env.set i .un) with
        | none => rw [ho] at q; exact q.elim
        | some os =>
          rw [ho] at q
          obtain ⟨L2, J2, m2⟩ := J1.fin hl ho
          exact q v H' F' L2 La J2 s n ro (ap ndA m2 J2.nd) (fun a ha => J.fr a ((mem a).mpr (.inl ha)))
      · rename_i d ei
        obtain ⟨u, e1, rr⟩ := J.er.getFz ei
        rw [es] at e1
        cases e1
        cases ho : outS sig env with
        | none => rw [ho] at q; exact q.elim
        | some os =>
          rw [ho] at q
          obtain ⟨L2, J2, m2⟩ := J.fin hl ho
          exact q v H' F' L2 [] J2 s n ⟨rfl, rr⟩ (by simpa using J2.nd) (fun a z => nomatch z)
      · exact q.elim
  cases e : M (inS sig ds ++ List.replicate (N.length - sig.length) .un) with
  | next env =>
    rw [e] at q
    intro σ' H' F' L' J s n
    exact fin _ _ q .non σ' H' F' L' [] J s n ⟨rfl, .non⟩ (by simpa using J.nd) (fun a z => nomatch z)
  | brk env => rw [e] at q; exact q.elim
  | cnt env => rw [e] at q; exact q.elim
  | err => rw [e] at q; exact q.elim
  | raise c env =>
    rw [e] at q
    intro C σ' H' F' L' g J s n
    dsimp only at q
    cases ho : outS sig env with
    | none => rw [ho] at q; exact q.elim
    | some os =>
      rw [ho] at q
      obtain ⟨L2, J2, m2⟩ := J.fin hl ho
      exact q C H' F' L2 g J2 s n
  | ret rv env =>
    rw [e] at q
    intro v σ' H' F' L' Lr J s n r nd fr
    exact fin rv env q v σ' H' F' L' Lr J s n r nd fr
end DX

namespace DX
open PySem PySem.Spec L2
open PyProof.Rows hiding St

/-! ### slots that are taken out and filled again -/
def holeS : Mode → Slot
  | .io => .pin
  | _ => .un
section
variable {K : PySem.W.Frag} {R H F : Hp}
theorem EnvR.take : ∀ {P : List (Option V)} {σ : St} {env : DEnv} {L : List Addr}, EnvR K R H F P σ env L → ∀ {i : Nat} {m : Mode} {d : D}, (m = .ow ∨ m = .io) → env[i]? = some (.v m d) →
    ∃ v La L', σ[i]? = some (some v) ∧ RepO K H F v d La ∧ L.Perm (La ++ L') ∧ EnvR K R H F P σ (env.set i (holeS m)) L' := by
  intro P σ env L h
  induction h with
  | nil => intro i m d hm e; simp at e
  | @un _ o _ _ _ t ih => intro i m d hm e; cases i with
    | zero => simp at e
    | succ i => obtain ⟨v, La, L', e1, r, p, t'⟩ := ih hm (by simpa using e); exact ⟨v, La, L', e1, r, p, .un (o := o) t'⟩
  | pin p0 t ih => intro i m d hm e; cases i with
    | zero => simp at e
    | succ i => obtain ⟨v, La, L', e1, r, p, t'⟩ := ih hm (by simpa using e); exact ⟨v, La, L', e1, r, p, .pin p0 t'⟩
  | fz r0 t ih => intro i m d hm e; cases i with
    | zero => simp at e; rcases hm with rfl | rfl <;> simp at e
    | succ i => obtain ⟨v, La, L', e1, r, p, t'⟩ := ih hm (by simpa using e); exact ⟨v, La, L', e1, r, p, .fz r0 t'⟩
  | rd r0 t ih => intro i m d hm e; cases i with
    | zero => simp at e; rcases hm with rfl | rfl <;> simp at e
    | succ i => obtain ⟨v, La, L', e1, r, p, t'⟩ := ih hm (by simpa using e); exact ⟨v, La, L', e1, r, p, .rd r0 t'⟩
  | @ow _ v0 d0 _ _ L1 L2 r0 t ih => intro i m d hm e; cases i with
    | zero => simp at e; obtain ⟨rfl, rfl⟩ := e; exact ⟨v0, L1, L2, rfl, r0, List.Perm.refl _, .un t⟩
    | succ i =>
      obtain ⟨v, La, L', e1, r, p, t'⟩ := ih hm (by simpa using e)
      refine ⟨v, La, L1 ++ L', e1, r, ?_, .ow r0 t'⟩
      exact (p.append_left L1).trans (by rw [← List.append_assoc, ← List.append_assoc]; exact List.perm_append_comm.append_right L')
  | @io _ v0 d0 _ _ L1 L2 p0 r0 t ih => intro i m d hm e; cases i with
    | zero => simp at e; obtain ⟨rfl, rfl⟩ := e; exact ⟨v0, L1, L2, rfl, r0, List.Perm.refl _, .pin p0 t⟩
    | succ i =>
      obtain ⟨v, La, L', e1, r, p, t'⟩ := ih hm (by simpa using e)
      refine ⟨v, La, L1 ++ L', e1, r, ?_, .io p0 r0 t'⟩
      exact (p.append_left L1).trans (by rw [← List.append_assoc, ← List.append_assoc]; exact List.perm_append_comm.append_right L')
theorem EnvR.fill : ∀ {P : List (Option V)} {σ : St} {env : DEnv} {L : List Addr}, EnvR K R H F P σ env L → ∀ {i : Nat} {m : Mode} {v : V} {d : D} {Lb : List Addr}, (m = .ow ∨ m = .io) → env[i]? = some (holeS m) → σ[i]? = some (some v) → RepO K H F v d Lb →
    ∃ L', EnvR K R H F P σ (env.set i (.v m d)) L' ∧ L'.Perm (Lb ++ L) := by
  intro P σ env L h
  induction h with
  | nil => intro i m v d Lb hm e; simp at e
  | @un _ o _ _ _ t ih => intro i m v d Lb hm e ev r; cases i with
    | zero =>
      simp at e ev
      rcases hm with rfl | rfl
      · subst ev; exact ⟨_, .ow r t, List.Perm.refl _⟩
      · simp [holeS] at e
    | succ i => obtain ⟨L', t', p⟩ := ih hm (by simpa using e) (by simpa using ev) r; exact ⟨L', .un (o := o) t', p⟩
  | @pin P0 v0 _ _ _ p0 t ih => intro i m v d Lb hm e ev r; cases i with
    | zero =>
      simp at e ev
      rcases hm with rfl | rfl
      · simp [holeS] at e
      · subst ev; exact ⟨_, .io p0 r t, List.Perm.refl _⟩
    | succ i => obtain ⟨L', t', p⟩ := ih hm (by simpa using e) (by simpa using ev) r; exact ⟨L', .pin p0 t', p⟩
  | fz r0 t ih => intro i m v d Lb hm e ev r; cases i with
    | zero => rcases hm with rfl | rfl <;> simp [holeS] at e
    | succ i => obtain ⟨L', t', p⟩ := ih hm (by simpa using e) (by simpa using ev) r; exact ⟨L', .fz r0 t', p⟩
  | rd r0 t ih => intro i m v d Lb hm e ev r; cases i with
    | zero => rcases hm with rfl | rfl <;> simp [holeS] at e
    | succ i => obtain ⟨L', t', p⟩ := ih hm (by simpa using e) (by simpa using ev) r; exact ⟨L', .rd r0 t', p⟩
  | @ow _ v0 d0 _ _ L1 L2 r0 t ih => intro i m v d Lb hm e ev r; cases i with
    | zero => rcases hm with rfl | rfl <;> simp [holeS] at e
    | succ i =>
      obtain ⟨L', t', p⟩ := ih hm (by simpa using e) (by simpa using ev) r
      refine ⟨L1 ++ L', .ow r0 t', (p.append_left L1).trans ?_⟩
      rw [← List.append_assoc, ← List.append_assoc]; exact List.perm_append_comm.append_right L2
  | @io _ v0 d0 _ _ L1 L2 p0 r0 t ih => intro i m v d Lb hm e ev r; cases i with
    | zero => rcases hm with rfl | rfl <;> simp [holeS] at e
    | succ i =>
      obtain ⟨L', t', p⟩ := ih hm (by simpa using e) (by simpa using ev) r
      refine ⟨L1 ++ L', .io p0 r0 t', (p.append_left L1).trans ?_⟩
      rw [← List.append_assoc, ← List.append_assoc]; exact List.perm_append_comm.append_right L2
end

/-! ### arguments handed over -/
/-- where what was changed in place goes back to -/
inductive Hole where
  | ow (j : Nat) | io (j : Nat) | no
/-- what is taken out of the slots for a call (what is only read is looked up behind) -/
def take1 : PM → Val → DEnv → Option (Option D × List Hole × DEnv)
  | .va, rv, env => match frzV env rv with
    | some (d, e) => some (some d, [], e)
    | none => none
  | .rd, _, env => some (none, [], env)
  | .io, .br j, env => match env[j]? with
    | some (.v .ow d) => some (some d, [.ow j], env.set j .un)
    | some (.v .io d) => some (some d, [.io j], env.set j .pin)
    | _ => none
  | .io, .tmp d, env => some (some d, [.no], env)
  | .io, .fz _, _ => none
  | .mv, .br j, env => match env[j]? with
    | some (.v .ow d) => some (some d, [], env.set j .un)
    | _ => none
  | .mv, .tmp d, env => some (some d, [], env)
  | .mv, .fz _, _ => none
def takeA : List PM → List Val → DEnv → Option (List (Option D) × List Hole × DEnv)
  | [], [], env => some ([], [], env)
  | p :: ps, rv :: rvs, env => match take1 p rv env with
    | some (d, h, e1) => match takeA ps rvs e1 with
      | some (ds, hs, e2) => some (d :: ds, h ++ hs, e2)
      | none => none
    | none => none
  | _, _, _ => none
def fillR : List (Option D) → List Val → DEnv → Option (List D)
  | [], [], _ => some []
  | some d :: ds, _ :: rvs, env => match fillR ds rvs env with
    | some r => some (d :: r)
    | none => none
  | none :: ds, rv :: rvs, env => match rdA env rv with
    | some d => match fillR ds rvs env with
      | some r => some (d :: r)
      | none => none
    | none => none
  | _, _, _ => none
def putB : List Hole → List D → DEnv → Option DEnv
  | [], _, env => some env
  | .ow j :: hs, d :: os, env => match env[j]? with
    | some .un => putB hs os (env.set j (.v .ow d))
    | _ => none
  | .io j :: hs, d :: os, env => match env[j]? with
    | some .pin => putB hs os (env.set j (.v .io d))
    | _ => none
  | .no :: hs, _ :: os, env => putB hs os env
  | _ :: _, [], _ => none
/-- a def is called with values -/
def callV (sig : List PM) (f : List D → FnR) (rvs : List Val) (e1 : DEnv) : ER := match takeA sig rvs e1 with
  | some (ds0, hs, e2) => match fillR ds0 rvs e2 with
    | some ds => match f ds with
      | .ok rv os => match putB hs os e2 with
        | some e3 => .ok rv e3
        | none => .err
      | .raise c os => match putB hs os e2 with
        | some e3 => .raise c e3
        | none => .err
      | .err => .err
    | none => .err
  | none => .err
def dCall (sig : List PM) (f : List D → FnR) (ms : List (DEnv → ER)) : DEnv → ER := fun env => (mArgs ms env).bind (callV sig f)
/-- H without what is handed over -/
def cutG (H : Hp) (L : List Addr) : Hp := fun a => if a ∈ L then none else H a
theorem cutG_in {H : Hp} {L : List Addr} {a : Addr} (h : a ∈ L) : cutG H L a = none := if_pos h
theorem cutG_out {H : Hp} {L : List Addr} {a : Addr} (h : a ∉ L) : cutG H L a = H a := if_neg h
theorem cutG_same {H : Hp} {L : List Addr} : Same (cutG H L) H := fun b o e => by
  by_cases h : b ∈ L
  · rw [cutG_in h] at e; cases e
  · rw [cutG_out h] at e; exact e
section
variable {X : Cx} {W : WX} {R : Hp} {P : List (Option V)} {pos : Pos} {G H F : Hp} {σ : St} {env : DEnv} {L : List Addr}
/-- what the arguments are, with the places (Lt: handed over; Lr: temporary ones that are read) -/
inductive Tk (K : PySem.W.Frag) (H F : Hp) (σ : St) : List PM → List V → List Val → List (Option D) → List Hole → List Addr → List Addr → Prop
  | nil : Tk K H F σ [] [] [] [] [] [] []
  | va {v : V} {rv : Val} {d : D} {ps vs rvs ds hs Lt Lr} (r : Rep K F v d) (t : Tk K H F σ ps vs rvs ds hs Lt Lr) : Tk K H F σ (.va :: ps) (v :: vs) (rv :: rvs) (some d :: ds) hs Lt Lr
  | rd {v : V} {rv : Val} {L1 : List Addr} {ps vs rvs ds hs Lt Lr} (r : RepVal K H F σ v rv L1) (t : Tk K H F σ ps vs rvs ds hs Lt Lr) : Tk K H F σ (.rd :: ps) (v :: vs) (rv :: rvs) (none :: ds) hs Lt (L1 ++ Lr)
  | ow {v : V} {rv : Val} {j : Nat} {d : D} {L1 : List Addr} {ps vs rvs ds hs Lt Lr} (e : σ[j]? = some (some v)) (r : RepO K H F v d L1) (t : Tk K H F σ ps vs rvs ds hs Lt Lr) : Tk K H F σ (.io :: ps) (v :: vs) (rv :: rvs) (some d :: ds) (.ow j :: hs) (L1 ++ Lt) Lr
  | io {v : V} {rv : Val} {j : Nat} {d : D} {L1 : List Addr} {ps vs rvs ds hs Lt Lr} (e : σ[j]? = some (some v)) (r : RepO K H F v d L1) (t : Tk K H F σ ps vs rvs ds hs Lt Lr) : Tk K H F σ (.io :: ps) (v :: vs) (rv :: rvs) (some d :: ds) (.io j :: hs) (L1 ++ Lt) Lr
  | no {v : V} {rv : Val} {d : D} {L1 : List Addr} {ps vs rvs ds hs Lt Lr} (r : RepO K H F v d L1) (t : Tk K H F σ ps vs rvs ds hs Lt Lr) : Tk K H F σ (.io :: ps) (v :: vs) (rv :: rvs) (some d :: ds) (.no :: hs) (L1 ++ Lt) Lr
  | mv {v : V} {rv : Val} {d : D} {L1 : List Addr} {ps vs rvs ds hs Lt Lr} (r : RepO K H F v d L1) (t : Tk K H F σ ps vs rvs ds hs Lt Lr) : Tk K H F σ (.mv :: ps) (v :: vs) (rv :: rvs) (some d :: ds) hs (L1 ++ Lt) Lr
theorem Tk.later {K : PySem.W.Frag} {F' : Hp} {ps vs rvs ds hs Lt Lr} (ff : Same F F') (h : Tk K H F σ ps vs rvs ds hs Lt Lr) : Tk K H F' σ ps vs rvs ds hs Lt Lr := by
  have ko : ∀ {v : V} {d : D} {L : List Addr}, RepO K H F v d L → RepO K H F' v d L := fun r => RepO.keep (fun _ _ => rfl) ff r
  have kv : ∀ {v : V} {rv : Val} {L : List Addr}, RepVal K H F σ v rv L → RepVal K H F' σ v rv L := fun {v rv L} r => by
    cases rv with
    | fz d => exact ⟨r.1, r.2.mono ff⟩
    | tmp d => exact ko r
    | br i => exact r
  induction h with
  | nil => exact .nil
  | va r t ih => exact .va (r.mono ff) ih
  | rd r t ih => exact .rd (kv r) ih
  | ow e r t ih => exact .ow e (ko r) ih
  | io e r t ih => exact .io e (ko r) ih
  | no r t ih => exact .no (ko r) ih
  | mv r t ih => exact .mv (ko r) ih
/-- a slot is taken out -/
theorem FI.take {i : Nat} {m : Mode} {d : D} (I : FI X.K R P G H F σ env L) (hm : m = .ow ∨ m = .io) (e : env[i]? = some (.v m d)) :
    ∃ v La L', σ[i]? = some (some v) ∧ RepO X.K H F v d La ∧ L.Perm (La ++ L') ∧ FI X.K R P G H F σ (env.set i (holeS m)) L' := by
  obtain ⟨v, La, L', e1, r, p, t⟩ := I.er.take hm e
  have nd := p.nodup_iff.1 I.nd
  exact ⟨v, La, L', e1, r, p, I.fh, I.gh, I.rg, t, (List.nodup_append.1 nd).2.1, fun a ha => I.fr a (p.mem_iff.2 (List.mem_append_right _ ha))⟩
theorem take_ok : ∀ {sig : List PM} {rvs : List Val} {vs : List V} {Lr L : List Addr} {F : Hp} {env env' : DEnv} {ds : List (Option D)} {hs : List Hole}, FI X.K R P G H F σ env L → HeldR X.K H F σ vs rvs Lr → (Lr ++ L).Nodup → (∀ a ∈ Lr, F a = none ∧ G a = none) → takeA sig rvs env = some (ds, hs, env') →
    ∃ F' L' Lt Lq, FI X.K R P G H F' σ env' L' ∧ Same F F' ∧ NewF G F F' ∧ Tk X.K H F' σ sig vs rvs ds hs Lt Lq ∧ (Lt ++ (Lq ++ L')).Nodup ∧ (∀ a, a ∈ Lt ∨ a ∈ Lq ∨ a ∈ L' → a ∈ Lr ∨ a ∈ L) ∧ (∀ a, F' a ≠ none → F a ≠ none ∨ a ∈ Lr ∨ a ∈ L) ∧ (∀ a ∈ Lt ++ Lq, F' a = none)
  | [], _, _, _, L, F, env, env', ds, hs, I, .nil, nd, fr, e => by
    cases e
    exact ⟨F, L, [], [], I, Same.refl F, NewF.refl, .nil, by simpa using I.nd, fun a h => by simpa using h, fun a h => .inl h, fun a h => by simp at h⟩
  | [], _, _, _, _, _, _, _, _, _, _, .cons _ _, _, _, e => by simp [takeA] at e
  | _ :: _, _, _, _, _, _, _, _, _, _, _, .nil, _, _, e => by simp [takeA] at e
  | p :: ps, _, _, _, L, F, env, env', ds, hs, I, .cons (v := v) (rv := rv) (L1 := L1) (vs := vs) (rvs := rvs) (L := L2) h t, nd, fr, e => by
    unfold takeA at e
    cases e1 : take1 p rv env with
    | none => rw [e1] at e; cases e
    | some q1 =>
    obtain ⟨d, h1, env1⟩ := q1
    rw [e1] at e
    dsimp only at e
    cases e2 : takeA ps rvs env1 with
    | none => rw [e2] at e; cases e
    | some q2 =>
    obtain ⟨ds2, hs2, env2⟩ := q2
    rw [e2] at e
    cases e
    have nd0 : (L1 ++ (L2 ++ L)).Nodup := by rw [← List.append_assoc]; exact nd
    obtain ⟨n1, n2, n3⟩ := List.nodup_append.1 nd0
    obtain ⟨n4, n5, n6⟩ := List.nodup_append.1 n2
    have fr1 : ∀ a ∈ L1, F a = none ∧ G a = none := fun a ha => fr a (List.mem_append_left _ ha)
    have fr2 : ∀ a ∈ L2, F a = none ∧ G a = none := fun a ha => fr a (List.mem_append_right _ ha)
    -- the rest, behind this one: La are this one's own places
    have go : ∀ {F1 : Hp} {L0 La : List Addr}, FI X.K R P G H F1 σ env1 L0 → Same F F1 → NewF G F F1 → (∀ a ∈ L2, F1 a = none) → (∀ a ∈ La, F1 a = none) → (La ++ (L2 ++ L0)).Nodup → (∀ a ∈ La, a ∈ L1 ∨ a ∈ L) → (∀ a ∈ L0, a ∈ L) → (∀ a, F1 a ≠ none → F a ≠ none ∨ a ∈ L1 ∨ a ∈ L) →
        (∀ {F' : Hp} {Lt Lq : List Addr}, Same F1 F' → Tk X.K H F' σ ps vs rvs ds2 hs2 Lt Lq → ∃ Lt' Lq', Tk X.K H F' σ (p :: ps) (v :: vs) (rv :: rvs) (d :: ds2) (h1 ++ hs2) Lt' Lq' ∧ (Lt' ++ Lq').Perm (La ++ (Lt ++ Lq))) →
        ∃ F' L' Lt Lq, FI X.K R P G H F' σ env' L' ∧ Same F F' ∧ NewF G F F' ∧ Tk X.K H F' σ (p :: ps) (v :: vs) (rv :: rvs) (d :: ds2) (h1 ++ hs2) Lt Lq ∧ (Lt ++ (Lq ++ L')).Nodup ∧ (∀ a, a ∈ Lt ∨ a ∈ Lq ∨ a ∈ L' → a ∈ L1 ++ L2 ∨ a ∈ L) ∧ (∀ a, F' a ≠ none → F a ≠ none ∨ a ∈ L1 ++ L2 ∨ a ∈ L) ∧ (∀ a ∈ Lt ++ Lq, F' a = none) := by
      intro F1 L0 La I1 ff nf f2 fa nda ma m0 loc mk
      obtain ⟨a1, a2, a3⟩ := List.nodup_append.1 nda
      obtain ⟨F2, L', Lt, Lq, I2, ff2, nf2, tk, nd2, m2, loc2, fr'⟩ := take_ok (sig := ps) I1 (t.keep ff fun _ _ => rfl) a2 (fun a ha => ⟨f2 a ha, (fr2 a ha).2⟩) e2
      obtain ⟨Lt', Lq', tk', pm⟩ := mk ff2 tk
      have mm : ∀ a, a ∈ Lt ∨ a ∈ Lq ∨ a ∈ L' → a ∈ L2 ++ L0 := fun a h => List.mem_append.2 (m2 a h)
      have pm2 : (Lt' ++ (Lq' ++ L')).Perm (La ++ (Lt ++ (Lq ++ L'))) := by
        have := pm.append_right L'
        simpa only [List.append_assoc] using this
      refine ⟨F2, L', Lt', Lq', I2, ff.trans ff2, nf.trans nf2, tk', pm2.nodup_iff.2 (List.nodup_append.2 ⟨a1, nd2, fun a ha b hb => a3 a ha b (mm b ?_)⟩), fun a ha => ?_, fun a ha => ?_, fun a ha => ?_⟩
      · simpa only [List.mem_append] using hb
      · have : a ∈ La ++ (Lt ++ (Lq ++ L')) := pm2.mem_iff.1 (by simpa only [List.mem_append] using ha)
        rcases List.mem_append.1 this with z | z
        · exact (ma a z).imp (List.mem_append_left _) id
        · rcases List.mem_append.1 (mm a (by simpa only [List.mem_append] using z)) with z | z
          · exact .inl (List.mem_append_right _ z)
          · exact .inr (m0 a z)
      · rcases loc2 a ha with z | z | z
        · exact (loc a z).imp id (Or.imp (List.mem_append_left _) id)
        · exact .inr (.inl (List.mem_append_right _ z))
        · exact .inr (.inr (m0 a z))
      · rcases List.mem_append.1 (pm.mem_iff.1 ha) with z | z
        · refine Classical.byContradiction fun w => ?_
          rcases loc2 a w with y | y | y
          · exact y (fa a z)
          · exact a3 a z a (List.mem_append_left _ y) rfl
          · exact a3 a z a (List.mem_append_right _ y) rfl
        · exact fr' a z
    have swap : ∀ {A B C : List Addr}, (A ++ (B ++ C)).Perm (B ++ (A ++ C)) := fun {A B C} => by
      rw [← List.append_assoc, ← List.append_assoc]; exact List.perm_append_comm.append_right C
    have f2F : ∀ a ∈ L2, F a = none := fun a ha => (fr2 a ha).1
    have f1F : ∀ a ∈ L1, F a = none := fun a ha => (fr1 a ha).1
    have locF : ∀ a, F a ≠ none → F a ≠ none ∨ a ∈ L1 ∨ a ∈ L := fun a h => .inl h
    have ko : ∀ {F' : Hp} {v : V} {d : D} {L : List Addr}, Same F F' → RepO X.K H F v d L → RepO X.K H F' v d L := fun ff r => RepO.keep (fun _ _ => rfl) ff r
    have slot : ∀ {j : Nat} {m : Mode} {d0 : D}, (m = .ow ∨ m = .io) → σ[j]? = some (some v) → L1 = [] → env[j]? = some (.v m d0) → env1 = env.set j (holeS m) →
        (∀ {F' : Hp} {La Lt Lq : List Addr}, σ[j]? = some (some v) → RepO X.K H F' v d0 La → Tk X.K H F' σ ps vs rvs ds2 hs2 Lt Lq → Tk X.K H F' σ (p :: ps) (v :: vs) (rv :: rvs) (d :: ds2) (h1 ++ hs2) (La ++ Lt) Lq) →
        ∃ F' L' Lt Lq, FI X.K R P G H F' σ env' L' ∧ Same F F' ∧ NewF G F F' ∧ Tk X.K H F' σ (p :: ps) (v :: vs) (rv :: rvs) (d :: ds2) (h1 ++ hs2) Lt Lq ∧ (Lt ++ (Lq ++ L')).Nodup ∧ (∀ a, a ∈ Lt ∨ a ∈ Lq ∨ a ∈ L' → a ∈ L1 ++ L2 ∨ a ∈ L) ∧ (∀ a, F' a ≠ none → F a ≠ none ∨ a ∈ L1 ++ L2 ∨ a ∈ L) ∧ (∀ a ∈ Lt ++ Lq, F' a = none) := by
      intro j m d0 hm es hl ej ee mk
      subst ee
      obtain ⟨u, La, L0, e3, ro, pm, I0⟩ := I.take hm ej
      rw [es] at e3; cases e3
      have inL : ∀ a ∈ La, a ∈ L := fun a ha => pm.mem_iff.2 (List.mem_append_left _ ha)
      refine go I0 (Same.refl F) NewF.refl f2F (fun a ha => (I.fr a (inL a ha)).1) ?_ (fun a ha => .inr (inL a ha)) (fun a ha => pm.mem_iff.2 (List.mem_append_right _ ha)) locF fun ff tk => ⟨_, _, mk es (ko ff ro) tk, by rw [List.append_assoc]⟩
      exact (swap.trans (pm.symm.append_left L2)).nodup_iff.2 n2
    cases p with
    | va =>
      dsimp only [take1] at e1
      cases ef : frzV env rv with
      | none => rw [ef] at e1; cases e1
      | some q =>
        obtain ⟨d', e'⟩ := q
        rw [ef] at e1
        cases e1
        obtain ⟨F1, L1', I1, ff1, nw1, r1, sub1, loc1⟩ := frzV_ok I h (List.nodup_append.2 ⟨n1, n5, fun a ha b hb => n3 a ha b (List.mem_append_right _ hb)⟩) fr1 ef
        refine go (La := []) I1 ff1 nw1 (fun a ha => ?_) (fun a ha => nomatch ha) ?_ (fun a ha => nomatch ha) sub1 loc1 fun ff tk => ⟨_, _, .va (r1.mono ff) tk, List.Perm.refl _⟩
        · refine Classical.byContradiction fun w => ?_
          rcases loc1 a w with y | y | y
          · exact y (f2F a ha)
          · exact n3 a y a (List.mem_append_left _ ha) rfl
          · exact n6 a ha a y rfl
        · exact (List.nodup_append.2 ⟨n4, I1.nd, fun a ha b hb => n6 a ha b (sub1 b hb)⟩ : (L2 ++ L1').Nodup)
    | rd =>
      dsimp only [take1] at e1
      cases e1
      exact go (La := L1) I (Same.refl F) NewF.refl f2F f1F nd0 (fun a ha => .inl ha) (fun a ha => ha) locF fun ff tk => ⟨_, _, .rd (h.keep ff fun _ _ => rfl) tk, swap⟩
    | io =>
      dsimp only [take1] at e1
      cases rv with
      | fz d' => cases e1
      | tmp d' =>
        cases e1
        exact go (La := L1) I (Same.refl F) NewF.refl f2F f1F nd0 (fun a ha => .inl ha) (fun a ha => ha) locF fun ff tk => ⟨_, _, .no (ko ff h) tk, by rw [List.append_assoc]⟩
      | br j =>
        dsimp only at e1
        split at e1
        · rename_i d0 ej
          cases e1
          exact slot (.inl rfl) h.2 h.1 ej rfl fun es r tk => .ow es r tk
        · rename_i d0 ej
          cases e1
          exact slot (.inr rfl) h.2 h.1 ej rfl fun es r tk => .io es r tk
        · cases e1
    | mv =>
      dsimp only [take1] at e1
      cases rv with
      | fz d' => cases e1
      | tmp d' =>
        cases e1
        exact go (La := L1) I (Same.refl F) NewF.refl f2F f1F nd0 (fun a ha => .inl ha) (fun a ha => ha) locF fun ff tk => ⟨_, _, .mv (ko ff h) tk, by rw [List.append_assoc]⟩
      | br j =>
        dsimp only at e1
        split at e1
        · rename_i d0 ej
          cases e1
          exact slot (.inl rfl) h.2 h.1 ej rfl fun es r tk => .mv r tk
        · cases e1
/-- what is read stands also in a part of the heap that leaves out what is handed over -/
theorem rdA_in {K : PySem.W.Frag} {R H F Hs : Hp} {P : List (Option V)} {σ : St} {env : DEnv} {L L1 : List Addr} {v : V} {rv : Val} (er : EnvR K R H F P σ env L) (fs : Same F Hs) (rs : Same R Hs) (hs : ∀ a ∈ L, Hs a = H a) (h1 : ∀ a ∈ L1, Hs a = H a) (h : RepVal K H F σ v rv L1) {d : D} (e : rdA env rv = some d) : RepR K Hs F v d := by
  cases rv with
  | fz d' => cases e; exact .inl (h.2.toH fs)
  | tmp d' => cases e; exact .inr ⟨_, RepO.keep h1 (Same.refl F) h⟩
  | br i =>
    cases q : env[i]? with
    | none => simp only [rdA, q] at e; cases e
    | some s =>
      simp only [rdA, q] at e
      cases s with
      | un => cases e
      | pin => cases e
      | v m d' =>
        cases e
        have go : ∀ {P : List (Option V)} {σ : St} {env : DEnv} {L : List Addr}, EnvR K R H F P σ env L → (∀ a ∈ L, Hs a = H a) → ∀ {i : Nat}, env[i]? = some (.v m d) → σ[i]? = some (some v) → RepR K Hs F v d := by
          intro P σ env L t
          induction t with
          | nil => intro hs i a b; simp at a
          | un t ih => intro hs i a b; cases i with
            | zero => simp at a
            | succ i => exact ih hs (by simpa using a) (by simpa using b)
          | pin p t ih => intro hs i a b; cases i with
            | zero => simp at a
            | succ i => exact ih hs (by simpa using a) (by simpa using b)
          | fz r t ih => intro hs i a b; cases i with
            | zero => simp at a b; obtain ⟨_, rfl⟩ := a; subst b; exact .inl (r.toH fs)
            | succ i => exact ih hs (by simpa using a) (by simpa using b)
          | rd r t ih => intro hs i a b; cases i with
            | zero => simp at a b; obtain ⟨_, rfl⟩ := a; subst b; exact r.mono rs (Same.refl F)
            | succ i => exact ih hs (by simpa using a) (by simpa using b)
          | ow r t ih => intro hs i a b; cases i with
            | zero => simp at a b; obtain ⟨_, rfl⟩ := a; subst b; exact .inr ⟨_, RepO.keep (fun a ha => hs a (List.mem_append_left _ ha)) (Same.refl F) r⟩
            | succ i => exact ih (fun a ha => hs a (List.mem_append_right _ ha)) (by simpa using a) (by simpa using b)
          | io p r t ih => intro hs i a b; cases i with
            | zero => simp at a b; obtain ⟨_, rfl⟩ := a; subst b; exact .inr ⟨_, RepO.keep (fun a ha => hs a (List.mem_append_left _ ha)) (Same.refl F) r⟩
            | succ i => exact ih (fun a ha => hs a (List.mem_append_right _ ha)) (by simpa using a) (by simpa using b)
        exact go er hs q h.2
/-- the callee's slots -/
theorem tk_env {K : PySem.W.Frag} {R H F Hs : Hp} {P : List (Option V)} {env : DEnv} {L : List Addr} (er : EnvR K R H F P σ env L) (fs : Same F Hs) (rs : Same R Hs) (hL : ∀ a ∈ L, Hs a = H a) {sig vs rvs ds0 hs Lt Lq} (h : Tk K H F σ sig vs rvs ds0 hs Lt Lq) : ∀ {ds : List D}, (∀ a ∈ Lq, Hs a = H a) → fillR ds0 rvs env = some ds →
    EnvR K Hs H F (vs.map some) (vs.map some) (inS sig ds) Lt ∧ vs.length = sig.length ∧ ds.length = sig.length := by
  induction h with
  | nil => intro ds _ e; cases e; exact ⟨.nil, rfl, rfl⟩
  | @va v rv d ps vs rvs ds1 hs Lt Lr r t ih =>
    intro ds hq e
    unfold fillR at e
    cases e1 : fillR ds1 rvs env with
    | none => rw [e1] at e; cases e
    | some r2 => rw [e1] at e; cases e; obtain ⟨a, b, c⟩ := ih hq e1; exact ⟨.fz r a, by simp [b], by simp [c]⟩
  | @rd v rv L1 ps vs rvs ds1 hs Lt Lr r t ih =>
    intro ds hq e
    unfold fillR at e
    cases e2 : rdA env rv with
    | none => rw [e2] at e; cases e
    | some d =>
      rw [e2] at e
      cases e1 : fillR ds1 rvs env with
      | none => rw [e1] at e; cases e
      | some r2 =>
        rw [e1] at e; cases e
        obtain ⟨a, b, c⟩ := ih (fun a ha => hq a (List.mem_append_right _ ha)) e1
        exact ⟨.rd (rdA_in er fs rs hL (fun a ha => hq a (List.mem_append_left _ ha)) r e2) a, by simp [b], by simp [c]⟩
  | @ow v rv j d L1 ps vs rvs ds1 hs Lt Lr es r t ih =>
    intro ds hq e
    unfold fillR at e
    cases e1 : fillR ds1 rvs env with
    | none => rw [e1] at e; cases e
    | some r2 => rw [e1] at e; cases e; obtain ⟨a, b, c⟩ := ih hq e1; exact ⟨.io rfl r a, by simp [b], by simp [c]⟩
  | @io v rv j d L1 ps vs rvs ds1 hs Lt Lr es r t ih =>
    intro ds hq e
    unfold fillR at e
    cases e1 : fillR ds1 rvs env with
    | none => rw [e1] at e; cases e
    | some r2 => rw [e1] at e; cases e; obtain ⟨a, b, c⟩ := ih hq e1; exact ⟨.io rfl r a, by simp [b], by simp [c]⟩
  | @no v rv d L1 ps vs rvs ds1 hs Lt Lr r t ih =>
    intro ds hq e
    unfold fillR at e
    cases e1 : fillR ds1 rvs env with
    | none => rw [e1] at e; cases e
    | some r2 => rw [e1] at e; cases e; obtain ⟨a, b, c⟩ := ih hq e1; exact ⟨.io rfl r a, by simp [b], by simp [c]⟩
  | @mv v rv d L1 ps vs rvs ds1 hs Lt Lr r t ih =>
    intro ds hq e
    unfold fillR at e
    cases e1 : fillR ds1 rvs env with
    | none => rw [e1] at e; cases e
    | some r2 => rw [e1] at e; cases e; obtain ⟨a, b, c⟩ := ih hq e1; exact ⟨.ow r a, by simp [b], by simp [c]⟩
/-- put back behind the call -/
theorem put_back {K : PySem.W.Frag} {R H H2 F F2 Rc : Hp} {P : List (Option V)} {sig vs rvs ds0 hs Lt Lq} (h : Tk K H F σ sig vs rvs ds0 hs Lt Lq) : ∀ {os : List D} {env env' : DEnv} {L Lx : List Addr}, EnvR K R H2 F2 P σ env L → EnvR K Rc H2 F2 (vs.map some) (vs.map some) (exS sig os) Lx → putB hs os env = some env' →
    ∃ L', EnvR K R H2 F2 P σ env' L' ∧ ∃ Ly, L'.Perm (Ly ++ L) ∧ Ly.Sublist Lx := by
  induction h with
  | nil => intro os env env' L Lx er ex e; cases e; exact ⟨L, er, [], List.Perm.refl _, List.nil_sublist _⟩
  | va r t ih =>
    intro os env env' L Lx er ex e
    cases os <;> (cases ex with | un t' => exact ih er t' e)
  | rd r t ih =>
    intro os env env' L Lx er ex e
    cases os <;> (cases ex with | un t' => exact ih er t' e)
  | @ow v rv j d L1 ps vs rvs ds1 hs Lt Lr es r t ih =>
    intro os env env' L Lx er ex e
    cases os with
    | nil => cases e
    | cons o os =>
      cases ex with
      | @io _ v' d' σ' e' La Lb p r' t' =>
        unfold putB at e
        split at e
        · rename_i ej
          obtain ⟨L3, er3, pm3⟩ := er.fill (i := j) (m := .ow) (.inl rfl) ej es r'
          obtain ⟨L4, er4, Ly, pm4, sl⟩ := ih er3 t' e
          refine ⟨L4, er4, La ++ Ly, pm4.trans ?_, List.Sublist.append (List.Sublist.refl _) sl⟩
          refine (pm3.append_left Ly).trans ?_
          rw [← List.append_assoc]
          exact List.perm_append_comm.append_right L
        · cases e
  | @io v rv j d L1 ps vs rvs ds1 hs Lt Lr es r t ih =>
    intro os env env' L Lx er ex e
    cases os with
    | nil => cases e
    | cons o os =>
      cases ex with
      | @io _ v' d' σ' e' La Lb p r' t' =>
        unfold putB at e
        split at e
        · rename_i ej
          obtain ⟨L3, er3, pm3⟩ := er.fill (i := j) (m := .io) (.inr rfl) ej es r'
          obtain ⟨L4, er4, Ly, pm4, sl⟩ := ih er3 t' e
          refine ⟨L4, er4, La ++ Ly, pm4.trans ?_, List.Sublist.append (List.Sublist.refl _) sl⟩
          refine (pm3.append_left Ly).trans ?_
          rw [← List.append_assoc]
          exact List.perm_append_comm.append_right L
        · cases e
  | no r t ih =>
    intro os env env' L Lx er ex e
    cases os with
    | nil => cases e
    | cons o os =>
      cases ex with
      | io p r' t' =>
        obtain ⟨L4, er4, Ly, pm4, sl⟩ := ih er t' e
        exact ⟨L4, er4, Ly, pm4, sl.trans (List.sublist_append_right _ _)⟩
  | mv r t ih =>
    intro os env env' L Lx er ex e
    cases os <;> (cases ex with | un t' => exact ih er t' e)
/-- a call, by the def's promise -/
theorem call_ok {sig : List PM} {f : List D → FnR} {rvs : List Val} {vs : List V} {Lr : List Addr} {Q : VK} (I : FI X.K R P G H F σ env L) (hs : HeldR X.K H F σ vs rvs Lr) (nd : (Lr ++ L).Nodup) (fr : ∀ a ∈ Lr, F a = none ∧ G a = none)
    (h : PostV X W R P G F σ (callV sig f rvs env) Q) : spF X.K X.mg sig f vs H Q (fun cls d H' => W cls d σ H') := by
  unfold callV at h
  cases e : takeA sig rvs env with
  | none => rw [e] at h; exact h.elim
  | some p =>
  obtain ⟨ds0, hs0, e2⟩ := p
  rw [e] at h
  dsimp only at h
  cases ef : fillR ds0 rvs e2 with
  | none => rw [ef] at h; exact h.elim
  | some ds =>
  rw [ef] at h
  dsimp only at h
  obtain ⟨F1, L1, Lt, Lq, I1, ff1, nw1, tk, nd1, mem1, loc1, fr1⟩ := take_ok I hs nd fr e
  obtain ⟨m1, m2, m3⟩ := List.nodup_append.1 nd1
  have ntL : ∀ a, a ∈ Lt ∨ a ∈ Lq ∨ a ∈ L1 → (∃ o, H a = some o ∧ NT o) ∧ G a = none := fun a ha => by
    rcases mem1 a ha with z | z
    · exact ⟨hs.there a z, (fr a z).2⟩
    · exact ⟨I.er.sub a z, (I.fr a z).2⟩
  have gt : ∀ a ∈ Lt, G a = none := fun a ha => (ntL a (.inl ha)).2
  have outT : ∀ a, a ∈ Lq ∨ a ∈ L1 → a ∉ Lt := fun a ha z => m3 a z a (List.mem_append.2 ha) rfl
  have gc : Same G (cutG H Lt) := fun b o q => by
    rw [cutG_out fun z => by rw [gt b z] at q; cases q]
    exact I.gh _ _ q
  have fc : Same F1 (cutG H Lt) := fun b o q => by
    rw [cutG_out fun z => by rw [fr1 b (List.mem_append_left _ z)] at q; cases q]
    exact I1.fh _ _ q
  obtain ⟨er, l1, l2⟩ := tk_env I1.er fc (I.rg.trans gc) (fun a ha => cutG_out (outT a (.inr ha))) tk (ds := ds) (fun a ha => cutG_out (outT a (.inl ha))) ef
  refine ⟨cutG H Lt, cutG H Lt, F1, ds, Lt, l1, l2, ⟨I1.fh, cutG_same, Same.refl _, er, m1, fun a ha => ⟨fr1 a (List.mem_append_left _ ha), cutG_in ha⟩⟩, ?_⟩
  -- behind the call
  have back : ∀ {os : List D} {e3 : DEnv} {H2 F2 : Hp} {Lx : List Addr}, putB hs0 os e2 = some e3 → FI X.K (cutG H Lt) (vs.map some) (cutG H Lt) H2 F2 (vs.map some) (exS sig os) Lx → Same F1 F2 → NewF (cutG H Lt) F1 F2 →
      ∃ L', FI X.K R P G H2 F2 σ e3 L' ∧ (∀ a ∈ L', a ∈ Lx ∨ a ∈ L1) := by
    intro os e3 H2 F2 Lx ep J s nw
    have k1 : ∀ a ∈ L1, H2 a = H a ∧ F2 a = none := fun a ha => by
      obtain ⟨⟨o, q, nt⟩, _⟩ := ntL a (.inr (.inr ha))
      have c : cutG H Lt a = some o := by rw [cutG_out (outT a (.inr ha))]; exact q
      exact ⟨by rw [q]; exact J.gh _ _ c, nw.out c nt (I1.fr a ha).1⟩
    have er2 := I1.er.keep (H' := H2) s fun a ha => (k1 a ha).1
    obtain ⟨L', er3, Ly, pm, sl⟩ := put_back tk er2 J.er ep
    refine ⟨L', ⟨J.fh, gc.trans J.gh, I.rg, er3, pm.nodup_iff.2 (List.nodup_append.2 ⟨J.nd.sublist sl, I1.nd, fun a ha b hb z => ?_⟩), fun a ha => ?_⟩, fun a ha => ?_⟩
    · subst z
      obtain ⟨⟨o, q, nt⟩, _⟩ := ntL a (.inr (.inr hb))
      have := (J.fr a (sl.subset ha)).2
      rw [cutG_out (outT a (.inr hb)), q] at this
      cases this
    · rcases List.mem_append.1 (pm.mem_iff.1 ha) with z | z
      · have := J.fr a (sl.subset z); exact ⟨this.1, gc.free this.2⟩
      · exact ⟨(k1 a z).2, (I1.fr a z).2⟩
    · exact (List.mem_append.1 (pm.mem_iff.1 ha)).imp (fun z => sl.subset z) id
  have nwG : ∀ {F2 : Hp}, NewF (cutG H Lt) F1 F2 → NewF G F1 F2 := fun nw => nw.less gc
  cases er2 : f ds with
  | err => rw [er2] at h; exact h
  | raise c os =>
    rw [er2] at h
    dsimp only at h
    intro C H' F' L' g J s nw
    cases ep : putB hs0 os e2 with
    | none => rw [ep] at h; exact h.elim
    | some e3 =>
      rw [ep] at h
      obtain ⟨L3, J3, _⟩ := back ep J s nw
      exact h C H' F' L3 g J3 (ff1.trans s) (nw1.trans (nwG nw))
  | ok rv os =>
    rw [er2] at h
    dsimp only at h
    intro v H' F' L' Lz J s nw r ndq frq
    cases ep : putB hs0 os e2 with
    | none => rw [ep] at h; exact h.elim
    | some e3 =>
      rw [ep] at h
      obtain ⟨L3, J3, mm⟩ := back ep J s nw
      have rr : RepVal X.K H' F' σ v rv Lz := by
        cases rv with
        | fz d => exact r
        | tmp d => exact r
        | br i => exact absurd r.2 (by simp)
      refine h v H' F' L3 Lz J3 (ff1.trans s) (nw1.trans (nwG nw)) rr ?_ fun a ha => ⟨(frq a ha).1, gc.free (frq a ha).2⟩
      obtain ⟨q1, q2, q3⟩ := List.nodup_append.1 ndq
      refine List.nodup_append.2 ⟨q1, J3.nd, fun a ha b hb z => ?_⟩
      subst z
      rcases mm a hb with z | z
      · exact q3 a ha a z rfl
      · obtain ⟨⟨o, q, nt⟩, _⟩ := ntL a (.inr (.inr z))
        have := (frq a ha).2
        rw [cutG_out (outT a (.inr z)), q] at this
        cases this
theorem me_call {k : Nat} {f : Addr} {fd : FuncData} {ps : List Str} {x : Str} {p : Pos} {e : Expr} {es : List Expr} {ms : List (DEnv → ER)} {sig : List PM} {fn : List D → FnR} (FO : FnOk X.prog X.w X.K X.mg X.base (L2.CX X.prog X.w) k f fd ps (spF X.K X.mg sig fn)) (hr : Room k X.A)
    (hm : X.mg x = some (.ref f)) (hk : PySem.W.keepIn X.K (.ref f) = true) (hb : Binds X.K fd ps []) (tk : Takes X W) (hs : MEs X W R P (e :: es) ms) (ha : PA X (e :: es) (tWa X (e :: es))) (hg : Gl X x := by rfl) (hdb : (x == ("__debug__" : Str)) = false := by decide)
    (he : starEach (e :: es) X.env = (false, eval e X.env) :: starEach es X.env := by rfl) (hpl : (backTo pos (starEach es X.env)).any (·.1) = false := by rfl) : ME X W R P (.Call (.Name x p) (e :: es) [] pos) (dCall sig fn ms) := by
  intro G H F σ env L Q I q
  refine w_of (pe_callS FO hr hg hm hk hb (fun σ => passAt tk σ) ha hdb he hpl) ?_
  refine run_args hs I ?_
  unfold dCall at q
  cases em : mArgs ms env with
  | err => rw [em] at q; exact q
  | raise c env' => rw [em] at q; exact q
  | ok rvs env' =>
    rw [em] at q
    intro vs H' F' L' Lr I' s nw hh nd fr
    exact call_ok I' hh nd fr (PostV.later s nw q)

/-! ### two names at once -/
theorem ms_par {i j : Nat} {x y : Str} {a b : Expr} {ma mb : DEnv → ER} {px py pt : Pos} {kt k2 pt2} (hc : X.calm = true) (hN : X.N.Nodup) (hij : i ≠ j) (ha : ME X W R P a ma) (hb : ME X W R P b mb) (hi : X.N[i]? = some x := by rfl) (hj : X.N[j]? = some y := by rfl)
    (hx : X.env.scope.names.lookup x = some .local := by rfl) (hy : X.env.scope.names.lookup y = some .local := by rfl) (hp : PA X [a, b] (tWa X [a, b]) := by exact pa_cons pe_w (pa_cons pe_w pa_nil))
    (hw : swappedStores [.Tuple [.Name x px, .Name y py] kt pt] (.Tuple [a, b] k2 pt2) X.env = pure (some [x, y]) := by rfl)
    (hs : swapsWithSole [.Tuple [.Name x px, .Name y py] kt pt] (.Tuple [a, b] k2 pt2) pos.line X.env = pure false := by rfl) :
    MS X W R P (.Assign [.Tuple [.Name x px, .Name y py] kt pt] (.Tuple [a, b] k2 pt2) pos) (dPar i j ma mb) := by
  intro G H F σ env L D I q
  refine ws_of (ps_par hc hN hi hj hij hx hy hp hw hs) ?_
  refine run_args (.cons ha (.cons hb .nil)) I ?_
  unfold dPar at q
  cases em : mArgs [ma, mb] env with
  | err => rw [em] at q; exact q
  | raise c env' => rw [em] at q; exact fun C H' F' L' g I' s n => q C σ H' F' L' g I' s n
  | ok rvs env' =>
    rw [em] at q
    intro vs H' F' L' Lr I' s nw hh nd fr
    dsimp only [AR.thn] at q
    cases hh with
    | nil => exact q.elim
    | cons h1 t1 => cases t1 with
      | nil => exact q.elim
      | cons h2 t2 => cases t2 with
        | cons => exact q.elim
        | nil =>
          rename_i v1 rv1 La v2 rv2 Lb
          refine ⟨v1, v2, rfl, ?_⟩
          dsimp only at q
          split at q
          · rename_i d d' e1 ef
            obtain ⟨F2, L2, I2, ff, nf, rr, _⟩ := frzVs_ok I' (.cons h1 (.cons h2 .nil)) nd fr ef
            split at q
            · rename_i e2 ep
              split at q
              · rename_i e3 ep2
                obtain ⟨F3, L3, I3, f3, n3⟩ := putV_ok I2 (rv := .fz d) (Lr := []) ⟨rfl, rr.2 0 _ _ rfl rfl⟩ I2.disj (fun a z => nomatch z) ep
                obtain ⟨F4, L4, I4, f4, n4⟩ := putV_ok I3 (rv := .fz d') (Lr := []) ⟨rfl, (rr.2 1 _ _ rfl rfl).mono f3⟩ I3.disj (fun a z => nomatch z) ep2
                exact q _ _ F4 L4 I4 (s.trans (ff.trans (f3.trans f4))) (nw.trans (nf.trans (n3.trans n4)))
              · exact q.elim
            · exact q.elim
          · exact q.elim

/-! ### raise -/
structure ErrC (K : PySem.W.Frag) (mg : Str → Option Value) (c : Str) (C : Addr) : Prop where
  g : mg c = some (.ref C)
  x : PySem.W.excIn K C [.type "ValueError", .type "Exception", .type "BaseException", .type "object"] "ValueError.__new__" = true
  k : PySem.W.keepIn K (.ref C) = true
  b : PySem.W.subIn K (.ref C) (.type "BaseException") = some true
  t : PySem.W.typeIn K (.ref C) = some (.type "type")
theorem ms_raise {x m : Str} {C : Addr} {j : Nat} {p p2 pos2 : Pos} (hc : X.calm = true) (tk : Takes X W) (E : ErrC X.K X.mg x C) (hg : Gl X x := by rfl) (hd : (x == ("__debug__" : Str)) = false := by decide) :
    MS X W R P (.Raise (some (.Call (.Name x p) [.Constant (.str m) j p2] [] pos)) none pos2) (fun env => .raise x env) := by
  intro G H F σ env L D I q
  refine ws_of (ps_raise hc tk (pmk_own PySem.F.excBase_ValueError E.x E.g E.k (raises_own E.b E.t) hg hd)) ?_
  exact q C σ H F L E.g I (Same.refl F) NewF.refl
end
end DX

namespace DX
open PySem PySem.Spec L2
open PyProof.Rows hiding St

section
variable {X : Cx} {W : WX} {R : Hp} {P : List (Option V)} {pos : Pos} {G H F : Hp} {σ : St} {env : DEnv} {L : List Addr}
/-- what is owned is changed -/
theorem FI.mutate {i : Nat} {m : Mode} {d : D} (I : FI X.K R P G H F σ env L) (hm : m = .ow ∨ m = .io) (e : env[i]? = some (.v m d)) (hf : rdFl d = some d := by rfl) : ∃ a, σ[i]? = some (some (.ref a)) ∧ RepO X.K H F (.ref a) d [a] ∧
    ∀ o' d', RepO X.K (upd H a o') F (.ref a) d' [a] → ∃ L', FI X.K R P G (upd H a o') F σ (env.set i (.v m d')) L' := by
  obtain ⟨u, La, L', e1, ro, ndA, mem, put⟩ := I.er.focus I.nd hm e
  have one : ∃ a, u = .ref a ∧ La = [a] := by cases ro <;> first | exact ⟨_, rfl, rfl⟩ | cases hf
  obtain ⟨a, rfl, rfl⟩ := one
  have inL : a ∈ L := (mem a).mpr (.inl (by simp))
  refine ⟨a, e1, ro, fun o' d' r' => ?_⟩
  have na : a ∉ L' := fun z => (List.nodup_append.mp ndA).2.2 a (by simp) a z rfl
  obtain ⟨_, _, pz⟩ := put (upd H a o') F (Same.refl F) fun b hb => upd_ne fun z => na (z ▸ hb)
  obtain ⟨L'', k1, k2, k3⟩ := pz d' [a] r'
  have keep : ∀ {G : Hp}, Same G H → G a = none → Same G (upd H a o') := fun gh n b x q => by rw [upd_ne (ne_of_none q n)]; exact gh _ _ q
  refine ⟨L'', keep I.fh (I.fr a inL).1, keep I.gh (I.fr a inL).2, I.rg, k1, k3 ndA, fun b hb => ?_⟩
  rcases (k2 b).mp hb with z | z
  · obtain rfl := List.mem_singleton.mp z; exact I.fr _ inL
  · exact I.fr b ((mem b).mpr (.inr z))
/-- a list's method that changes it: from its items and the arguments (laid down) the value and the items behind -/
def dMutL (i : Nat) (g : List D → List D → Option (D × List D)) (ms : List (DEnv → ER)) : DEnv → ER := fun env => match env[i]? with
  | some (.v _ (.lst _)) => (mArgs ms env).bind fun rvs e1 => match frzVs e1 rvs with
    | some (ds, e2) => match e2[i]? with
      | some (.v .ow (.lst xs)) => match g xs ds with
        | some (r, ys) => .ok (.fz r) (e2.set i (.v .ow (.lst ys)))
        | none => .err
      | some (.v .io (.lst xs)) => match g xs ds with
        | some (r, ys) => .ok (.fz r) (e2.set i (.v .io (.lst ys)))
        | none => .err
      | _ => .err
    | none => .err
  | _ => .err
/-- what a rule of a list's method must allow -/
def LMut (K : PySem.W.Frag) (r : V → List V → Hp → VK → Prop) (g : List D → List D → Option (D × List D)) : Prop :=
  ∀ (a : Addr) (xs : List V) (vs : List V) (ds as : List D) (rd : D) (ys : List D) (F H : Hp) (Q : VK), Same F H → H a = some (.lst xs) → Reps K F xs ds → Reps K F vs as → g ds as = some (rd, ys) → (∀ v zs, Rep K F v rd → Reps K F zs ys → Q v (upd H a (.lst zs))) → r (.ref a) vs H Q
theorem mutL_core {i : Nat} {g : List D → List D → Option (D × List D)} {r : V → List V → Hp → VK → Prop} {es : List Expr} {ms : List (DEnv → ER)} {Q : VK} (hr : LMut X.K r g) (hs : MEs X W R P es ms) (I : FI X.K R P G H F σ env L) (q : PostV X W R P G F σ (dMutL i g ms env) Q) :
    ∃ v, σ[i]? = some (some v) ∧ tyV X.K "list" v H ∧ tWa X es σ H fun vs H2 => r v vs H2 Q := by
  unfold dMutL at q
  split at q
  · rename_i m xs0 e0
    obtain ⟨u, e1, r1⟩ := I.er.get (I.rg.trans I.gh) I.fh e0
    have ty : tyV X.K "list" u H := by cases r1 _ rfl with | lst h hi => exact .inl ⟨rfl, _, .inl h⟩
    refine ⟨u, e1, ty, run_args hs I ?_⟩
    cases em : mArgs ms env with
    | err => rw [em] at q; exact q
    | raise c env' => rw [em] at q; exact q
    | ok rvs env1 =>
      rw [em] at q
      intro vs H' F' L' Lr I' s n hh nd fr
      dsimp only [AR.bind] at q
      cases ef : frzVs env1 rvs with
      | none => rw [ef] at q; exact q.elim
      | some p =>
        obtain ⟨ds, env2⟩ := p
        rw [ef] at q
        dsimp only at q
        obtain ⟨F2, L2, I2, ff, nf, rr, _⟩ := frzVs_ok I' hh nd fr ef
        have fin : ∀ {m : Mode} {xs : List D}, (m = .ow ∨ m = .io) → env2[i]? = some (.v m (.lst xs)) → PostV X W R P G F σ (match g xs ds with | some (r, ys) => .ok (.fz r) (env2.set i (.v m (.lst ys))) | none => .err) Q → r u vs H' Q := by
          intro m xs hm e2 q
          cases eg : g xs ds with
          | none => rw [eg] at q; exact q.elim
          | some p =>
            obtain ⟨rd, ys⟩ := p
            rw [eg] at q
            obtain ⟨a, ea, ro, put⟩ := I2.mutate hm e2
            rw [e1] at ea
            cases ea
            cases ro with
            | lst h hi =>
              refine hr a _ vs xs ds rd ys F2 H' Q I2.fh h hi rr eg fun v zs rv rz => ?_
              obtain ⟨L3, I3⟩ := put (.lst zs) (.lst ys) (.lst upd_same rz)
              exact POk.now (PostV.later (r := .ok (.fz rd) _) (s.trans ff) (n.trans nf) q) I3 rv
        split at q
        · rename_i xs e2; exact fin (.inl rfl) e2 q
        · rename_i xs e2; exact fin (.inr rfl) e2 q
        · exact q.elim
  · exact q.elim
theorem me_mutL {i : Nat} {x : Str} {id : String} {name : Str} {g : List D → List D → Option (D × List D)} {r : V → List V → Hp → VK → Prop} {e : Expr} {es : List Expr} {ms : List (DEnv → ER)} {xp apos cpos : Pos} (slot : PySem.Slot "list" name id) (hty : typeOf (.builtin id) = pure (.type "method_descriptor")) (hm : MtR X id r) (hr : LMut X.K r g)
    (hs : MEs X W R P (e :: es) ms) (ha : PA X (e :: es) (tWa X (e :: es))) (hN : X.N[i]? = some x := by rfl) (hv : Vis X.env.scope x := by first | exact Or.inl rfl | exact Or.inr (Or.inl rfl) | exact Or.inr (Or.inr rfl))
    (hd : (x == ("__debug__" : Str)) = false := by decide) (hcd : (x == ("__classdict__" : Str)) = false := by decide)
    (hbase : attributeBase (.Name x xp) name X.env (eval (.Name x xp) X.env) = eval (.Name x xp) X.env := by rfl)
    (hfew : ((backTo cpos (starEach (e :: es) X.env)).all (fun x => !x.1) && (backToKw cpos (keywordEach [] X.env)).all (fun x => x.1.isSome)
      && decide ((e :: es).length + ([] : List Keyword).length + (if ([] : List Keyword).isEmpty then 0 else 1) < 30)) = true := by rfl)
    (hline : (apos.endLine == cpos.line) = true := by rfl) (hst : starEach (e :: es) X.env = (false, eval e X.env) :: starEach es X.env := by rfl) (hplain : (backTo cpos (starEach es X.env)).any (·.1) = false := by rfl) :
    ME X W R P (.Call (.Attribute (.Name x xp) name apos) (e :: es) [] cpos) (dMutL i g ms) := by
  intro G H F σ env L Q I q
  refine w_of (pe_bm PySem.F.plainAttrs_list slot hty hm (pe_var hN hv hd hcd) ha hbase hfew hline hst hplain) ?_
  obtain ⟨v, e1, ty, t⟩ := mutL_core hr hs I q
  exact ⟨v, e1, ty, t⟩
theorem me_mutL0 {i : Nat} {x : Str} {id : String} {name : Str} {g : List D → List D → Option (D × List D)} {r : V → List V → Hp → VK → Prop} {xp apos cpos : Pos} (slot : PySem.Slot "list" name id) (hty : typeOf (.builtin id) = pure (.type "method_descriptor")) (hm : MtR X id r) (hr : LMut X.K r g)
    (hN : X.N[i]? = some x := by rfl) (hv : Vis X.env.scope x := by first | exact Or.inl rfl | exact Or.inr (Or.inl rfl) | exact Or.inr (Or.inr rfl))
    (hd : (x == ("__debug__" : Str)) = false := by decide) (hcd : (x == ("__classdict__" : Str)) = false := by decide)
    (hbase : attributeBase (.Name x xp) name X.env (eval (.Name x xp) X.env) = eval (.Name x xp) X.env := by rfl) (hline : (apos.endLine == cpos.line) = true := by rfl) :
    ME X W R P (.Call (.Attribute (.Name x xp) name apos) [] [] cpos) (dMutL i g []) := by
  intro G H F σ env L Q I q
  refine w_of (pe_bm0 PySem.F.plainAttrs_list slot hty hm (pe_var hN hv hd hcd) hbase hline) ?_
  obtain ⟨v, e1, ty, t⟩ := mutL_core hr .nil I q
  exact ⟨v, e1, ty, t⟩
def gAppend : List D → List D → Option (D × List D) := fun xs as => match as with
  | [y] => if xs.length < sizeLine then some (.non, xs ++ [y]) else none
  | _ => none
noncomputable def gPopAt : List D → List D → Option (D × List D) := fun xs as => match as with
  | [.int i] => @ite _ (-(2 ^ 63) ≤ i ∧ i < 2 ^ 63) (Classical.propDecidable _) (match seqIndex? i xs.length with
    | some k => (xs[k]?).map fun y => (y, xs.eraseIdx k)
    | none => none) none
  | _ => none
def gPop : List D → List D → Option (D × List D) := fun xs as => match as with
  | [] => (xs[xs.length - 1]?).map fun y => (y, xs.dropLast)
  | _ => none
def gClear : List D → List D → Option (D × List D) := fun _ as => match as with
  | [] => some (.non, [])
  | _ => none
def gReverse : List D → List D → Option (D × List D) := fun xs as => match as with
  | [] => some (.non, xs.reverse)
  | _ => none
theorem Reps.one {K : PySem.W.Frag} {F : Hp} {vs : List V} {d : D} (h : Reps K F vs [d]) : ∃ v, vs = [v] ∧ Rep K F v d := by
  cases vs with
  | nil => have := h.1; simp at this
  | cons v vs => cases vs with
    | nil => exact ⟨v, rfl, h.2 0 v d rfl rfl⟩
    | cons => have := h.1; simp at this
theorem Reps.nilV {K : PySem.W.Frag} {F : Hp} {vs : List V} (h : Reps K F vs []) : vs = [] := by
  cases vs with
  | nil => rfl
  | cons => have := h.1; simp at this
theorem lm_append : LMut X.K rAppend gAppend := fun a xs vs ds as rd ys F H Q fh h hi ha e k => by
  unfold gAppend at e
  split at e
  · split at e
    · rename_i hl
      cases e
      obtain ⟨v, rfl, rv⟩ := ha.one
      exact ⟨a, xs, v, rfl, rfl, h, by rw [hi.1]; exact hl, k _ _ .non (hi.append (.cons rv .nil))⟩
    · cases e
  · cases e
theorem lm_popAt : LMut X.K rPopAt gPopAt := fun a xs vs ds as rd ys F H Q fh h hi ha e k => by
  unfold gPopAt at e
  split at e
  · rename_i i
    split at e
    · rename_i hb
      split at e
      · rename_i k' hk
        cases ek : ds[k']? with
        | none => rw [ek] at e; cases e
        | some y =>
          rw [ek] at e
          cases e
          obtain ⟨v, rfl, rv⟩ := ha.one
          cases rv
          obtain ⟨w, hw, rw'⟩ := hi.get ek
          exact ⟨a, xs, i, k', w, rfl, rfl, h, hb.1, hb.2, by rw [hi.1]; exact hk, hw, k _ _ rw' (hi.eraseIdx _)⟩
      · cases e
    · cases e
  · cases e
theorem lm_pop : LMut X.K rPop gPop := fun a xs vs ds as rd ys F H Q fh h hi ha e k => by
  unfold gPop at e
  split at e
  · cases ek : ds[ds.length - 1]? with
    | none => rw [ek] at e; cases e
    | some y =>
      rw [ek] at e
      cases e
      have hv := ha.nilV
      obtain ⟨w, hw, rw'⟩ := hi.get ek
      exact ⟨a, xs, w, rfl, hv, h, by rw [hi.1]; exact hw, k _ _ rw' hi.dropLast⟩
  · cases e
theorem lm_clear : LMut X.K rClear gClear := fun a xs vs ds as rd ys F H Q fh h hi ha e k => by
  unfold gClear at e
  split at e
  · cases e; exact ⟨a, xs, rfl, ha.nilV, h, k _ _ .non .nil⟩
  · cases e
theorem lm_reverse : LMut X.K rReverse gReverse := fun a xs vs ds as rd ys F H Q fh h hi ha e k => by
  unfold gReverse at e
  split at e
  · cases e; exact ⟨a, xs, rfl, ha.nilV, h, k _ _ .non hi.reverse⟩
  · cases e

/-! ### isinstance of a built-in class -/
inductive Ty where
  | int | bool | str | tuple | list | dict
def Ty.nm : Ty → String
  | .int => "int" | .bool => "bool" | .str => "str" | .tuple => "tuple" | .list => "list" | .dict => "dict"
def isiD : Ty → D → Bool
  | .int, .int _ => true
  | .int, .bl _ => true
  | .bool, .bl _ => true
  | .str, .str _ => true
  | .tuple, .tup _ => true
  | .list, .lst _ => true
  | .dict, .dK _ => true
  | .dict, .dT _ => true
  | _, _ => false
def tyD : D → Option String
  | .non => some "NoneType" | .bl _ => some "bool" | .int _ => some "int" | .str _ => some "str" | .tup _ => some "tuple" | .lst _ => some "list" | .dK _ => some "dict" | _ => none
theorem tyD_x {K : PySem.W.Frag} {H F : Hp} {v : V} {d : D} {n : String} (h : RepH K H F v d) (e : tyD d = some n) : TyX K H v (.type n) := by
  cases h with
  | non => cases e; exact .base .non
  | bl => cases e; exact .base (.bl _)
  | int => cases e; exact .base (.int _)
  | str => cases e; exact .base (.str _)
  | tup h hk hi =>
    cases e
    rcases h with (h | ⟨o, h⟩) | ⟨o, its, m, h1, h2, _⟩
    · exact .base (.tup h)
    · exact .fTuple h
    · exact .kTuple h1 h2
  | lst h hi =>
    cases e
    rcases h with h | ⟨o, h⟩
    · exact .base (.lst h)
    · exact .base (.frz h)
  | dK h hi =>
    cases e
    rcases h with h | ⟨o, h⟩
    · exact .base (.dK h)
    · exact .fDict h
  | _ => cases e
theorem isi_kit {d : D} {n : String} (T : Ty) (e : tyD d = some n) : kitB n T.nm = some (isiD T d) := by
  cases T <;> cases d <;> cases e <;> first | (show kitB _ _ = some true; decide +kernel) | (show kitB _ _ = some false; decide +kernel)
def gIsi (T : Ty) : List D → Option Val
  | [d] => match tyD d with
    | some _ => some (.fz (.bl (isiD T d)))
    | none => none
  | _ => none
theorem me_isi {e : Expr} {m : DEnv → ER} {p p2 : Pos} {t : Str} (T : Ty) (ht : t = (T.nm : Str)) (hi : X.mg "isinstance" = none) (hmT : X.mg t = none) (h : ME X W R P e m) (hg : Gl X "isinstance" := by rfl) (hgT : Gl X t := by rfl) (hb : bootBuiltins t = some (.type T.nm) := by decide +kernel)
    (hn : t ≠ "__name__" := by decide) (hd : (t == ("__debug__" : Str)) = false := by decide) (hs1 : starEach [e, .Name t p2] X.env = (false, eval e X.env) :: starEach [.Name t p2] X.env := by rfl) (hs2 : starEach [Expr.Name t p2] X.env = (false, eval (.Name t p2) X.env) :: starEach [] X.env := by rfl)
    (hpl : (backTo pos (starEach [.Name t p2] X.env)).any (·.1) = false := by rfl) : ME X W R P (.Call (.Name "isinstance" p) [e, .Name t p2] [] pos) (dPrim (gIsi T) [m]) := by
  intro G H F σ env L Q I q
  refine w_of (pe_callB call_isi hg hi PyProof.Rows.boot_isinstance (pa_cons pe_w (pa_cons (pe_bltn (v := .ty T.nm) hgT hmT hb rfl hn hd) pa_nil hs2) hs1) (by decide) (by decide) hs1 hpl) ?_
  refine tW_mono (Q := fun x H1 => ∃ F' ds rv, _) (run_prim (.cons h .nil) I q) fun x H1 ⟨F', ds, rv, fh, hh, e, k⟩ => ?_
  obtain ⟨d, rfl, hx⟩ := rd1 hh
  unfold gIsi at e
  dsimp only at e
  split at e
  · rename_i n et
    cases e
    exact ⟨x, .ty T.nm, .type n, .type T.nm, isiD T d, rfl, .ty _, tyD_x hx et, kit_ty (isi_kit T et), k.atom (X := X) fh (.bl _)⟩
  · cases e
end
end DX

namespace DX
open PySem PySem.Spec L2
open PyProof.Rows hiding St

/-! ### the clause's name holds the error -/
def setP : List (Option V) → Nat → V → List (Option V)
  | P, 0, v => some v :: P.tail
  | P, i + 1, v => P.headD none :: setP P.tail i v
section
variable {K : PySem.W.Frag} {R G H F : Hp}
theorem setP_head {P : List (Option V)} {x v : V} {i : Nat} (h : P.head? = some (some x)) : (setP P (i + 1) v).head? = some (some x) := by
  cases P with
  | nil => simp at h
  | cons p P => simpa [setP] using h
theorem EnvR.repin : ∀ {i : Nat} {P : List (Option V)} {σ : St} {env : DEnv} {L : List Addr} {v : V}, EnvR K R H F P σ env L → i < env.length → L.Nodup → ∃ L', EnvR K R H F (setP P i v) (σ.set i (some v)) (env.set i .pin) L' ∧ (∀ a ∈ L', a ∈ L) ∧ L'.Nodup
  | 0, P, _, _, _, v, h, hi, nd => by
    have hd : (setP P 0 v).head? = some (some v) := rfl
    cases h with
    | nil => simp at hi
    | un t => exact ⟨_, .pin hd t, fun a q => q, nd⟩
    | pin p t => exact ⟨_, .pin hd t, fun a q => q, nd⟩
    | fz r t => exact ⟨_, .pin hd t, fun a q => q, nd⟩
    | rd r t => exact ⟨_, .pin hd t, fun a q => q, nd⟩
    | ow r t => exact ⟨_, .pin hd t, fun a q => List.mem_append_right _ q, (List.nodup_append.mp nd).2.1⟩
    | io p r t => exact ⟨_, .pin hd t, fun a q => List.mem_append_right _ q, (List.nodup_append.mp nd).2.1⟩
  | i + 1, P, _, _, _, v, h, hi, nd => by
    cases h with
    | nil => simp at hi
    | @un _ o _ _ _ t =>
      obtain ⟨L', e, m, n⟩ := EnvR.repin (i := i) (v := v) t (by simpa using hi) nd
      exact ⟨L', .un (o := o) e, m, n⟩
    | pin p t =>
      obtain ⟨L', e, m, n⟩ := EnvR.repin (i := i) (v := v) t (by simpa using hi) nd
      exact ⟨L', .pin (setP_head p) e, m, n⟩
    | fz r t =>
      obtain ⟨L', e, m, n⟩ := EnvR.repin (i := i) (v := v) t (by simpa using hi) nd
      exact ⟨L', .fz r e, m, n⟩
    | rd r t =>
      obtain ⟨L', e, m, n⟩ := EnvR.repin (i := i) (v := v) t (by simpa using hi) nd
      exact ⟨L', .rd r e, m, n⟩
    | @ow _ _ _ _ _ L1 L2 r t =>
      obtain ⟨n1, n2, n3⟩ := List.nodup_append.mp nd
      obtain ⟨L', e, m, n⟩ := EnvR.repin (i := i) (v := v) t (by simpa using hi) n2
      exact ⟨L1 ++ L', .ow r e, fun a q => (List.mem_append.mp q).elim (List.mem_append_left _) fun z => List.mem_append_right _ (m a z), List.nodup_append.mpr ⟨n1, n, fun a ha b hb => n3 a ha b (m b hb)⟩⟩
    | @io _ _ _ _ _ L1 L2 p r t =>
      obtain ⟨n1, n2, n3⟩ := List.nodup_append.mp nd
      obtain ⟨L', e, m, n⟩ := EnvR.repin (i := i) (v := v) t (by simpa using hi) n2
      exact ⟨L1 ++ L', .io (setP_head p) r e, fun a q => (List.mem_append.mp q).elim (List.mem_append_left _) fun z => List.mem_append_right _ (m a z), List.nodup_append.mpr ⟨n1, n, fun a ha b hb => n3 a ha b (m b hb)⟩⟩
/-- the name gone again. The pinned places but i stand as in P, where P has them -/
theorem EnvR.unpin : ∀ {i : Nat} {P : List (Option V)} {σ : St} {env : DEnv} {L : List Addr} {v : V} {o : Option V}, EnvR K R H F (setP P i v) σ env L → L.Nodup → ∃ L', EnvR K R H F P (σ.set i o) (env.set i .un) L' ∧ (∀ a ∈ L', a ∈ L) ∧ L'.Nodup
  | 0, P, _, _, _, v, o, h, nd => by
    cases h with
    | nil => exact ⟨[], .nil, fun a q => q, nd⟩
    | un t => exact ⟨_, .un t, fun a q => q, nd⟩
    | pin p t => exact ⟨_, .un t, fun a q => q, nd⟩
    | fz r t => exact ⟨_, .un t, fun a q => q, nd⟩
    | rd r t => exact ⟨_, .un t, fun a q => q, nd⟩
    | ow r t => exact ⟨_, .un t, fun a q => List.mem_append_right _ q, (List.nodup_append.mp nd).2.1⟩
    | io p r t => exact ⟨_, .un t, fun a q => List.mem_append_right _ q, (List.nodup_append.mp nd).2.1⟩
  | i + 1, P, _, _, _, v, o, h, nd => by
    have back : ∀ {x : V}, (setP P (i + 1) v).head? = some (some x) → P.head? = some (some x) := fun {x} q => by
      cases P with
      | nil => simp [setP] at q
      | cons p P => simpa [setP] using q
    cases h with
    | nil => exact ⟨[], .nil, fun a q => q, nd⟩
    | @un _ o' _ _ _ t =>
      obtain ⟨L', e, m, n⟩ := EnvR.unpin (i := i) (v := v) (o := o) t nd
      exact ⟨L', .un (o := o') e, m, n⟩
    | pin p t =>
      obtain ⟨L', e, m, n⟩ := EnvR.unpin (i := i) (v := v) (o := o) t nd
      exact ⟨L', .pin (back p) e, m, n⟩
    | fz r t =>
      obtain ⟨L', e, m, n⟩ := EnvR.unpin (i := i) (v := v) (o := o) t nd
      exact ⟨L', .fz r e, m, n⟩
    | rd r t =>
      obtain ⟨L', e, m, n⟩ := EnvR.unpin (i := i) (v := v) (o := o) t nd
      exact ⟨L', .rd r e, m, n⟩
    | @ow _ _ _ _ _ L1 L2 r t =>
      obtain ⟨n1, n2, n3⟩ := List.nodup_append.mp nd
      obtain ⟨L', e, m, n⟩ := EnvR.unpin (i := i) (v := v) (o := o) t n2
      exact ⟨L1 ++ L', .ow r e, fun a q => (List.mem_append.mp q).elim (List.mem_append_left _) fun z => List.mem_append_right _ (m a z), List.nodup_append.mpr ⟨n1, n, fun a ha b hb => n3 a ha b (m b hb)⟩⟩
    | @io _ _ _ _ _ L1 L2 p r t =>
      obtain ⟨n1, n2, n3⟩ := List.nodup_append.mp nd
      obtain ⟨L', e, m, n⟩ := EnvR.unpin (i := i) (v := v) (o := o) t n2
      exact ⟨L1 ++ L', .io (back p) r e, fun a q => (List.mem_append.mp q).elim (List.mem_append_left _) fun z => List.mem_append_right _ (m a z), List.nodup_append.mpr ⟨n1, n, fun a ha b hb => n3 a ha b (m b hb)⟩⟩
theorem EnvR.pinAt : ∀ {i : Nat} {P : List (Option V)} {σ : St} {env : DEnv} {L : List Addr} {v : V}, EnvR K R H F (setP P i v) σ env L → env[i]? = some .pin → σ[i]? = some (some v)
  | 0, P, _, _, _, v, h, e => by
    cases h with
    | pin p t =>
      have p' : (setP P 0 v).head? = some (some v) := rfl
      rw [p'] at p; cases p; rfl
    | _ => simp at e
  | i + 1, P, _, _, _, v, h, e => by
    cases h with
    | nil => simp at e
    | un t => exact EnvR.pinAt (i := i) t (by simpa using e)
    | pin p t => exact EnvR.pinAt (i := i) t (by simpa using e)
    | fz r t => exact EnvR.pinAt (i := i) t (by simpa using e)
    | rd r t => exact EnvR.pinAt (i := i) t (by simpa using e)
    | ow r t => exact EnvR.pinAt (i := i) t (by simpa using e)
    | io p r t => exact EnvR.pinAt (i := i) t (by simpa using e)
end

/-! ### try .. except C as e -/
def dTry (i : Nat) (cs : List Str) (catch_ : Str → Bool) (body : DEnv → FR) (suite : Str → DEnv → FR) : DEnv → FR := fun env => match body env with
  | .raise c e1 => if cs.contains c then
      if catch_ c then (if i < e1.length then match suite c (e1.set i .pin) with
        | .next e => .next (e.set i .un)
        | .ret v e => .ret v (e.set i .un)
        | .brk e => .brk (e.set i .un)
        | .cnt e => .cnt (e.set i .un)
        | .raise _ _ => .err
        | .err => .err
      else .err) else .raise c e1
    else .err
  | .next e => .next e
  | .ret v e => .ret v e
  | .brk e => .brk e
  | .cnt e => .cnt e
  | .err => .err
/-- nothing is raised -/
abbrev W0 : WX := fun _ _ _ _ => False
section
variable {X : Cx} {W : WX} {R : Hp} {P : List (Option V)} {pos : Pos} {G H F : Hp} {σ : St} {env : DEnv} {L : List Addr}
theorem FI.unpin {i : Nat} {v : V} {o : Option V} (I : FI X.K R (setP P i v) G H F σ env L) : ∃ L', FI X.K R P G H F (σ.set i o) (env.set i .un) L' ∧ (∀ a ∈ L', a ∈ L) :=
  let ⟨L', e, m, n⟩ := I.er.unpin I.nd; ⟨L', ⟨I.fh, I.gh, I.rg, e, n, fun a ha => I.fr a (m a ha)⟩, m⟩
theorem ms_try_as {x n : Str} {C : Addr} {i : Nat} {body suite : List Stmt} {b₀ : Stmt} {np pos' : Pos} {cs : List Str} {catch_ : Str → Bool} {mb : DEnv → FR} {msu : Str → DEnv → FR} (hst : X.stack = X.env :: X.outer) (hf : X.env.frame = some X.env.locals) (hN : X.N.Nodup) (tk : Takes X W)
    (hx : ∀ c ∈ cs, ∀ D, X.mg c = some (.ref D) → PySem.W.exmOne X.K (.ref D) (.ref C) = some (catch_ c)) (hc : Names X x (.ref C))
    (hb : ∀ (W : WX) (pn : List (Addr × Obj)) (xe : Value → Shared → Prop), Takes (X.tr pn xe) W → PassesOwn (model X.prog X.w) X.A X.env xe → MSs (X.tr pn xe) W R P body mb)
    (hsu : ∀ (c : Str) (D a : Addr) (oe : Obj) (pn : List (Addr × Obj)), c ∈ cs → X.mg c = some (.ref D) → Zc (.ref D) none oe → (∃ vs, oe.data = .fields vs) → MSs (X.suite a ((a, oe) :: pn)) W0 R (setP P i (.ref a)) (b₀ :: suite) (msu c))
    (hi : X.N[i]? = some n := by rfl) (hln : X.env.kindOf n = some .local := by rfl) : MS X W R P (.Try body [.ExceptHandler (some (.Name x np)) (some n) (b₀ :: suite) pos'] [] [] pos) (dTry i cs catch_ mb msu) := by
  intro G H F σ env L D I q
  refine ws_of (ps_try_as (tb := fun W D σ H => ∀ (pn : List (Addr × Obj)) (xe : Value → Shared → Prop), Takes (X.tr pn xe) W → PassesOwn (model X.prog X.w) X.A X.env xe → tWss (X.tr pn xe) body D σ H)
    (ts := fun a cls d D σ H => ∀ (oe : Obj) (pn : List (Addr × Obj)), Zc cls d oe → (∃ vs, oe.data = .fields vs) → tWss (X.suite a ((a, oe) :: pn)) (b₀ :: suite) D σ H)
    hst hf hN hi hln hc tk (fun W pn xe tk po => ⟨fun pins s σ H D I h => h pn xe tk po pins s I⟩) (fun a oe cls d pn hz hf => ⟨fun pins s σ H D I h => h oe pn hz hf pins s I⟩)) ?_
  show ∀ pn xe, _
  intro pn xe tk' po
  refine hb _ pn xe tk' po G H F σ env L D I ?_
  unfold dTry at q
  cases e : mb env with
  | next e1 => rw [e] at q; exact q
  | ret v e1 => rw [e] at q; exact q
  | brk e1 => rw [e] at q; exact q
  | cnt e1 => rw [e] at q; exact q
  | err => rw [e] at q; exact q
  | raise c e1 =>
    rw [e] at q
    dsimp only at q
    intro C' σ' H' F' L' g I' s nw
    split at q
    · rename_i hcs
      have hcs' : c ∈ cs := by simpa using hcs
      refine ⟨catch_ c, hx c hcs' C' g, fun hb' a ha => ?_, fun hb' => ?_⟩
      · rw [if_pos hb'] at q
        split at q
        · rename_i hlt
          intro oe pn' hz hfl
          obtain ⟨L2, e2, m2, n2⟩ := I'.er.repin (i := i) (v := .ref a) hlt I'.nd
          have I2 : FI X.K R (setP P i (.ref a)) G H' F' (σ'.set i (some (.ref a))) (e1.set i .pin) L2 := ⟨I'.fh, I'.gh, I'.rg, e2, n2, fun b hb => I'.fr b (m2 b hb)⟩
          refine hsu c C' a oe pn' hcs' g hz hfl G H' F' _ _ L2 _ I2 ?_
          cases es : msu c (e1.set i .pin) with
          | next e3 => rw [es] at q; exact fun σ3 H3 F3 L3 I3 s3 n3 => let ⟨L4, I4, _⟩ := I3.unpin (o := none); q _ H3 F3 L4 I4 (s.trans s3) (nw.trans n3)
          | brk e3 => rw [es] at q; exact fun σ3 H3 F3 L3 I3 s3 n3 => let ⟨L4, I4, _⟩ := I3.unpin (o := none); q _ H3 F3 L4 I4 (s.trans s3) (nw.trans n3)
          | cnt e3 => rw [es] at q; exact fun σ3 H3 F3 L3 I3 s3 n3 => let ⟨L4, I4, _⟩ := I3.unpin (o := none); q _ H3 F3 L4 I4 (s.trans s3) (nw.trans n3)
          | ret v e3 =>
            rw [es] at q
            intro v3 σ3 H3 F3 L3 Lr I3 s3 n3 r3 nd3 fr3
            have hlen : ∀ {l : List Addr}, True := fun {l} => trivial
            cases v with
            | fz d =>
              obtain ⟨L4, I4, m4⟩ := I3.unpin (o := none)
              exact q v3 _ H3 F3 L4 Lr I4 (s.trans s3) (nw.trans n3) r3 (List.nodup_append.mpr ⟨(List.nodup_append.mp nd3).1, I4.nd, fun a ha b hb => (List.nodup_append.mp nd3).2.2 a ha b (m4 b hb)⟩) fr3
            | tmp d =>
              obtain ⟨L4, I4, m4⟩ := I3.unpin (o := none)
              exact q v3 _ H3 F3 L4 Lr I4 (s.trans s3) (nw.trans n3) r3 (List.nodup_append.mpr ⟨(List.nodup_append.mp nd3).1, I4.nd, fun a ha b hb => (List.nodup_append.mp nd3).2.2 a ha b (m4 b hb)⟩) fr3
            | br j =>
              by_cases hj : i = j
              · subst hj
                obtain ⟨L4, I4, m4⟩ := I3.unpin (o := some v3)
                refine q v3 _ H3 F3 L4 Lr I4 (s.trans s3) (nw.trans n3) ⟨r3.1, ?_⟩ (List.nodup_append.mpr ⟨(List.nodup_append.mp nd3).1, I4.nd, fun a ha b hb => (List.nodup_append.mp nd3).2.2 a ha b (m4 b hb)⟩) fr3
                rw [List.getElem?_set_self (getElem?_lt r3.2)]
              · obtain ⟨L4, I4, m4⟩ := I3.unpin (o := none)
                refine q v3 _ H3 F3 L4 Lr I4 (s.trans s3) (nw.trans n3) ⟨r3.1, ?_⟩ (List.nodup_append.mpr ⟨(List.nodup_append.mp nd3).1, I4.nd, fun a ha b hb => (List.nodup_append.mp nd3).2.2 a ha b (m4 b hb)⟩) fr3
                rw [List.getElem?_set_ne hj]; exact r3.2
          | raise x e3 => rw [es] at q; exact q.elim
          | err => rw [es] at q; exact q.elim
        · exact q.elim
      · have hb2 : ¬ catch_ c = true := by rw [hb']; exact Bool.false_ne_true
        rw [if_neg hb2] at q
        exact q C' σ' H' F' L' g I' s nw
    · exact q.elim
/-- the clause without a name -/
theorem ms_try_only {x : Str} {C : Addr} {body suite : List Stmt} {b₀ : Stmt} {np pos' : Pos} {cs : List Str} {catch_ : Str → Bool} {mb msu : DEnv → FR} (hst : X.stack = X.env :: X.outer) (hf : X.env.frame = some X.env.locals) (tk : Takes X W)
    (hx : ∀ c ∈ cs, ∀ D, X.mg c = some (.ref D) → PySem.W.exmOne X.K (.ref D) (.ref C) = some (catch_ c)) (hc : Names X x (.ref C))
    (hb : ∀ (W : WX) (pn : List (Addr × Obj)) (xe : Value → Shared → Prop), Takes (X.tr pn xe) W → PassesOwn (model X.prog X.w) X.A X.env xe → MSs (X.tr pn xe) W R P body mb)
    (hsu : ∀ (a : Addr) (oe : Obj) (pn : List (Addr × Obj)), MSs (X.suite a ((a, oe) :: pn)) W0 R P (b₀ :: suite) msu) :
    MS X W R P (.Try body [.ExceptHandler (some (.Name x np)) none (b₀ :: suite) pos'] [] [] pos) (fun env => match mb env with
      | .raise c e1 => if cs.contains c then (if catch_ c then match msu e1 with
          | .raise _ _ => .err
          | r => r
        else .raise c e1) else .err
      | r => r) := by
  intro G H F σ env L D I q
  refine ws_of (ps_try_only (tb := fun W D σ H => ∀ (pn : List (Addr × Obj)) (xe : Value → Shared → Prop), Takes (X.tr pn xe) W → PassesOwn (model X.prog X.w) X.A X.env xe → tWss (X.tr pn xe) body D σ H)
    (ts := fun a cls d D σ H => ∀ (oe : Obj) (pn : List (Addr × Obj)), Zc cls d oe → (∃ vs, oe.data = .fields vs) → tWss (X.suite a ((a, oe) :: pn)) (b₀ :: suite) D σ H)
    hst hf hc tk (fun W pn xe tk po => ⟨fun pins s σ H D I h => h pn xe tk po pins s I⟩) (fun a oe cls d pn hz hf => ⟨fun pins s σ H D I h => h oe pn hz hf pins s I⟩)) ?_
  show ∀ pn xe, _
  intro pn xe tk' po
  refine hb _ pn xe tk' po G H F σ env L D I ?_
  dsimp only at q
  cases e : mb env with
  | next e1 => rw [e] at q; exact q
  | ret v e1 => rw [e] at q; exact q
  | brk e1 => rw [e] at q; exact q
  | cnt e1 => rw [e] at q; exact q
  | err => rw [e] at q; exact q
  | raise c e1 =>
    rw [e] at q
    dsimp only at q
    intro C' σ' H' F' L' g I' s nw
    split at q
    · rename_i hcs
      have hcs' : c ∈ cs := by simpa using hcs
      refine ⟨catch_ c, hx c hcs' C' g, fun hb' a ha => ?_, fun hb' => ?_⟩
      · rw [if_pos hb'] at q
        intro oe pn' hz hfl
        refine hsu a oe pn' G H' F' _ _ L' _ I' ?_
        cases es : msu e1 with
        | raise x e3 => rw [es] at q; exact q.elim
        | err => rw [es] at q; exact q.elim
        | next e3 => rw [es] at q; exact PostS.later (r := .next e3) s nw q
        | brk e3 => rw [es] at q; exact PostS.later (r := .brk e3) s nw q
        | cnt e3 => rw [es] at q; exact PostS.later (r := .cnt e3) s nw q
        | ret v e3 => rw [es] at q; exact PostS.later (r := .ret v e3) s nw q
      · have hb2 : ¬ catch_ c = true := by rw [hb']; exact Bool.false_ne_true
        rw [if_neg hb2] at q
        exact q C' σ' H' F' L' g I' s nw
    · exact q.elim

/-! ### isinstance of the error that is held -/
def dPin (i : Nat) (b : Bool) : DEnv → ER := fun env => match env[i]? with
  | some .pin => .ok (.fz (.bl b)) env
  | _ => .err
def rIsET (K : PySem.W.Frag) (D a : Addr) : List V → Hp → VK → Prop := fun xs H Q => ∃ (tp : Addr) (cs : List V) (us : List Value) (b : Bool), xs = [.ref a, .ref tp] ∧ H tp = some (.tup cs) ∧ Paired ClsV cs us ∧ PySem.W.kitAny K (.ref D) us = some b ∧ Q (.bl b) H
theorem call_isET {a D : Addr} {oe : Obj} {pn : List (Addr × Obj)} (C : ExcC X.K D) (hz : Zc (.ref D) none oe) (hf : ∃ vs, oe.data = .fields vs) : CallR (X.suite a ((a, oe) :: pn)) (.builtin "isinstance") (rIsET X.K D a) := by
  intro pins s σ H xs us Q I r h
  obtain ⟨tp, cs, ws, b, rfl, hT, k, e, q⟩ := h
  obtain ⟨u1, u2, rfl, r1, r2⟩ := vals2 r
  cases r1
  cases (show u2 = Value.ref tp from r2)
  obtain ⟨hget, _⟩ := I.pin (a, oe) (List.mem_append.mpr (.inl List.mem_cons_self))
  obtain ⟨vs, hv⟩ := hf
  have J : PySem.W.InstAt s.heap a oe D none := by
    obtain ⟨oc, od, oda, osl⟩ := oe
    obtain ⟨h1, h2⟩ := hz
    dsimp only at h1 h2 hv
    subst h1 h2 hv
    exact ⟨hget, rfl, rfl, trivial⟩
  obtain ⟨_, its, rv, o, h1, h2, n, h3⟩ := (show ObjOk X.prog X.w H s.heap tp (.tup cs) from I.hok tp _ hT)
  have e3 := ClsV.all k rv
  subst e3
  obtain ⟨oc, od, dt, sl⟩ := o
  simp only at h2 h3
  subst h2 h3
  exact PySem.W.kia_tup (PySem.W.handS_kitx_exc C.hg C.hk C.hs C.hd C.ha C.hn C.ht C.hm) I.kIn J h1 e (fun z => nomatch z) fun tk => ⟨.bl b, H, I.tok tk, rfl, q⟩
theorem pin_read {i : Nat} {b : Bool} {a : Addr} {Q : VK} (I : FI X.K R (setP P i (.ref a)) G H F σ env L) (q : PostV X W R (setP P i (.ref a)) G F σ (dPin i b env) Q) : σ[i]? = some (some (.ref a)) ∧ PostV X W R (setP P i (.ref a)) G F σ (.ok (.fz (.bl b)) env) Q := by
  unfold dPin at q
  split at q
  · rename_i e; exact ⟨I.er.pinAt e, q⟩
  · exact q.elim
theorem me_isE {a D : Addr} {oe : Obj} {pn : List (Addr × Obj)} {i : Nat} {n t : Str} {cv : Value} {c : V} {b : Bool} {p p1 p2 : Pos} (C : ExcC X.K D) (hz : Zc (.ref D) none oe) (hf : ∃ vs, oe.data = .fields vs) (hkit : PySem.W.kitOne X.K (.ref D) cv = some b) (hi : X.mg "isinstance" = none)
    (hc : PE (X.suite a ((a, oe) :: pn)) (.Name t p2) (tC c)) (hcv : ∀ u, RelV c u → u = cv) (hN : X.N[i]? = some n := by rfl) (hg : Gl X "isinstance" := by rfl) (hv : Vis X.env.scope n := by first | exact Or.inl rfl | exact Or.inr (Or.inl rfl))
    (hd : (n == ("__debug__" : Str)) = false := by decide) (hcd : (n == ("__classdict__" : Str)) = false := by decide) (hs1 : starEach [.Name n p1, .Name t p2] X.env = (false, eval (.Name n p1) X.env) :: starEach [.Name t p2] X.env := by rfl) (hs2 : starEach [Expr.Name t p2] X.env = (false, eval (.Name t p2) X.env) :: starEach [] X.env := by rfl)
    (hpl : (backTo pos (starEach [.Name t p2] X.env)).any (·.1) = false := by rfl) : ME (X.suite a ((a, oe) :: pn)) W0 R (setP P i (.ref a)) (.Call (.Name "isinstance" p) [.Name n p1, .Name t p2] [] pos) (dPin i b) := by
  intro G H F σ env L Q I q
  obtain ⟨e1, q1⟩ := pin_read (X := X.suite a ((a, oe) :: pn)) I q
  refine w_of (pe_callB (X := X.suite a ((a, oe) :: pn)) (call_isE C hz hf) hg hi PyProof.Rows.boot_isinstance (pa_cons (pe_var hN hv hd hcd) (pa_cons hc pa_nil hs2) hs1) (by decide) (by decide) hs1 hpl) ?_
  exact ⟨_, e1, c, cv, b, rfl, hcv, hkit, PostV.now (X := X.suite a ((a, oe) :: pn)) I q1 (.bl b)⟩
theorem me_isET {a D : Addr} {oe : Obj} {pn : List (Addr × Obj)} {i : Nat} {n : Str} {us : List Value} {cs : List V} {b : Bool} {es : List Expr} {k : Nat} {p p1 p2 : Pos} (C : ExcC X.K D) (hz : Zc (.ref D) none oe) (hf : ∃ vs, oe.data = .fields vs) (hkit : PySem.W.kitAny X.K (.ref D) us = some b) (hi : X.mg "isinstance" = none)
    {t : TA} (hc : PA (X.suite a ((a, oe) :: pn)) es t) (ht : ∀ σ H (k : List V → Hp → Prop), k cs H → t σ H k) (hcl : Paired ClsV cs us) (hl : cs.length ≤ sizeLine) (hN : X.N[i]? = some n := by rfl) (hg : Gl X "isinstance" := by rfl) (hv : Vis X.env.scope n := by first | exact Or.inl rfl | exact Or.inr (Or.inl rfl))
    (hd : (n == ("__debug__" : Str)) = false := by decide) (hcd : (n == ("__classdict__" : Str)) = false := by decide) (hs1 : starEach [.Name n p1, .Tuple es k p2] X.env = (false, eval (.Name n p1) X.env) :: starEach [.Tuple es k p2] X.env := by rfl) (hs2 : starEach [Expr.Tuple es k p2] X.env = (false, eval (.Tuple es k p2) X.env) :: starEach [] X.env := by rfl)
    (hpl : (backTo pos (starEach [.Tuple es k p2] X.env)).any (·.1) = false := by rfl) : ME (X.suite a ((a, oe) :: pn)) W0 R (setP P i (.ref a)) (.Call (.Name "isinstance" p) [.Name n p1, .Tuple es k p2] [] pos) (dPin i b) := by
  intro G H F σ env L Q I q
  obtain ⟨e1, q1⟩ := pin_read (X := X.suite a ((a, oe) :: pn)) I q
  refine w_of (pe_callB (X := X.suite a ((a, oe) :: pn)) (call_isET C hz hf) hg hi PyProof.Rows.boot_isinstance (pa_cons (pe_var hN hv hd hcd) (pa_cons (pe_tup hc) pa_nil hs2) hs1) (by decide) (by decide) hs1 hpl) ?_
  refine ⟨_, e1, ?_⟩
  show t σ H _
  refine ht σ H _ ⟨hl, fun tp n => ⟨tp, cs, us, b, rfl, upd_same, hcl, hkit, ?_⟩⟩
  have I2 : FI X.K R (setP P i (.ref a)) G (upd H tp (.tup cs)) F σ env L := I.ext (same_upd n) (Same.refl F) (I.fh.trans (same_upd n)) fun _ q => .inl q
  exact PostV.now (X := X.suite a ((a, oe) :: pn)) I2 q1 (.bl b)
end
end DX

namespace DX
open PySem PySem.Spec L2
open PyProof.Rows hiding St

/-- a def of the module keeps f's promise -/
def FnD (P : Program) (w : World) (K : PySem.W.Frag) (mg : Str → Option Value) (base : Heap) (x : Str) (k : Nat) (ps : List Str) (sig : List PM) (fn : List D → FnR) : Prop :=
  ∃ (f : Addr) (fd : FuncData), FnOk P w K mg base (L2.CX P w) k f fd ps (spF K mg sig fn) ∧ mg x = some (.ref f) ∧ PySem.W.keepIn K (.ref f) = true ∧ Binds K fd ps []
/-- nothing is promised -/
theorem fn_err {P : Program} {w : World} {K : PySem.W.Frag} {mg : Str → Option Value} {base : Heap} {k : Nat} {sig : List PM} {f : Addr} {fd : FuncData} {ps : List Str} (hn : ps.length = sig.length) : FnOk P w K mg base (L2.CX P w) k f fd ps (spF K mg sig fun _ => .err) :=
  ⟨fun vs H Q E ⟨_, _, _, _, _, h, _⟩ => h.trans hn.symm, fun A outer s H args us vs Q E hr he hb hv ⟨_, _, _, _, _, _, _, _, h⟩ => h.elim⟩
/-- the classes of errors: is d c or above c -/
def errSub (c d : Str) : Bool := d == "SaidError" || c == d
structure ErrT (K : PySem.W.Frag) (mg : Str → Option Value) (cs ds : List Str) : Prop where
  ex : ∀ c ∈ cs, ∀ D, mg c = some (.ref D) → ExcC K D
  kit : ∀ c ∈ cs, ∀ D, mg c = some (.ref D) → ∀ d ∈ ds, ∀ C, mg d = some (.ref C) → PySem.W.kitOne K (.ref D) (.ref C) = some (errSub c d)
  exm : ∀ c ∈ cs, ∀ D, mg c = some (.ref D) → ∀ d ∈ ds, ∀ C, mg d = some (.ref C) → PySem.W.exmOne K (.ref D) (.ref C) = some (errSub c d)
  val : ∀ c ∈ cs, ∀ D, mg c = some (.ref D) → PySem.W.kitOne K (.ref D) (.type "ValueError") = some true
def errAny (c : Str) : List Str → Bool
  | [] => false
  | d :: r => errSub c d || errAny c r
theorem ErrT.any {K : PySem.W.Frag} {mg : Str → Option Value} {cs ds : List Str} (T : ErrT K mg cs ds) {c : Str} (hc : c ∈ cs) {D : Addr} (hD : mg c = some (.ref D)) : ∀ {es : List Str} {Cs : List Addr}, Paired (fun d C => d ∈ ds ∧ mg d = some (.ref C)) es Cs → PySem.W.kitAny K (.ref D) (Cs.map .ref) = some (errAny c es)
  | _, _, .nil => rfl
  | d :: _, C :: _, .cons ⟨h1, h2⟩ r => by
    simp only [List.map_cons, PySem.W.kitAny, T.kit c hc D hD d h1 C h2, errAny]
    cases errSub c d
    · exact T.any hc hD r
    · rfl
/-- a constant of the module -/
def GConst (K : PySem.W.Frag) (mg : Str → Option Value) (x : Str) (d : D) : Prop := ∃ v u, mg x = some u ∧ RelV v u ∧ ∀ F, Rep K F v d
theorem me_glob {X : Cx} {W : WX} {R : Hp} {P : List (Option V)} {x : Str} {d : D} {pos : Pos} (h : GConst X.K X.mg x d) (hg : Gl X x := by rfl) (hd : (x == ("__debug__" : Str)) = false := by decide) : ME X W R P (.Name x pos) (dC d) := by
  obtain ⟨v, u, hm, r, rep⟩ := h
  exact fun G H F σ env L Q I q => w_of (pe_glob hg hm r hd) (POk.now q I (rep F))
def spLaw (K : PySem.W.Frag) : Sp := fun vs H Q _ => ∃ (a : Addr) (ns : List Int), vs = [.ref a] ∧ SqL K H a (ns.map V.int) ∧ ns.length ≤ 63 ∧ ∀ H', Q (.bl true) H'
theorem law_imp {K : PySem.W.Frag} {mg : Str → Option Value} {fn : List D → FnR} (hf : ∀ ns : List Int, ns.length ≤ 63 → ∃ a, fn [.scr ns] = .ok (.fz (.bl true)) a) (vs : List V) (H : Hp) (Q : VK) (E : XK) (h : spLaw K vs H Q E) : spF K mg [.va] fn vs H Q E := by
  obtain ⟨a, ns, rfl, hS, hl, q⟩ := h
  refine ⟨H, H, H, [.scr ns], [], rfl, rfl, ⟨Same.refl H, Same.refl H, Same.refl H, .fz (.scr hS) .nil, List.nodup_nil, fun a z => nomatch z⟩, ?_⟩
  obtain ⟨ar, e⟩ := hf ns hl
  rw [e]
  intro v H' F' L' Lr I s n r nd fr
  obtain ⟨_, r⟩ := r
  cases r
  exact q H'
theorem law_walk {l : PySem.W.OpenLaw} {k : Nat} {q : Program} {loose : List Str} {XP : (Str → Option Value) → Heap → Prop} {YP : World → Heap → Prop} {d : DefRec} {K : Params → PySem.W.Frag} {x : Str} {fn : List D → FnR}
    (hn : l.most = some 63) (hdf : d.params.defaults = []) (hr : Room k callerA) (hY : ∀ (w : World) (h : Heap), YP w h → (K w.params).In h)
    (hf : ∀ ns : List Int, ns.length ≤ 63 → ∃ a, fn [.scr ns] = .ok (.fz (.bl true)) a)
    (F : ∀ (w : World) (mg : Str → Option Value) (fa : Addr) (h : Heap), (K w.params).In h → h.Ns mainGlobals mg → mg d.name = some (.ref fa) →
      ∃ fd : FuncData, (∀ (s : Shared) (u : Value), BindsTo s fd ⟨[u], []⟩ [(x, u)]) ∧
        ∀ base : Heap, (K w.params).In base → base.Ns mainGlobals mg → FnOk l.prog w (K w.params) mg base (L2.CX l.prog w) k fa fd [x] (spF (K w.params) mg [.va] fn)) :
    PySem.W.WalkO q loose XP YP l.row.toRowW d [] (fun f vs => PySem.call f vs) :=
  L2.walk_of (n := 63) (k := k) (x := x) (CX := fun w => L2.CX l.prog w) (sp := fun w => spLaw (K w.params)) hn (by decide) hdf hr hY
    (fun w mg fa h X G hm => let ⟨fd, hb, hF⟩ := F w mg fa h X G hm; ⟨fd, hb, fun base a b => (hF base a b).imp (law_imp hf)⟩)
    (fun _ _ a ns hl _ hS => ⟨a, ns, rfl, hS, hl, fun _ => rfl⟩) fun _ _ _ _ _ h => by
      obtain ⟨_, _, _, _, _, _, _, _, _, _, _, _, z⟩ := h
      exact z.elim
end DX

namespace DX
open PySem PySem.Spec L2
open PyProof.Rows hiding St

theorem wipe_get (σ : St) (j : Nat) : ∀ vs : List Nat, (wipe σ vs)[j]? = if j ∈ vs then (σ[j]?).map (fun _ => none) else σ[j]?
  | [] => by simp [wipe]
  | v :: vs => by
    unfold wipe
    rw [List.getElem?_set, wipe_length]
    by_cases h : v = j
    · subst h
      by_cases hl : v < σ.length
      · simp [hl]
      · simp [hl]
    · rw [if_neg h, wipe_get σ j vs]
      have : (j = v) = False := by simp [Ne.symm h]
      simp [this]
theorem wipe_put {σ : St} {i : Nat} {o : Option V} {vs : List Nat} (h : i ∈ vs) : wipe (σ.set i o) vs = wipe σ vs := by
  apply List.ext_getElem?
  intro j
  rw [wipe_get, wipe_get, List.getElem?_set]
  by_cases hj : j ∈ vs
  · rw [if_pos hj, if_pos hj]
    by_cases hi : i = j
    · subst hi
      by_cases hl : i < σ.length
      · simp [hl]
      · simp [hl]
    · simp [hi]
  · have : ¬ i = j := fun e => hj (e ▸ h)
    rw [if_neg hj, if_neg hj, if_neg this]
theorem wipe_eq {σ σ' : St} {vs : List Nat} (h : wipe σ' vs = wipe σ vs) {j : Nat} (hj : j ∉ vs) : σ'[j]? = σ[j]? := by
  have := congrArg (·[j]?) h
  simpa [wipe_get, hj] using this
theorem wipe_len {σ σ' : St} {vs : List Nat} (h : wipe σ' vs = wipe σ vs) : σ'.length = σ.length := by
  have := congrArg List.length h
  simpa [wipe_length] using this
theorem wipe_wipe (σ : St) (vs : List Nat) : wipe (wipe σ vs) vs = wipe σ vs := by
  apply List.ext_getElem?
  intro j
  rw [wipe_get, wipe_get]
  by_cases hj : j ∈ vs
  · simp [hj]; cases σ[j]? <;> rfl
  · simp [hj]
theorem EnvR.swap {K : PySem.W.Frag} {R H F : Hp} {P : List (Option V)} {σ : St} {env : DEnv} {L : List Addr} (h : EnvR K R H F P σ env L) : ∀ {σ' : St}, σ'.length = σ.length → (∀ i : Nat, env[i]? ≠ some DX.Slot.un → σ'[i]? = σ[i]?) → EnvR K R H F P σ' env L := by
  have hd : ∀ {o o' : Option V} {σ σ' : St} {s : DX.Slot} {env : DEnv}, (∀ i : Nat, (s :: env)[i]? ≠ some DX.Slot.un → (o' :: σ')[i]? = (o :: σ)[i]?) → ∀ i : Nat, env[i]? ≠ some DX.Slot.un → σ'[i]? = σ[i]? := fun h i e => by
    have := h (i + 1) (by simpa using e)
    simpa using this
  have h0 : ∀ {o o' : Option V} {σ σ' : St} {s : DX.Slot} {env : DEnv}, (∀ i : Nat, (s :: env)[i]? ≠ some DX.Slot.un → (o' :: σ')[i]? = (o :: σ)[i]?) → s ≠ .un → o' = o := fun h e => by
    have := h 0 (by simpa using e)
    simpa using this
  induction h with
  | nil => intro σ' l _; cases σ' with
    | nil => exact .nil
    | cons => simp at l
  | un t ih => intro σ' l e; cases σ' with
    | nil => simp at l
    | cons o' σ' => exact .un (ih (by simpa using l) (hd e))
  | pin p t ih => intro σ' l e; cases σ' with
    | nil => simp at l
    | cons o' σ' => cases h0 e (by simp); exact .pin p (ih (by simpa using l) (hd e))
  | fz r t ih => intro σ' l e; cases σ' with
    | nil => simp at l
    | cons o' σ' => cases h0 e (by simp); exact .fz r (ih (by simpa using l) (hd e))
  | rd r t ih => intro σ' l e; cases σ' with
    | nil => simp at l
    | cons o' σ' => cases h0 e (by simp); exact .rd r (ih (by simpa using l) (hd e))
  | ow r t ih => intro σ' l e; cases σ' with
    | nil => simp at l
    | cons o' σ' => cases h0 e (by simp); exact .ow r (ih (by simpa using l) (hd e))
  | io p r t ih => intro σ' l e; cases σ' with
    | nil => simp at l
    | cons o' σ' => cases h0 e (by simp); exact .io p r (ih (by simpa using l) (hd e))
theorem forget_get : ∀ (dead : List Nat) (env : DEnv) (j : Nat), j ∈ dead → (forget dead env)[j]? ≠ some DX.Slot.un → (forget dead env)[j]? = none
  | [], env, j, h, _ => nomatch h
  | i :: is, env, j, h, q => by
    unfold forget at q ⊢
    by_cases hj : j ∈ is
    · exact forget_get is _ j hj q
    · have e : i = j := by
        rcases List.mem_cons.1 h with h | h
        · exact h.symm
        · exact absurd h hj
      subst e
      have key : ∀ (is : List Nat) (env : DEnv), i ∉ is → (forget is env)[i]? = env[i]? := by
        intro is
        induction is with
        | nil => intro env _; rfl
        | cons a is ih =>
          intro env h
          unfold forget
          rw [ih _ (fun z => h (List.mem_cons_of_mem _ z)), List.getElem?_set_ne (fun z => h (by rw [z]; exact List.mem_cons_self))]
      rw [key is _ hj] at q ⊢
      by_cases hl : i < env.length
      · rw [List.getElem?_set_self hl] at q; exact absurd rfl q
      · rw [List.getElem?_eq_none (by rw [List.length_set]; omega)]
section
variable {X : Cx} {R : Hp} {P : List (Option V)} {pos : Pos} {G H F : Hp} {σ σ' : St} {env : DEnv} {L : List Addr}
theorem FI.swap {own : List Nat} (I : FI X.K R P G H F σ' (DX.forget own env) L) (h : wipe σ' own = wipe σ own)   : FI X.K R P G H F σ (DX.forget own env) L :=
  ⟨I.fh, I.gh, I.rg, I.er.swap (wipe_len h).symm fun i q => by
    by_cases hi : i ∈ own
    · have e := forget_get own env i hi q
      have hl : (DX.forget own env).length ≤ i := by
        rw [List.getElem?_eq_none_iff] at e; exact e
      have l1 : σ'.length = (DX.forget own env).length := I.er.len
      rw [List.getElem?_eq_none (by rw [← wipe_len h, l1]; exact hl), List.getElem?_eq_none (by rw [l1]; exact hl)]
    · exact (wipe_eq h hi).symm, I.nd, I.fr⟩
/-- a target within a comprehension: only its own names change -/
def MGo (X : Cx) (R : Hp) (P : List (Option V)) (own : List Nat) (tg : Expr) (t : D → DEnv → Option DEnv) : Prop :=
  ∀ (G H F : Hp) (σ σ0 : St) (env env' : DEnv) (L : List Addr) (v : V) (d : D) (k : St → Hp → Prop), wipe σ own = σ0 → FI X.K R P G H F σ env L → Rep X.K F v d → t d env = some env' →
    (∀ (σ' : St) (H' F' : Hp) (L' : List Addr), wipe σ' own = σ0 → FI X.K R P G H' F' σ' env' L' → Same F F' → NewF G F F' → k σ' H') → tWg X tg v σ H k
inductive MGos (X : Cx) (R : Hp) (P : List (Option V)) (own : List Nat) : List Expr → List (D → DEnv → Option DEnv) → Prop
  | nil : MGos X R P own [] []
  | cons {e : Expr} {t : D → DEnv → Option DEnv} {es : List Expr} {ts : List (D → DEnv → Option DEnv)} (h : MGo X R P own e t) (r : MGos X R P own es ts) : MGos X R P own (e :: es) (t :: ts)
theorem mgo_name {own : List Nat} {i : Nat} {x : Str} (hN : X.N.Nodup) (ho : i ∈ own := by decide) (hi : X.N[i]? = some x := by rfl) (hx : Loc X.env.scope x := by first | exact .inl rfl | exact .inr rfl) (hf : X.fn x = true ∨ X.env.scope.names.lookup x = some .local := by first | exact .inl rfl | exact .inr rfl | assumption) :
    MGo X R P own (.Name x pos) (gNm i) := by
  intro G H F σ σ0 env env' L v d k hw I r e q
  refine wg_of (pg_name hN hi hx hf) ?_
  obtain ⟨F2, L2, I2, ff, nf⟩ := putV_ok I (rv := .fz d) (Lr := []) ⟨rfl, r⟩ I.disj (fun _ z => nomatch z) e
  exact q _ _ F2 L2 (by rw [wipe_put ho, hw]) I2 ff nf
theorem gEach_len : ∀ {ts : List (D → DEnv → Option DEnv)} {ds : List D} {env env' : DEnv}, gEach ts ds env = some env' → ts.length = ds.length := by
  intro ts
  induction ts with
  | nil => intro ds env env' e; cases ds with
    | nil => rfl
    | cons => cases e
  | cons t ts ih => intro ds env env' e; cases ds with
    | nil => cases e
    | cons d ds =>
      unfold gEach at e
      cases q : t d env with
      | none => rw [q] at e; cases e
      | some z => rw [q] at e; simp [ih e]
theorem MGos.len {own : List Nat} {es : List Expr} {ts : List (D → DEnv → Option DEnv)} (h : MGos X R P own es ts) : es.length = ts.length := by
  induction h with
  | nil => rfl
  | cons _ _ ih => simp [ih]
theorem mgos_ok {own : List Nat} {es : List Expr} {ts : List (D → DEnv → Option DEnv)} (h : MGos X R P own es ts) : ∀ {G H F : Hp} {σ σ0 : St} {env env' : DEnv} {L : List Addr} {vs : List V} {ds : List D} {k : St → Hp → Prop}, wipe σ own = σ0 → FI X.K R P G H F σ env L → Reps X.K F vs ds → gEach ts ds env = some env' →
    (∀ (σ' : St) (H' F' : Hp) (L' : List Addr), wipe σ' own = σ0 → FI X.K R P G H' F' σ' env' L' → Same F F' → NewF G F F' → k σ' H') → tWgs X es vs σ H k ∧ vs.length = es.length := by
  induction h with
  | nil =>
    intro G H F σ σ0 env env' L vs ds k hw I r e q
    cases ds with
    | nil => cases e; cases vs with
      | nil => exact ⟨⟨rfl, q _ _ _ _ hw I (Same.refl F) NewF.refl⟩, rfl⟩
      | cons v vs => have := r.1; simp at this
    | cons d ds => cases e
  | @cons e0 t es ts h hr ih =>
    intro G H F σ σ0 env env' L vs ds k hw I r e q
    cases ds with
    | nil => cases e
    | cons d ds =>
      cases vs with
      | nil => have := r.1; simp at this
      | cons v vs =>
        unfold gEach at e
        cases e1 : t d env with
        | none => rw [e1] at e; cases e
        | some env1 =>
          rw [e1] at e
          have r0 := r.2 0 v d rfl rfl
          have rr : Reps X.K F vs ds := ⟨by have := r.1; simpa using this, fun i v x a b => r.2 (i + 1) v x (by simpa using a) (by simpa using b)⟩
          have lenE : vs.length = es.length := by rw [rr.1, ← gEach_len e, hr.len]
          refine ⟨⟨v, vs, rfl, h G H F σ σ0 env env1 L v d _ hw I r0 e1 fun σ' H' F' L' w' I' s n => ?_⟩, by simp [lenE]⟩
          exact (ih w' I' (rr.mono s) e (fun σ'' H'' F'' L'' w'' J s' n' => q σ'' H'' F'' L'' w'' J (s.trans s') (n.trans n'))).1
theorem mgo_tup {own : List Nat} {es : List Expr} {k : Nat} {ts : List (D → DEnv → Option DEnv)} (hc : X.calm = true) (h : MGos X R P own es ts) (hp : PGs X es (tWgs X es)) (hn : (assignEach es X.env).length = es.length := by rfl) (hst : (assignEach es X.env).findIdx? (·.1) = none := by rfl) : MGo X R P own (.Tuple es k pos) (gTp ts) := by
  intro G H F σ σ0 env env' L v d k hw I r e q
  refine wg_of (pg_tup hc hp hn hst) ?_
  cases r with
  | tup hs hk hl hi =>
    obtain ⟨q1, q2⟩ := mgos_ok h hw I ⟨hl, hi⟩ e q
    exact ⟨_, _, rfl, SqT.mono I.fh hs, q2, q1⟩
  | _ => cases e
theorem mgo_lst {own : List Nat} {es : List Expr} {k : Nat} {ts : List (D → DEnv → Option DEnv)} (hc : X.calm = true) (h : MGos X R P own es ts) (hp : PGs X es (tWgs X es)) (hn : (assignEach es X.env).length = es.length := by rfl) (hst : (assignEach es X.env).findIdx? (·.1) = none := by rfl) : MGo X R P own (.Tuple es k pos) (gLs ts) := by
  intro G H F σ σ0 env env' L v d k hw I r e q
  refine wg_of (pg_lst hc hp hn hst) ?_
  cases r with
  | lst hs hl hi =>
    obtain ⟨q1, q2⟩ := mgos_ok h hw I ⟨hl, hi⟩ e q
    exact ⟨_, _, rfl, .inl (Rd.mono I.fh hs), q2, q1⟩
  | _ => cases e
/-- a comprehension's list, built -/
def lcL (t : D → DEnv → Option DEnv) (own : List Nat) (tt : DEnv → TR) (me : DEnv → ER) : List D → DEnv → List D → ER
  | [], env, acc => .ok (.tmp (.lst acc)) env
  | x :: xs, env, acc => match t x env with
    | none => .err
    | some e1 => match tt e1 with
      | .ok true e2 => match me e2 with
        | .ok rv e3 => match frzV e3 rv with
          | some (d, e4) => if acc.length < sizeLine then lcL t own tt me xs (forget own e4) (acc ++ [d]) else .err
          | none => .err
        | .raise _ _ => .err
        | .err => .err
      | .ok false e2 => lcL t own tt me xs (forget own e2) acc
      | .raise _ _ => .err
      | .err => .err
theorem forget_comm : ∀ (own : List Nat) (env : DEnv) (i : Nat), forget own (env.set i .un) = (forget own env).set i .un := by
  intro own
  induction own with
  | nil => intro env i; rfl
  | cons a own ih =>
    intro env i
    unfold forget
    rw [← ih]
    congr 1
    by_cases h : i = a
    · subst h; simp
    · rw [List.set_comm _ _ h]
theorem forget_idem : ∀ (own : List Nat) (env : DEnv), forget own (forget own env) = forget own env := by
  intro own
  induction own with
  | nil => intro env; rfl
  | cons a own ih =>
    intro env
    show forget own ((forget own (env.set a .un)).set a .un) = forget own (env.set a .un)
    rw [forget_comm, forget_comm, forget_comm, ih]
    simp
theorem FI.wipe : ∀ {own : List Nat} {env : DEnv} {σ : St} {L : List Addr}, FI X.K R P G H F σ env L → ∃ L', FI X.K R P G H F (L2.wipe σ own) (DX.forget own env) L' ∧ ∀ a ∈ L', a ∈ L := by
  have one : ∀ {i : Nat} {env : DEnv} {σ : St} {L : List Addr}, FI X.K R P G H F σ env L → ∃ L', FI X.K R P G H F (σ.set i none) (env.set i .un) L' ∧ ∀ a ∈ L', a ∈ L := by
    intro i env σ L I
    by_cases hi : i < env.length
    · obtain ⟨L', e, m, n⟩ := I.er.set (Lr := []) (o := none) (s := .un) (fun _ _ _ _ t => .un t) hi
      have m' : ∀ a ∈ L', a ∈ L := fun a ha => (m a ha).elim (fun z => nomatch z) id
      exact ⟨L', ⟨I.fh, I.gh, I.rg, e, n (by simpa using I.nd), fun a ha => I.fr a (m' a ha)⟩, m'⟩
    · have l1 : σ.length = env.length := I.er.len
      rw [List.set_eq_of_length_le (by omega), List.set_eq_of_length_le (by omega)]
      exact ⟨L, I, fun _ h => h⟩
  intro own
  induction own with
  | nil => intro env σ L I; exact ⟨L, I, fun _ h => h⟩
  | cons a own ih =>
    intro env σ L I
    obtain ⟨L1, I1, m1⟩ := ih I
    obtain ⟨L9, I2, m2⟩ := one (i := a) I1
    refine ⟨L9, ?_, fun b h => m1 b (m2 b h)⟩
    unfold DX.forget L2.wipe
    rw [forget_comm]
    exact I2
theorem takesB {X : Cx} : Takes X W0 := fun u s' ⟨a, B, sI, pins, σ, H, cls, d, e, I, nb, up, sky, na, os, ag, w⟩ => w.elim
/-- a new list written -/
theorem FI.wr {D : Addr} {c : HO} (I : FI X.K R P G H F σ env L) (hF : F D = none) (hG : G D = none) (hL : D ∉ L) : FI X.K R P G (upd H D c) F σ env L := by
  have keep : ∀ {G : Hp}, Same G H → G D = none → Same G (upd H D c) := fun gh n b x q => by rw [upd_ne (ne_of_none q n)]; exact gh _ _ q
  exact ⟨keep I.fh hF, keep I.gh hG, I.rg, I.er.keep (Same.refl F) (fun a ha => upd_ne fun z => hL (z ▸ ha)), I.nd, I.fr⟩
theorem lc_go {W : WX} {own : List Nat} {J : It} {xs : List D} {t : D → DEnv → Option DEnv} {tt : DEnv → TR} {me : DEnv → ER} {g : TG} {tw : TT} {te : TE} {Q : VK}
    (hg : ∀ (G H F : Hp) (σ σ0 : St) (env env' : DEnv) (L : List Addr) (v : V) (d : D) (k : St → Hp → Prop), wipe σ own = σ0 → FI X.K R P G H F σ env L → Rep X.K F v d → t d env = some env' →
      (∀ (σ' : St) (H' F' : Hp) (L' : List Addr), wipe σ' own = σ0 → FI X.K R P G H' F' σ' env' L' → Same F F' → NewF G F F' → k σ' H') → g v σ H k)
    (ht : ∀ (G H F : Hp) (σ : St) (env : DEnv) (L : List Addr) (Q : Bool → Hp → Prop), FI X.K R P G H F σ env L → PostT X W0 R P G F σ (tt env) Q → tw σ H Q)
    (he : ∀ (G H F : Hp) (σ : St) (env : DEnv) (L : List Addr) (Q : VK), FI X.K R P G H F σ env L → PostV X W0 R P G F σ (me env) Q → te σ H Q)
    (Wk : Walks X.K J xs G F) (I : FI X.K R P G H F σ (DX.forget own env) L) (q : PostV X W R P G F σ (lcL t own tt me xs (DX.forget own env) []) Q) (Da : Addr) (hD : H Da = none) :
    ∃ W' : Nat → Nat → Hp → Prop, (∃ m, W' 0 m (upd H Da (.lst []))) ∧ ∀ i m H, W' i m H → (J.stop i H ∧ Q (.ref Da) H) ∨ (J.go i H ∧ ∃ Nx : Hp → Prop, (∀ H', Nx H' → ∃ m', m' < m ∧ W' (i + 1) m' H') ∧
      ∀ x H', J.yld i H x H' → g x (wipe σ own) H' fun σ2 H2 => wipe σ2 own = wipe σ own ∧ tw σ2 H2 fun b H3 => if b = true then te σ2 H3 fun y H4 => ∃ acc, H4 Da = some (.lst acc) ∧ acc.length < sizeLine ∧ Nx (upd H4 Da (.lst (acc ++ [y]))) else Nx H3) := by
  have gD : G Da = none := I.gh.free hD
  have lD : ∀ {G2 : Hp} {F2 H2 : Hp} {σ2 : St} {e2 : DEnv} {L2 : List Addr}, FI X.K R P G2 H2 F2 σ2 e2 L2 → G2 Da ≠ none → Da ∉ L2 := fun I2 n z => n (I2.fr Da z).2
  let S : Nat → Hp → Prop := fun i H => ∃ (env : DEnv) (F1 : Hp) (L : List Addr) (vs : List V) (acc : List D), FI X.K R P G H F1 σ (DX.forget own env) L ∧ Same F F1 ∧ NewF G F F1 ∧ H Da = some (.lst vs) ∧ Reps X.K F1 vs acc ∧ Da ∉ L ∧ F1 Da = none ∧ PostV X W R P G F1 σ (lcL t own tt me (xs.drop i) (DX.forget own env) acc) Q
  refine ⟨fun i m H => m = xs.length - i ∧ i ≤ xs.length ∧ S i H, ⟨_, rfl, Nat.zero_le _, env, F, L, [], [], ?_, Same.refl F, NewF.refl, upd_same, ⟨rfl, fun _ _ _ e => by simp at e⟩, ?_, I.fh.free hD, by simpa using q⟩, ?_⟩
  · exact I.wr (I.fh.free hD) gD fun z => by obtain ⟨o, e, _⟩ := I.er.sub Da z; rw [hD] at e; cases e
  · exact fun z => by obtain ⟨o, e, _⟩ := I.er.sub Da z; rw [hD] at e; cases e
  rintro i m H ⟨rfl, hi, env, F1, L, vs, acc, I, ff, nf, hv, hr, nL, fD, q⟩
  by_cases hlt : i < xs.length
  · refine .inr ⟨Wk.go i H hlt I.gh (ff.trans I.fh), fun H' => i + 1 ≤ xs.length ∧ S (i + 1) H', fun H' h => ⟨xs.length - (i + 1), by omega, rfl, h⟩, fun x H' y => ?_⟩
    have ed : xs.drop i = xs[i] :: xs.drop (i + 1) := List.drop_eq_getElem_cons hlt
    rw [ed] at q
    unfold lcL at q
    have I' := I.held (Lr := [Da]) (List.nodup_cons.2 ⟨nL, I.nd⟩) (fun a ha => by obtain rfl := List.mem_singleton.1 ha; exact ⟨fD, gD⟩)
    have g2 : addG G H [Da] Da = some (.lst vs) := by rw [addG_in (by simp), hv]
    have g2n : addG G H [Da] Da ≠ none := by rw [g2]; simp
    have gg : Same G (addG G H [Da]) := addG_same fun a ha => by obtain rfl := List.mem_singleton.1 ha; exact gD
    have gl : ∀ a, addG G H [Da] a = none → G a = none := fun a e => gg.free e
    obtain ⟨F2, hh, f2, fh2, nw2, r2⟩ := Wk.yld i H F1 x H' xs[i] I.gh ff I.fh y (List.getElem?_eq_getElem hlt)
    have I2 := I'.ext hh f2 fh2 nw2
    have n2 := I'.newF nw2
    obtain ⟨L3, I3, _⟩ := I2.wipe (own := own)
    rw [forget_idem] at I3
    cases et : t xs[i] (DX.forget own env) with
    | none => rw [et] at q; exact q.elim
    | some e1 =>
      rw [et] at q
      dsimp only at q
      refine hg _ H' F2 _ (wipe σ own) _ e1 L3 x xs[i] _ (wipe_wipe σ own) I3 r2 et fun σ4 H4 F4 L4 w4 I4 s4 n4 => ⟨w4, ?_⟩
      have fin : ∀ {e5 : DEnv} {H5 F5 : Hp} {L5 : List Addr}, FI X.K R P (addG G H [Da]) H5 F5 σ4 e5 L5 → ∃ L6, FI X.K R P G H5 F5 σ (DX.forget own e5) L6 ∧ Da ∉ L6 := fun I5 => by
        obtain ⟨L6, I6⟩ := I5.forget (dead := own)
        exact ⟨L6, (I6.swap w4).less gg I.rg, lD I6 g2n⟩
      refine ht _ H4 F4 σ4 e1 L4 _ I4 ?_
      cases ett : tt e1 with
      | err => rw [ett] at q; exact q.elim
      | raise c e2 => rw [ett] at q; exact q.elim
      | ok b e2 =>
        rw [ett] at q
        intro H5 F5 L5 I5 s5 n5
        have s15 : Same F1 F5 := f2.trans (s4.trans s5)
        have n15 : NewF (addG G H [Da]) F1 F5 := n2.trans (n4.trans n5)
        cases b with
        | false =>
          rw [if_neg (by simp)]
          dsimp only at q
          obtain ⟨L6, I6, m6⟩ := fin I5
          have d5 : F5 Da = none := n15.out g2 (fun _ z => by cases z) fD
          have hv5 : H5 Da = some (.lst vs) := I5.gh _ _ g2
          exact ⟨hlt, e2, F5, L6, vs, acc, I6, ff.trans s15, nf.trans (n15.less gg), hv5, hr.mono s15, m6, d5, PostV.later s15 (n15.less gg) q⟩
        | true =>
          rw [if_pos rfl]
          dsimp only at q
          refine he _ H5 F5 σ4 e2 L5 _ I5 ?_
          cases eme : me e2 with
          | err => rw [eme] at q; exact q.elim
          | raise c e3 => rw [eme] at q; exact q.elim
          | ok rv e3 =>
            rw [eme] at q
            dsimp only at q
            intro v H6 F6 L6 Lr I6 s6 n6 r6 nd6 fr6
            cases ef : frzV e3 rv with
            | none => rw [ef] at q; exact q.elim
            | some p =>
              obtain ⟨d, e4⟩ := p
              rw [ef] at q
              dsimp only at q
              split at q
              · rename_i hsz
                obtain ⟨F7, L7, I7, s7, n7, r7, _, _⟩ := frzV_ok I6 r6 nd6 fr6 ef
                have s17 : Same F1 F7 := s15.trans (s6.trans s7)
                have n17 : NewF (addG G H [Da]) F1 F7 := n15.trans (n6.trans n7)
                obtain ⟨L8, I8, m8⟩ := fin I7
                have d7 : F7 Da = none := n17.out g2 (fun _ z => by cases z) fD
                refine ⟨vs, I7.gh _ _ g2, by rw [hr.1]; exact hsz, hlt, e4, F7, L8, vs ++ [v], acc ++ [d], I8.wr d7 gD m8, ff.trans s17, nf.trans (n17.less gg), upd_same, Reps.append (hr.mono s17) ⟨rfl, ?_⟩, m8, d7, PostV.later s17 (n17.less gg) q⟩
                intro j v' d' a b
                cases j with
                | zero => cases a; cases b; exact r7
                | succ j => simp at a
              · exact q.elim
  · have e : i = xs.length := by omega
    subst e
    rw [List.drop_length] at q
    refine .inl ⟨Wk.stop _ H (Nat.le_refl _) I.gh (ff.trans I.fh), ?_⟩
    exact q (.ref Da) H F1 L [Da] I (Same.refl F1) NewF.refl (.lst hv hr) (List.nodup_cons.2 ⟨nL, I.nd⟩) fun a ha => by obtain rfl := List.mem_singleton.1 ha; exact ⟨fD, gD⟩
end
end DX

namespace DX
open PySem PySem.Spec L2
open PyProof.Rows hiding St

/-- what an iterable comes to -/
inductive IR where
  | ok (xs : List D) (env : DEnv) | raise (c : Str) (env : DEnv) | err
def IOk (X : Cx) (W : WX) (R : Hp) (P : List (Option V)) (G F : Hp) (σ : St) (r : IR) (k : It → Hp → Prop) : Prop := match r with
  | .ok xs e => ∀ (J : It) (H' F' : Hp) (L' : List Addr), FI X.K R P G H' F' σ e L' → Same F F' → NewF G F F' → Walks X.K J xs G F' → k J H'
  | .raise c e => PRaise X W R P G F σ c e
  | .err => False
def MI (X : Cx) (W : WX) (R : Hp) (P : List (Option V)) (tg iter : Expr) (m : DEnv → IR) : Prop :=
  ∃ wi : TI, PI X tg iter wi ∧ ∀ (G H F : Hp) (σ : St) (env : DEnv) (L : List Addr) (k : It → Hp → Prop), FI X.K R P G H F σ env L → IOk X W R P G F σ (m env) k → wi σ H k
def mIt (it : DEnv → Val → Option (List D × DEnv)) (m : DEnv → ER) : DEnv → IR := fun env => match m env with
  | .ok rv e1 => match it e1 rv with
    | some (xs, e2) => .ok xs e2
    | none => .err
  | .raise c e => .raise c e
  | .err => .err
noncomputable def mR1 (m : DEnv → ER) : DEnv → IR := fun env => match m env with
  | .ok (.fz (.int j)) e1 => @ite _ (-(2 ^ 62) ≤ j ∧ j < 2 ^ 62) (Classical.propDecidable _) (.ok ((List.range j.toNat).map fun k => D.int (0 + (k : Nat))) e1) .err
  | .raise c e => .raise c e
  | _ => .err
noncomputable def mR2 (ma mb : DEnv → ER) : DEnv → IR := fun env => match mArgs [ma, mb] env with
  | .ok [.fz (.int i), .fz (.int j)] e1 => @ite _ (-(2 ^ 62) ≤ i ∧ i < 2 ^ 62 ∧ -(2 ^ 62) ≤ j ∧ j < 2 ^ 62) (Classical.propDecidable _) (.ok ((List.range (j - i).toNat).map fun k => D.int (i + (k : Nat))) e1) .err
  | .raise c e => .raise c e
  | _ => .err
section
variable {X : Cx} {W : WX} {R : Hp} {P : List (Option V)} {pos : Pos} {tg iter : Expr}
theorem me_run {e : Expr} {m : DEnv → ER} {G H F : Hp} {σ : St} {env : DEnv} {L : List Addr} {Q : VK} (h : ME X W R P e m) (I : FI X.K R P G H F σ env L)
    (k : match m env with
      | .ok rv env' => ∀ v H' F' L' Lr, FI X.K R P G H' F' σ env' L' → Same F F' → NewF G F F' → RepVal X.K H' F' σ v rv Lr → (Lr ++ L').Nodup → (∀ a ∈ Lr, F' a = none ∧ G a = none) → Q v H'
      | .raise c env' => PRaise X W R P G F σ c env'
      | .err => False) : tW X e σ H Q := h G H F σ env L Q I (by
  cases em : m env with
  | err => rw [em] at k; exact k
  | raise c e => rw [em] at k; exact k
  | ok rv e => rw [em] at k; exact k)
theorem mi_list {m : DEnv → ER} (hi : ME X W R P iter m) : MI X W R P tg iter (mIt itL m) := by
  refine ⟨_, pi_list pe_w, fun G H F σ env L k I q => ?_⟩
  refine me_run hi I ?_
  unfold mIt at q
  cases em : m env with
  | err => rw [em] at q; exact q
  | raise c e => rw [em] at q; exact q
  | ok rv e1 =>
    rw [em] at q
    dsimp only at q
    intro v H' F' L' Lr I' s n r nd fr
    cases e : itL e1 rv with
    | none => rw [e] at q; exact q.elim
    | some p =>
      obtain ⟨xs, e2⟩ := p
      rw [e] at q
      obtain ⟨a, vs, F2, L2, rfl, I2, ff, nf, hr, hl⟩ := itL_ok I' r nd fr e
      exact ⟨a, rfl, ⟨vs, hl H' I2.gh I2.fh⟩, q _ H' F2 L2 I2 (s.trans ff) (n.trans nf) (walks_list hl hr)⟩
theorem mi_tup {m : DEnv → ER} (hi : ME X W R P iter m) : MI X W R P tg iter (mIt itT m) := by
  refine ⟨_, pi_tup pe_w, fun G H F σ env L k I q => ?_⟩
  refine me_run hi I ?_
  unfold mIt itT at q
  cases em : m env with
  | err => rw [em] at q; exact q
  | raise c e => rw [em] at q; exact q
  | ok rv e1 =>
    rw [em] at q
    dsimp only at q
    intro v H' F' L' Lr I' s n r nd fr
    cases e : frzV e1 rv with
    | none => rw [e] at q; exact q.elim
    | some p =>
      obtain ⟨d, e2⟩ := p
      rw [e] at q
      cases d with
      | tup xs =>
        obtain ⟨F2, L2, I2, ff, nf, r2, _, _⟩ := frzV_ok I' r nd fr e
        cases r2 with
        | tup h hk hl hi =>
          have hS : ∀ H, Same G H → Same F2 H → SqT X.K H _ _ := fun H _ fh => SqT.mono fh h
          exact ⟨_, rfl, ⟨_, hS H' I2.gh I2.fh⟩, q _ H' F2 L2 I2 (s.trans ff) (n.trans nf) (walks_tup hS ⟨hl, hi⟩)⟩
      | _ => exact q.elim
theorem mi_R1 {a : Expr} {m : DEnv → ER} {p pos' : Pos} (hm : X.mg "range" = none) (hi : ME X W R P a m) (hgl : Gl X "range" := by rfl) (hst : starEach [a] X.env = [(false, eval a X.env)] := by rfl) :
    MI X W R P tg (.Call (.Name "range" p) [a] [] pos') (mR1 m) := by
  refine ⟨_, pi_range1 hgl hm (pa_cons pe_w pa_nil hst) hst, fun G H F σ env L k I q => ?_⟩
  show tW X a σ H fun x H1 => _
  refine me_run hi I ?_
  unfold mR1 at q
  cases em : m env with
  | err => rw [em] at q; exact q
  | raise c e => rw [em] at q; exact q
  | ok rv e1 =>
    rw [em] at q
    intro v H' F' L' Lr I' s n r nd fr
    cases rv with
    | fz d =>
      cases d with
      | int j =>
        obtain ⟨rfl, r⟩ := r
        cases r
        dsimp only at q
        split at q
        · rename_i hj
          exact ⟨j, rfl, hj.1, hj.2, q _ H' F' L' I' s n walks_range⟩
        · exact q.elim
      | _ => exact q.elim
    | _ => exact q.elim
def dLc (mi : DEnv → IR) (t : D → DEnv → Option DEnv) (own : List Nat) (tt : DEnv → TR) (me : DEnv → ER) : DEnv → ER := fun env => match mi env with
  | .ok xs e2 => lcL t own tt me xs (forget own e2) []
  | .raise c e => .raise c e
  | .err => .err
def dYes : DEnv → TR := fun env => .ok true env
/-- the inner frames of a comprehension -/
abbrev Blk (X : Cx) (scope : Scope) (φ : Cx → Prop) : Prop := ∀ (s : Shared) (H : Hp) (C : Addr) (cl : List (Str × Addr)) (fp : List Addr), φ (X.blk s H scope (compEnvC scope cl C X.env) fp)
abbrev aLc (X : Cx) (scope : Scope) (tg elt : Expr) : TG × TE := (fun v σ H Q => Blk X scope fun Y => tWg Y tg v σ H Q, fun σ H Q => Blk X scope fun Y => tW Y elt σ H Q)
theorem lc_tLc {wi : TI} {scope : Scope} {own : List (Str × Nat)} {elt : Expr} {ttw : TT} {mi : DEnv → IR} {t : D → DEnv → Option DEnv} {tt : DEnv → TR} {me : DEnv → ER} {G H F : Hp} {σ : St} {env : DEnv} {L : List Addr} {Q : VK}
    (hi : ∀ (G H F : Hp) (σ : St) (env : DEnv) (L : List Addr) (k : It → Hp → Prop), FI X.K R P G H F σ env L → IOk X W R P G F σ (mi env) k → wi σ H k)
    (hg : Blk X scope fun Y => MGo Y R P (own.map (·.2)) tg t) (he : Blk X scope fun Y => ME Y W0 R P elt me)
    (ht : ∀ (G H F : Hp) (σ : St) (env : DEnv) (L : List Addr) (Q : Bool → Hp → Prop), FI X.K R P G H F σ env L → PostT X W0 R P G F σ (tt env) Q → ttw σ H Q)
    (I : FI X.K R P G H F σ env L) (q : PostV X W R P G F σ (dLc mi t (own.map (·.2)) tt me env) Q) : tLc wi (aLc X scope tg elt).1 ttw (aLc X scope tg elt).2 (own.map (·.2)) σ H Q := by
  refine hi G H F σ env L _ I ?_
  unfold dLc at q
  cases em : mi env with
  | err => rw [em] at q; exact q
  | raise c e => rw [em] at q; exact q
  | ok xs e2 =>
    rw [em] at q
    dsimp only at q
    intro J H' F' L' I' s n Wk D hD
    obtain ⟨L3, I3⟩ := I'.forget (dead := own.map (·.2))
    exact lc_go (g := (aLc X scope tg elt).1) (tw := ttw) (te := (aLc X scope tg elt).2) (fun G H F σ σ0 env env' L v d k hw I r e q s0 H0 C cl fp => hg s0 H0 C cl fp G H F σ σ0 env env' L v d k hw I r e q) ht
      (fun G H F σ env L Q I q s0 H0 C cl fp => he s0 H0 C cl fp G H F σ env L Q I q) Wk I3 (PostV.later s n q) D hD
theorem tt_yes {R : Hp} {P : List (Option V)} : ∀ (G H F : Hp) (σ : St) (env : DEnv) (L : List Addr) (Q : Bool → Hp → Prop), FI X.K R P G H F σ env L → PostT X W0 R P G F σ (dYes env) Q → tYes σ H Q := fun G H F σ env L Q I q => q H F L I (Same.refl F) NewF.refl
theorem me_lc {elt : Expr} {scope : Scope} {own : List (Str × Nat)} {mi : DEnv → IR} {t : D → DEnv → Option DEnv} {me : DEnv → ER} (hc : X.calm = true) (hN : X.N.Nodup) (hi : MI X W R P tg iter mi) (ok : BlkOk X.N X.env.scope scope own)
    (hg : Blk X scope fun Y => MGo Y R P (own.map (·.2)) tg t) (he : Blk X scope fun Y => ME Y W0 R P elt me) (hs : ∀ x, foldedSetIterable iter X.env x = pure x := by intro _; rfl) :
    ME X W R P (.ListComp elt [⟨tg, iter, [], 0⟩] scope pos) (dLc mi t (own.map (·.2)) dYes me) := by
  intro G H F σ env L Q I q
  obtain ⟨wi, pi, hi⟩ := hi
  exact w_of (pe_lc (g := (aLc X scope tg elt).1) (tt := tYes) (te := (aLc X scope tg elt).2) hc hN pi ok (fun s H C cl fp => ⟨fun pins s1 σ H1 v u Q I r h => h s H C cl fp pins s1 u I r⟩) (fun _ _ _ _ _ => pts_nil) (fun s H C cl fp => ⟨fun pins s1 σ H1 Q I h => h s H C cl fp pins s1 I⟩) hs)
    (lc_tLc hi hg he tt_yes I q)
theorem me_lcIf {elt c : Expr} {scope : Scope} {own : List (Str × Nat)} {mi : DEnv → IR} {t : D → DEnv → Option DEnv} {tt : DEnv → TR} {me : DEnv → ER} (hc : X.calm = true) (hN : X.N.Nodup) (hi : MI X W R P tg iter mi) (ok : BlkOk X.N X.env.scope scope own)
    (hg : Blk X scope fun Y => MGo Y R P (own.map (·.2)) tg t) (ht : Blk X scope fun Y => MT Y W0 R P c tt) (he : Blk X scope fun Y => ME Y W0 R P elt me) (hs : ∀ x, foldedSetIterable iter X.env x = pure x := by intro _; rfl) :
    ME X W R P (.ListComp elt [⟨tg, iter, [c], 0⟩] scope pos) (dLc mi t (own.map (·.2)) tt me) := by
  intro G H F σ env L Q I q
  obtain ⟨wi, pi, hi⟩ := hi
  exact w_of (pe_lc (g := (aLc X scope tg elt).1) (tt := fun σ H Q => Blk X scope fun Y => tWt Y c σ H Q) (te := (aLc X scope tg elt).2) hc hN pi ok (fun s H C cl fp => ⟨fun pins s1 σ H1 v u Q I r h => h s H C cl fp pins s1 u I r⟩)
      (fun s H C cl fp => pts_one ⟨fun pins s1 σ H1 Q I h => h s H C cl fp pins s1 I⟩) (fun s H C cl fp => ⟨fun pins s1 σ H1 Q I h => h s H C cl fp pins s1 I⟩) hs)
    (lc_tLc hi hg he (fun G H F σ env L Q I q s0 H0 C cl fp => ht s0 H0 C cl fp G H F σ env L Q I q) I q)
theorem set_post {i : Nat} {r : ER} {G F : Hp} {σ : St} {D : Ends} (q : PostS X W R P G F (r.thn fun rv e => match putV e i rv with | some e' => .next e' | none => .err) D) : PostV X W R P G F σ r fun x H1 => gName i x σ H1 D.nx := by
  cases r with
  | err => exact q
  | raise c e => exact fun C H' F' L' g I' s n => q C σ H' F' L' g I' s n
  | ok rv e =>
    intro v H' F' L' Lr I' s n r nd fr
    have q' := PostS.later s n q
    dsimp only [ER.thn] at q'
    cases ep : putV e i rv with
    | none => rw [ep] at q'; exact q'.elim
    | some e2 =>
      rw [ep] at q'
      obtain ⟨F2, L2, I2, ff, nf⟩ := putV_ok I' r nd fr ep
      exact q' _ _ F2 L2 I2 ff nf
theorem ms_setLc {i : Nat} {y : Str} {py spos : Pos} {elt : Expr} {scope : Scope} {own : List (Str × Nat)} {mi : DEnv → IR} {t : D → DEnv → Option DEnv} {me : DEnv → ER} (hc : X.calm = true) (hN : X.N.Nodup) (hi : MI X W R P tg iter mi) (ok : BlkOk X.N X.env.scope scope own)
    (hg : Blk X scope fun Y => MGo Y R P (own.map (·.2)) tg t) (he : Blk X scope fun Y => ME Y W0 R P elt me) (hy : X.N[i]? = some y := by rfl) (hyl : X.env.scope.names.lookup y = some .local := by rfl)
    (hsw : swapsWith (.ListComp elt [⟨tg, iter, [], 0⟩] scope pos) (some (.Name y py)) spos.line X.env = pure true := by rfl) (hs : ∀ x, foldedSetIterable iter X.env x = pure x := by intro _; rfl) :
    MS X W R P (.Assign [.Name y py] (.ListComp elt [⟨tg, iter, [], 0⟩] scope pos) spos) (dSet i (dLc mi t (own.map (·.2)) dYes me)) := by
  intro G H F σ env L D I q
  obtain ⟨wi, pi, hi⟩ := hi
  exact ws_of (ps_setLc (g := (aLc X scope tg elt).1) (tt := tYes) (te := (aLc X scope tg elt).2) hc hN hy hyl hsw pi ok (fun s H C cl fp => ⟨fun pins s1 σ H1 v u Q I r h => h s H C cl fp pins s1 u I r⟩) (fun _ _ _ _ _ => pts_nil) (fun s H C cl fp => ⟨fun pins s1 σ H1 Q I h => h s H C cl fp pins s1 I⟩) hs)
    (lc_tLc hi hg he tt_yes I (set_post q))
theorem ms_setLcIf {i : Nat} {y : Str} {py spos : Pos} {elt c : Expr} {scope : Scope} {own : List (Str × Nat)} {mi : DEnv → IR} {t : D → DEnv → Option DEnv} {tt : DEnv → TR} {me : DEnv → ER} (hc : X.calm = true) (hN : X.N.Nodup) (hi : MI X W R P tg iter mi) (ok : BlkOk X.N X.env.scope scope own)
    (hg : Blk X scope fun Y => MGo Y R P (own.map (·.2)) tg t) (ht : Blk X scope fun Y => MT Y W0 R P c tt) (he : Blk X scope fun Y => ME Y W0 R P elt me) (hy : X.N[i]? = some y := by rfl) (hyl : X.env.scope.names.lookup y = some .local := by rfl)
    (hsw : swapsWith (.ListComp elt [⟨tg, iter, [c], 0⟩] scope pos) (some (.Name y py)) spos.line X.env = pure true := by rfl) (hs : ∀ x, foldedSetIterable iter X.env x = pure x := by intro _; rfl) :
    MS X W R P (.Assign [.Name y py] (.ListComp elt [⟨tg, iter, [c], 0⟩] scope pos) spos) (dSet i (dLc mi t (own.map (·.2)) tt me)) := by
  intro G H F σ env L D I q
  obtain ⟨wi, pi, hi⟩ := hi
  exact ws_of (ps_setLc (g := (aLc X scope tg elt).1) (tt := fun σ H Q => Blk X scope fun Y => tWt Y c σ H Q) (te := (aLc X scope tg elt).2) hc hN hy hyl hsw pi ok (fun s H C cl fp => ⟨fun pins s1 σ H1 v u Q I r h => h s H C cl fp pins s1 u I r⟩)
      (fun s H C cl fp => pts_one ⟨fun pins s1 σ H1 Q I h => h s H C cl fp pins s1 I⟩) (fun s H C cl fp => ⟨fun pins s1 σ H1 Q I h => h s H C cl fp pins s1 I⟩) hs)
    (lc_tLc hi hg he (fun G H F σ env L Q I q s0 H0 C cl fp => ht s0 H0 C cl fp G H F σ env L Q I q) I (set_post q))
end
end DX

namespace DX
open PySem PySem.Spec L2
open PyProof.Rows hiding St

/-- xs[i] = .. -/
def gAt (i : Nat) (mi : DEnv → ER) : D → DEnv → Option DEnv := fun d env => match env[i]? with
  | some (.v _ (.lst _)) => match mi env with
    | .ok (.fz (.int j)) e1 => match e1[i]? with
      | some (.v .ow (.lst xs)) => (ixN xs.length j).map fun k => e1.set i (.v .ow (.lst (xs.set k d)))
      | some (.v .io (.lst xs)) => (ixN xs.length j).map fun k => e1.set i (.v .io (.lst (xs.set k d)))
      | _ => none
    | _ => none
  | _ => none
section
variable {X : Cx} {W : WX} {R : Hp} {P : List (Option V)} {pos : Pos}
theorem mg_at {i : Nat} {x : Str} {ix : Expr} {mi : DEnv → ER} {xp : Pos} (hi : ME X W R P ix mi) (hN : X.N[i]? = some x := by rfl) (hv : Vis X.env.scope x := by first | exact Or.inl rfl | exact Or.inr (Or.inl rfl) | exact Or.inr (Or.inr rfl))
    (hd : (x == ("__debug__" : Str)) = false := by decide) (hcd : (x == ("__classdict__" : Str)) = false := by decide)
    (ha : ∀ v, assign (.Subscript (.Name x xp) ix pos) X.env v = (do
      let ov ← holding [v] (eval (.Name x xp) X.env)
      let iv ← holding [v, ov] (eval ix X.env)
      standAt pos
      holding [v, ov, iv] (setItem ov iv v)
      release [v, ov, iv] []) := by intro _; rfl) : MG X R P (.Subscript (.Name x xp) ix pos) (gAt i mi) := by
  intro G H F σ env env' L v d k I r e q
  refine wg_of (pg_sub (pe_var hN hv hd hcd) pe_w set_list ha) ?_
  unfold gAt at e
  cases e0 : env[i]? with
  | none => rw [e0] at e; cases e
  | some s0 =>
    rw [e0] at e
    cases s0 with
    | un => cases e
    | pin => cases e
    | v m d0 =>
    cases d0 with
    | lst xs0 =>
      dsimp only at e
      obtain ⟨u, e1, r1⟩ := I.er.get (I.rg.trans I.gh) I.fh e0
      refine ⟨u, e1, me_run hi I ?_⟩
      cases em : mi env with
      | err => rw [em] at e; cases e
      | raise c env1 => rw [em] at e; cases e
      | ok rv env1 =>
        rw [em] at e
        intro y H' F' L' Lr I' s n r' nd fr
        cases rv with
        | fz dj =>
          cases dj with
          | int j =>
            obtain ⟨_, r'⟩ := r'
            cases r'
            dsimp only at e
            have fin : ∀ {m : Mode} {xs : List D}, (m = .ow ∨ m = .io) → env1[i]? = some (.v m (.lst xs)) → (ixN xs.length j).map (fun k => env1.set i (.v m (.lst (xs.set k d)))) = some env' → rSetL u (.int j) v H' fun H3 => k σ H3 := by
              intro m xs hm e2 e
              cases ek : ixN xs.length j with
              | none => rw [ek] at e; cases e
              | some kk =>
                rw [ek] at e
                cases e
                obtain ⟨a, ea, ro, put⟩ := I'.mutate hm e2
                rw [e1] at ea
                cases ea
                cases ro with
                | lst h hi =>
                  obtain ⟨L3, I3⟩ := put _ _ (.lst upd_same (Reps.set kk (r.mono s) hi))
                  exact ⟨a, _, j, kk, rfl, rfl, h, by rw [hi.1]; exact ek, q σ _ F' L3 I3 s n⟩
            cases e2 : env1[i]? with
            | none => rw [e2] at e; cases e
            | some s2 =>
              rw [e2] at e
              cases s2 with
              | un => cases e
              | pin => cases e
              | v m d2 =>
                cases d2 with
                | lst xs =>
                  cases m with
                  | ow => exact fin (.inl rfl) e2 e
                  | io => exact fin (.inr rfl) e2 e
                  | fz => cases e
                  | rd => cases e
                | _ => cases m <;> cases e
          | _ => cases e
        | _ => cases e
    | _ => cases e
end
/-- constants of the module -/
theorem const_tup {K : PySem.W.Frag} {mg : Str → Option Value} {x : Str} {a : Addr} {od : Option Addr} {its : Array Value} {n : Nat} {sl : Array (Option Value)} {ds : List D} {vs : List V} (g : mg x = some (.ref a)) (h : K.lookup a = some ⟨.type "tuple", od, .seq its n, sl⟩)
    (hv : Vals vs its.toList) (hl : its.size ≤ sizeLine) (hr : ∀ F, Reps K F vs ds) (hi : ∃ n : Int, D.int n ∈ ds) : GConst K mg x (.tup ds) :=
  ⟨.ref a, .ref a, g, rfl, fun F => .tup (.inr ⟨_, its, n, h, rfl, rfl, hl, hv⟩) (.inr hi) (hr F).1 (hr F).2⟩
theorem reps_ints {K : PySem.W.Frag} (F : Hp) : ∀ ns : List Int, Reps K F (ns.map V.int) (ns.map D.int) := fun ns => ⟨by simp, fun i v x a b => by
  rw [List.getElem?_map] at a b
  cases e : ns[i]? with
  | none => rw [e] at a; cases a
  | some k => rw [e] at a b; cases a; cases b; exact .int k⟩
theorem reps_strs {K : PySem.W.Frag} (F : Hp) : ∀ ns : List Str, Reps K F (ns.map V.str) (ns.map D.str) := fun ns => ⟨by simp, fun i v x a b => by
  rw [List.getElem?_map] at a b
  cases e : ns[i]? with
  | none => rw [e] at a; cases a
  | some k => rw [e] at a b; cases a; cases b; exact .str k⟩
theorem const_int {K : PySem.W.Frag} {mg : Str → Option Value} {x : Str} {i : Int} {t : Tok} (g : mg x = some (.int i t)) : GConst K mg x (.int i) := ⟨.int i, _, g, ⟨t, rfl⟩, fun F => .int i⟩
theorem const_str {K : PySem.W.Frag} {mg : Str → Option Value} {x : Str} {s : Str} {t : Tok} (g : mg x = some (.str s t)) : GConst K mg x (.str s) := ⟨.str s, _, g, ⟨t, rfl⟩, fun F => .str s⟩
end DX

namespace DX
open PySem PySem.Spec L2
open PyProof.Rows hiding St

/-! ### sorted, of texts -/
def leS (a b : Str) : Bool := !strLt b a
def sortStr (zs : List Str) : List Str := zs.mergeSort leS
theorem strLt_cps (a b : Str) : PySem.Spec.ltCps a.cps.toList b.cps.toList = strLt a b := ltCps_eq _ _
theorem leS_trans (a b c : Str) (h1 : leS a b = true) (h2 : leS b c = true) : leS a c = true := by
  simp only [leS, strLt, Bool.not_eq_true', decide_eq_false_iff_not] at *
  exact List.not_lt.2 (List.le_trans (List.not_lt.1 h1) (List.not_lt.1 h2))
theorem leS_total (a b : Str) : (leS a b || leS b a) = true := by
  simp only [leS, strLt, Bool.or_eq_true, Bool.not_eq_true', decide_eq_false_iff_not]
  by_cases h : b.cps.toList < a.cps.toList
  · exact .inr (List.lt_asymm h)
  · exact .inl h
theorem leS_anti (a b : Str) (h1 : leS a b = true) (h2 : leS b a = true) : a = b := by
  simp only [leS, strLt, Bool.not_eq_true', decide_eq_false_iff_not] at *
  have e := List.le_antisymm (List.not_lt.1 h1) (List.not_lt.1 h2)
  cases a; cases b
  congr 1
  exact Array.toList_inj.1 e
theorem rising_pair : ∀ (l : List Str) (p : Str), risingS p l = true → (p :: l).Pairwise fun a b => leS a b = true
  | [], p, _ => by simp
  | x :: r, p, h => by
    simp only [risingS, Bool.and_eq_true, strLt_cps] at h
    have ih := rising_pair r x h.2
    refine List.pairwise_cons.2 ⟨fun y hy => ?_, ih⟩
    rcases List.mem_cons.1 hy with e | e
    · rw [e]; exact h.1
    · exact leS_trans p x y h.1 ((List.pairwise_cons.1 ih).1 y e)
theorem sortedS_pair {l : List Str} (h : sortedS l = true) : l.Pairwise fun a b => leS a b = true := by
  cases l with
  | nil => exact .nil
  | cons x r => exact rising_pair r x h
theorem sortStr_uniq {xs ys : List Str} (p : ys.Perm xs) (s : sortedS ys = true) : ys = sortStr xs := by
  refine List.Perm.eq_of_pairwise (le := fun a b => leS a b = true) (fun a b _ _ h1 h2 => leS_anti a b h1 h2) (sortedS_pair s) ?_ (p.trans (List.mergeSort_perm xs leS).symm)
  exact List.pairwise_mergeSort (fun a b c => leS_trans a b c) leS_total xs
def gSorted : List D → Option Val
  | [.lst xs] => (asStrs xs).bind fun zs => if zs.length < 64 then some (.tmp (.lst ((sortStr zs).map D.str))) else none
  | _ => none
theorem reps_str {K : PySem.W.Frag} {F : Hp} : ∀ (zs : List Str) (vs : List V), Reps K F vs (zs.map D.str) → vs = zs.map V.str
  | [], vs, h => by cases vs with
    | nil => rfl
    | cons => have := h.1; simp at this
  | z :: zs, vs, h => by cases vs with
    | nil => have := h.1; simp at this
    | cons v vs =>
      have h0 := h.2 0 v (.str z) rfl rfl
      cases h0
      have := reps_str zs vs ⟨by have := h.1; simpa using this, fun i v x a b => h.2 (i + 1) v x (by simpa using a) (by simpa using b)⟩
      simp [this]
section
variable {X : Cx}
theorem callSorted : CallR X (.builtin "sorted") (rG X.K gSorted) := callImp cr_sortedS fun vs H Q ⟨σ, F, ds, rv, fh, h, e, k⟩ => by
  unfold gSorted at e; split at e
  · rename_i xs
    obtain ⟨x, rfl, hx⟩ := one h
    cases q : asStrs xs with
    | none => rw [q] at e; cases e
    | some zs =>
      rw [q] at e
      simp only [Option.bind_some] at e
      split at e
      · rename_i hl
        cases e
        have e2 := asStrs_map q
        subst e2
        cases hx with
        | @lst a vs _ ha hi =>
          have ev := reps_str zs vs hi
          subst ev
          refine ⟨a, zs, rfl, .inl ha, hl, fun ys p pm so n => ?_⟩
          rw [sortStr_uniq pm so]
          exact k.own (X := X) fh n (.lst upd_same (reps_strs _ _))
      · cases e
  · cases e
end
end DX

namespace DX
open PySem PySem.Spec L2
open PyProof.Rows hiding St

def inD (x : D) (ys : List D) : Bool := ys.any fun y => deqF y x
def gInN (neg : Bool) : List D → Option Val
  | [x, .lst ys] => if flatD x && ys.all flatD then some (.fz (.bl (if neg then !inD x ys else inD x ys))) else none
  | [x, .tup ys] => if flatD x && ys.all flatD then some (.fz (.bl (if neg then !inD x ys else inD x ys))) else none
  | [.str s, .str z] => match s.cps.toList with
    | [c] => some (.fz (.bl (if neg then !decide (c ∈ z.cps.toList) else decide (c ∈ z.cps.toList))))
    | _ => none
  | _ => none
def gIn := gInN false
def gNotIn := gInN true
theorem flatR_v {K : PySem.W.Frag} {F : Hp} {v : V} {d : D} (h : Rep K F v d) (f : flatD d = true) : v = vOf d ∧ flatV v = true := by
  cases h <;> first | exact ⟨rfl, rfl⟩ | cases f
theorem flatR_vH {K : PySem.W.Frag} {H F : Hp} {v : V} {d : D} (h : RepH K H F v d) (f : flatD d = true) : v = vOf d ∧ flatV v = true := by
  cases h <;> first | exact ⟨rfl, rfl⟩ | cases f
theorem eqV_of {x y : D} (fx : flatD x = true) (fy : flatD y = true) : eqV (vOf y) (vOf x) = deqF y x := by
  cases x <;> first | (cases fx; done) | skip
  all_goals cases y <;> first | (cases fy; done) | rfl
theorem inV_of {K : PySem.W.Frag} {F : Hp} {x : D} (fx : flatD x = true) : ∀ {ys : List D} {vs : List V}, Reps K F vs ys → ys.all flatD = true → inV (vOf x) vs = inD x ys ∧ vs.all flatV = true
  | [], vs, h, _ => by cases vs with
    | nil => exact ⟨rfl, rfl⟩
    | cons => have := h.1; simp at this
  | y :: ys, vs, h, f => by cases vs with
    | nil => have := h.1; simp at this
    | cons v vs =>
      simp only [List.all_cons, Bool.and_eq_true] at f
      have h0 := flatR_v (h.2 0 v y rfl rfl) f.1
      have ih := inV_of fx (ys := ys) (vs := vs) ⟨by have := h.1; simpa using this, fun i v x a b => h.2 (i + 1) v x (by simpa using a) (by simpa using b)⟩ f.2
      refine ⟨?_, by simp only [List.all_cons, h0.2, ih.2]; rfl⟩
      have e := ih.1
      simp only [inV, inD] at e ⊢
      rw [List.any_cons, List.any_cons, e, h0.1, eqV_of fx f.1]
section
variable {X : Cx}
theorem in_imp {op : CmpOp} {neg : Bool} (h1 : OpR X (compareOp op) (rIn X.K neg)) (h2 : OpR X (compareOp op) (fun x y H Q => ∃ (c : Nat) (z : Str), x = .str ⟨#[c]⟩ ∧ y = .str z ∧ Q (.bl (if neg then !decide (c ∈ z.cps.toList) else decide (c ∈ z.cps.toList))) H)) :
    OpR X (compareOp op) (r2G X.K (gInN neg)) := opImp (OpR.or h1 h2) fun x y H Q ⟨σ, F, ds, rv, fh, h, e, k⟩ => by
  obtain ⟨dx, dy, rfl, hx, hy⟩ := rd2 h
  unfold gInN at e
  split at e
  · rename_i x0 ys z
    cases z
    split at e
    · rename_i hf
      cases e
      simp only [Bool.and_eq_true] at hf
      obtain ⟨rfl, fv⟩ := flatR_vH hx hf.1
      cases hy with
      | lst ha hi =>
        obtain ⟨e1, e2⟩ := inV_of hf.1 hi hf.2
        refine .inl ⟨_, _, rfl, .inl (.inl ha), fv, e2, ?_⟩
        rw [e1]
        exact k.atom (X := X) fh (.bl _)
    · cases e
  · rename_i x0 ys z
    cases z
    split at e
    · rename_i hf
      cases e
      simp only [Bool.and_eq_true] at hf
      obtain ⟨rfl, fv⟩ := flatR_vH hx hf.1
      cases hy with
      | tup ha hk hi =>
        obtain ⟨e1, e2⟩ := inV_of hf.1 hi hf.2
        refine .inl ⟨_, _, rfl, .inr ha, fv, e2, ?_⟩
        rw [e1]
        exact k.atom (X := X) fh (.bl _)
    · cases e
  · rename_i s z w
    cases w
    split at e
    · rename_i c hc
      cases e
      cases hx
      cases hy
      have es : s = ⟨#[c]⟩ := by
        cases s
        congr 1
        exact Array.toList_inj.1 hc
      subst es
      exact .inr ⟨c, z, rfl, rfl, k.atom (X := X) fh (.bl _)⟩
    · cases e
  · cases e
theorem opd_in : OpR X (compareOp .In) (r2G X.K gIn) := in_imp op_in_seq (opImp op_in_sign fun x y H Q h => h)
theorem opd_notIn : OpR X (compareOp .NotIn) (r2G X.K gNotIn) := in_imp op_notIn_seq (opImp op_notIn_sign fun x y H Q h => h)
end
end DX

namespace DX
open PySem PySem.Spec L2
open PyProof.Rows hiding St

/-- a op1 b op2 c, all three told of by themselves -/
def dChain (g g' : List D → Option Val) (ma mb mc : DEnv → ER) : DEnv → ER := fun env => match ma env with
  | .ok (.fz a) e1 => match mb e1 with
    | .ok (.fz b) e2 => match g [a, b] with
      | some (.fz (.bl true)) => match mc e2 with
        | .ok (.fz c) e3 => match g' [b, c] with
          | some rv => .ok rv e3
          | none => .err
        | .raise x e => .raise x e
        | _ => .err
      | some (.fz (.bl false)) => .ok (.fz (.bl false)) e2
      | _ => .err
    | .raise x e => .raise x e
    | _ => .err
  | .raise x e => .raise x e
  | _ => .err
section
variable {X : Cx} {W : WX} {R : Hp} {P : List (Option V)} {pos : Pos} {a b c : Expr} {ma mb mc : DEnv → ER} {g g' : List D → Option Val}
theorem chain_run {G H F : Hp} {σ : St} {env : DEnv} {L : List Addr} {Q : VK} (ha : ME X W R P a ma) (hb : ME X W R P b mb) (hc : ME X W R P c mc) (I : FI X.K R P G H F σ env L) (q : PostV X W R P G F σ (dChain g g' ma mb mc env) Q) :
    tChain (r2G X.K g) (r2G X.K g') (tW X a) (tW X b) (tW X c) σ H Q := by
  refine me_run ha I ?_
  unfold dChain at q
  cases ea : ma env with
  | err => rw [ea] at q; exact q
  | raise x e => rw [ea] at q; exact q
  | ok ra e1 =>
    rw [ea] at q
    cases ra with
    | tmp d => exact q.elim
    | br i => exact q.elim
    | fz da =>
      dsimp only at q
      intro x H1 F1 L1 Lr1 I1 s1 n1 r1 nd1 fr1
      obtain ⟨_, r1⟩ := r1
      refine me_run hb I1 ?_
      cases eb : mb e1 with
      | err => rw [eb] at q; exact q
      | raise x e => rw [eb] at q; exact PRaise.later s1 n1 q
      | ok rb e2 =>
        rw [eb] at q
        cases rb with
        | tmp d => exact q.elim
        | br i => exact q.elim
        | fz db =>
          dsimp only at q
          intro y H2 F2 L2' Lr2 I2 s2 n2 r2 nd2 fr2
          obtain ⟨_, r2⟩ := r2
          cases eg : g [da, db] with
          | none => rw [eg] at q; exact q.elim
          | some rv =>
            rw [eg] at q
            refine ⟨σ, F2, [da, db], rv, I2.fh, .cons ((r1.mono s2).toH I2.fh) (.cons (r2.toH I2.fh) .nil), eg, ?_⟩
            intro v H3 F3 Lr3 hh ff fh nw r3 nd3 fr3
            have I3 := I2.ext hh ff fh nw
            have n3 := I2.newF nw
            have s03 : Same F F3 := s1.trans (s2.trans ff)
            have n03 : NewF G F F3 := n1.trans (n2.trans n3)
            cases rv with
            | tmp d => exact q.elim
            | br i => exact q.elim
            | fz d =>
              cases d with
              | bl k =>
                obtain ⟨_, r3⟩ := r3
                cases r3
                refine ⟨k, rfl, ?_⟩
                cases k with
                | false =>
                  rw [if_neg (by simp)]
                  exact POk.now (PostV.later (r := .ok (.fz (.bl false)) e2) s03 n03 q) I3 (.bl false)
                | true =>
                  rw [if_pos rfl]
                  dsimp only at q
                  refine me_run hc I3 ?_
                  cases ec : mc e2 with
                  | err => rw [ec] at q; exact q
                  | raise x e => rw [ec] at q; exact PRaise.later s03 n03 q
                  | ok rc e3 =>
                    rw [ec] at q
                    cases rc with
                    | tmp d => exact q.elim
                    | br i => exact q.elim
                    | fz dc =>
                      dsimp only at q
                      intro w H4 F4 L4 Lr4 I4 s4 n4 r4 nd4 fr4
                      obtain ⟨_, r4⟩ := r4
                      cases eg' : g' [db, dc] with
                      | none => rw [eg'] at q; exact q.elim
                      | some rv =>
                        rw [eg'] at q
                        exact ⟨σ, F4, [db, dc], rv, I4.fh, .cons ((r2.mono (ff.trans s4)).toH I4.fh) (.cons (r4.toH I4.fh) .nil), eg', gives_of I4 (PostV.later (r := .ok rv e3) (s03.trans s4) (n03.trans n4) q)⟩
              | _ => exact q.elim
theorem me_chain {op op' : CmpOp} (ho : OpR X (compareOp op) (r2G X.K g)) (ho' : OpR X (compareOp op') (r2G X.K g')) (ha : ME X W R P a ma) (hb : ME X W R P b mb) (hc : ME X W R P c mc)
    (hm : lastMarks [op, op'] [b, c] = false := by with_unfolding_all rfl) : ME X W R P (.Compare a [op, op'] [b, c] pos) (dChain g g' ma mb mc) :=
  fun G H F σ env L Q I q => w_of (pe_chain ho ho' pe_w pe_w pe_w hm) (chain_run ha hb hc I q)
theorem mt_chain {op op' : CmpOp} (ho : OpR X (compareOp op) (r2G X.K g)) (ho' : OpR X (compareOp op') (r2G X.K g')) (ha : ME X W R P a ma) (hb : ME X W R P b mb) (hc : ME X W R P c mc)
    (hm : lastMarks [op, op'] [b, c] = false := by with_unfolding_all rfl) : MT X W R P (.Compare a [op, op'] [b, c] pos) (dTst (dChain g g' ma mb mc)) :=
  fun G H F σ env L Q I q => wt_of (pt_chain ho ho' pe_w pe_w pe_w hm) (chain_run ha hb hc I (tst_post q))
end
end DX

namespace DX
open PySem PySem.Spec L2
open PyProof.Rows hiding St

def dForI (mi : DEnv → IR) (t : D → DEnv → Option DEnv) (dead : List Nat) (mb : DEnv → FR) : DEnv → FR := fun env => match mi env with
  | .ok xs e => forL t dead mb xs e
  | .raise c e => .raise c e
  | .err => .err
/-- the signs of a text -/
def mStr (m : DEnv → ER) : DEnv → IR := fun env => match m env with
  | .ok (.fz (.str z)) e1 => .ok (z.cps.toList.map fun c => D.str ⟨#[c]⟩) e1
  | .raise c e => .raise c e
  | _ => .err
def enumL (xs : List D) : List D := (List.range xs.length).map fun i => D.tup [.int (i : Nat), xs.getD i .non]
def mEnum (m : DEnv → ER) : DEnv → IR := fun env => match mIt itL m env with
  | .ok xs e => .ok (enumL xs) e
  | .raise c e => .raise c e
  | .err => .err
section
variable {X : Cx} {W : WX} {R : Hp} {P : List (Option V)} {pos : Pos} {tg iter : Expr}
theorem ms_forI {body : List Stmt} {mi : DEnv → IR} {t : D → DEnv → Option DEnv} {dead : List Nat} {mb : DEnv → FR} (hp : PassesOwn (model X.prog X.w) X.A X.env X.xe) (hc : X.calm = true) (hi : MI X W R P tg iter mi) (hg : MG X R P tg t) (hb : MSs X W R P body mb)
    (hs : ∀ x, foldedSetIterable iter X.env x = pure x := by intro _; rfl) : MS X W R P (.For tg iter body [] pos) (dForI mi t dead mb) := by
  intro G H F σ env L D I q
  obtain ⟨wi, pi, hi⟩ := hi
  refine ws_of (ps_for hp hc pi pg_w pss_w hs) ?_
  refine hi G H F σ env L _ I ?_
  unfold dForI at q
  cases em : mi env with
  | err => rw [em] at q; exact q
  | raise c e => rw [em] at q; exact fun C H' F' L' g I' s n => q C σ H' F' L' g I' s n
  | ok xs e2 =>
    rw [em] at q
    intro J H' F' L' I' s n Wk
    exact for_go Wk hg hb I' (PostS.later s n q)
theorem walks_str {K : PySem.W.Frag} {G F : Hp} {z : Str} : Walks K (Its z) (z.cps.toList.map fun c => D.str ⟨#[c]⟩) G F where
  go := fun i H hi _ _ => by show i < z.cps.size; simpa using hi
  stop := fun i H hi _ _ => by show z.cps.size ≤ i; simpa using hi
  yld := fun i H F1 x H' d gh f1 fh y e => by
    obtain ⟨rfl, c, hc, rfl⟩ := y
    rw [List.getElem?_map] at e
    have : z.cps.toList[i]? = some c := by simpa using hc
    rw [this] at e
    cases e
    exact ⟨F1, Same.refl _, Same.refl _, fh, fun a q => .inl q, .str _⟩
theorem mi_str {m : DEnv → ER} (hi : ME X W R P iter m) : MI X W R P tg iter (mStr m) := by
  refine ⟨_, pi_str pe_w, fun G H F σ env L k I q => ?_⟩
  refine me_run hi I ?_
  unfold mStr at q
  cases em : m env with
  | err => rw [em] at q; exact q
  | raise c e => rw [em] at q; exact q
  | ok rv e1 =>
    rw [em] at q
    intro v H' F' L' Lr I' s n r nd fr
    cases rv with
    | fz d =>
      cases d with
      | str z =>
        obtain ⟨_, r⟩ := r
        cases r
        exact ⟨z, rfl, q _ H' F' L' I' s n walks_str⟩
      | _ => exact q.elim
    | _ => exact q.elim
theorem walks_enum {K : PySem.W.Frag} {G F : Hp} {a : Addr} {vs : List V} {xs : List D} (hl : ∀ H, Same G H → Same F H → SqL K H a vs) (hr : Reps K F vs xs) : Walks K (Ite K a) (enumL xs) G F where
  go := fun i H hi gh fh => by
    have hi' : i < vs.length := by rw [hr.1]; simpa [enumL] using hi
    exact ⟨vs, vs[i], hl H gh fh, List.getElem?_eq_getElem hi'⟩
  stop := fun i H hi gh fh => ⟨vs, hl H gh fh, by rw [hr.1]; simpa [enumL] using hi⟩
  yld := fun i H F1 x H' d gh f1 fh y e => by
    obtain ⟨T, v, rfl, n, rfl, y⟩ := y
    have ev := y vs (hl H gh (f1.trans fh))
    have hi : i < xs.length := by
      have := (List.getElem?_eq_some_iff.1 e).1
      simpa [enumL] using this
    have ed : d = D.tup [.int (i : Nat), xs[i]] := by
      simp only [enumL, List.getElem?_map, List.getElem?_range hi, Option.map_some] at e
      cases e
      simp [List.getD_eq_getElem?_getD, List.getElem?_eq_getElem hi]
    subst ed
    have hv := (hr.2 i v xs[i] ev (List.getElem?_eq_getElem hi)).mono f1
    have nF : F1 T = none := fh.free n
    refine ⟨upd F1 T (.tup [.int (i : Nat), v]), same_upd n, same_upd nF, ?_, fun b q => ?_, .tup (.inl (.inl upd_same)) (.inl upd_same) rfl ?_⟩
    · intro b o q
      by_cases hb : b = T
      · subst hb; rw [upd_same] at q; rw [upd_same]; exact q
      · rw [upd_ne hb] at q; rw [upd_ne hb]; exact fh b o q
    · by_cases hb : b = T
      · subst hb; exact .inr (.inl n)
      · rw [upd_ne hb] at q; exact .inl q
    · intro j u x h1 h2
      match j with
      | 0 => cases h1; cases h2; exact .int _
      | 1 => cases h1; cases h2; exact hv.mono (same_upd nF)
      | j + 2 => simp at h1
theorem mi_enum {e : Expr} {m : DEnv → ER} {elts : List Expr} {kk : Nat} {p pos' tpos : Pos} (hm : X.mg "enumerate" = none) (hi : ME X W R P e m) (hg : Gl X "enumerate" := by rfl) (hs : starEach [e] X.env = [(false, eval e X.env)] := by rfl) :
    MI X W R P (.Tuple elts kk tpos) (.Call (.Name "enumerate" p) [e] [] pos') (mEnum m) := by
  refine ⟨_, pi_enum hg hm (pa_cons pe_w pa_nil hs) hs, fun G H F σ env L k I q => ?_⟩
  show tW X e σ H fun x H1 => _
  refine me_run hi I ?_
  unfold mEnum mIt at q
  cases em : m env with
  | err => rw [em] at q; exact q
  | raise c e => rw [em] at q; exact q
  | ok rv e1 =>
    rw [em] at q
    dsimp only at q
    intro v H' F' L' Lr I' s n r nd fr
    cases e : itL e1 rv with
    | none => rw [e] at q; exact q.elim
    | some p =>
      obtain ⟨xs, e2⟩ := p
      rw [e] at q
      obtain ⟨a, vs, F2, L2, rfl, I2, ff, nf, hr, hl⟩ := itL_ok I' r nd fr e
      exact ⟨a, vs, rfl, hl H' I2.gh I2.fh, q _ H' F2 L2 I2 (s.trans ff) (n.trans nf) (walks_enum hl hr)⟩
def mRev (m : DEnv → ER) : DEnv → IR := fun env => match mIt itL m env with
  | .ok xs e => .ok xs.reverse e
  | .raise c e => .raise c e
  | .err => .err
theorem walks_rev {K : PySem.W.Frag} {G F : Hp} {a : Addr} {vs : List V} {xs : List D} (hl : ∀ H, Same G H → Same F H → SqL K H a vs) (hr : Reps K F vs xs) : Walks K (Itv K a vs.length) xs.reverse G F where
  go := fun i H hi gh fh => by
    have hi' : i < vs.length := by rw [hr.1]; simpa using hi
    exact ⟨hi', vs, vs[vs.length - 1 - i]'(by omega), hl H gh fh, List.getElem?_eq_getElem _⟩
  stop := fun i H hi gh fh => by show vs.length ≤ i; rw [hr.1]; simpa using hi
  yld := fun i H F1 x H' d gh f1 fh y e => by
    obtain ⟨rfl, y⟩ := y
    have ev := y vs (hl H' gh (f1.trans fh))
    have hi : i < xs.length := by
      have := (List.getElem?_eq_some_iff.1 e).1
      simpa using this
    rw [List.getElem?_reverse hi] at e
    rw [hr.1] at ev
    exact ⟨F1, Same.refl _, Same.refl _, fh, fun a q => .inl q, (hr.2 _ x d ev e).mono f1⟩
theorem mi_rev {e : Expr} {m : DEnv → ER} {p pos' : Pos} (hm : X.mg "reversed" = none) (hi : ME X W R P e m) (hg : Gl X "reversed" := by rfl) (hs : starEach [e] X.env = [(false, eval e X.env)] := by rfl) :
    MI X W R P tg (.Call (.Name "reversed" p) [e] [] pos') (mRev m) := by
  refine ⟨_, pi_reversed hg hm (pa_cons pe_w pa_nil hs) hs, fun G H F σ env L k I q => ?_⟩
  show tW X e σ H fun x H1 => _
  refine me_run hi I ?_
  unfold mRev mIt at q
  cases em : m env with
  | err => rw [em] at q; exact q
  | raise c e => rw [em] at q; exact q
  | ok rv e1 =>
    rw [em] at q
    dsimp only at q
    intro v H' F' L' Lr I' s n r nd fr
    cases e : itL e1 rv with
    | none => rw [e] at q; exact q.elim
    | some p =>
      obtain ⟨xs, e2⟩ := p
      rw [e] at q
      obtain ⟨a, vs, F2, L2, rfl, I2, ff, nf, hr, hl⟩ := itL_ok I' r nd fr e
      exact ⟨a, vs, rfl, hl H' I2.gh I2.fh, q _ H' F2 L2 I2 (s.trans ff) (n.trans nf) (walks_rev hl hr)⟩
theorem mi_R2 {a b : Expr} {ma mb' : DEnv → ER} {p pos' : Pos} (hm : X.mg "range" = none) (hi : ME X W R P a ma) (hi2 : ME X W R P b mb') (hgl : Gl X "range" := by rfl) (hst : starEach [a, b] X.env = [(false, eval a X.env), (false, eval b X.env)] := by rfl) (hst2 : starEach [b] X.env = [(false, eval b X.env)] := by rfl) :
    MI X W R P tg (.Call (.Name "range" p) [a, b] [] pos') (mR2 ma mb') := by
  refine ⟨_, pi_range2 hgl hm (pa_cons pe_w (pa_cons pe_w pa_nil hst2) (hst.trans (by rw [hst2]))) hst hst2, fun G H F σ env L k I q => ?_⟩
  show tWa X [a, b] σ H _
  refine run_args (.cons hi (.cons hi2 .nil)) I ?_
  unfold mR2 at q
  cases e : mArgs [ma, mb'] env with
  | err => rw [e] at q; exact q
  | raise c env' => rw [e] at q; exact q
  | ok rvs env' =>
    rw [e] at q
    intro vs H' F' L' Lr I' s n hs nd fr
    split at q
    · rename_i i j e1 h1
      cases h1
      cases hs with
      | cons h1 t1 =>
        cases t1 with
        | cons h2 t2 =>
          cases t2
          obtain ⟨rfl, r1⟩ := h1
          obtain ⟨rfl, r2⟩ := h2
          cases r1; cases r2
          split at q
          · rename_i hj
            exact ⟨i, j, rfl, hj, q _ H' F' L' I' s n walks_range⟩
          · exact q.elim
    · rename_i h1; cases h1
    · exact q.elim
end
end DX

namespace DX
open PySem PySem.Spec L2
open PyProof.Rows hiding St
def gIsB : List D → Option Val
  | [.bl a, .bl b] => some (.fz (.bl (decide (a = b))))
  | _ => none
def gNotB : List D → Option Val
  | [.bl a, .bl b] => some (.fz (.bl (!decide (a = b))))
  | _ => none
section
variable {X : Cx}
theorem opd_isB : OpR X (compareOp .Is) (r2G X.K gIsB) := opImp op_isBl fun x y H Q ⟨σ, F, ds, rv, fh, h, e, k⟩ => by
  obtain ⟨dx, dy, rfl, hx, hy⟩ := rd2 h
  cases hx <;> cases hy <;> simp only [gIsB] at e <;> first | (cases e; done) | skip
  cases e
  exact ⟨_, _, rfl, rfl, k.atom (X := X) fh (.bl _)⟩
theorem opd_notB : OpR X (compareOp .IsNot) (r2G X.K gNotB) := opImp op_notBl fun x y H Q ⟨σ, F, ds, rv, fh, h, e, k⟩ => by
  obtain ⟨dx, dy, rfl, hx, hy⟩ := rd2 h
  cases hx <;> cases hy <;> simp only [gNotB] at e <;> first | (cases e; done) | skip
  cases e
  exact ⟨_, _, rfl, rfl, k.atom (X := X) fh (.bl _)⟩
end
end DX

namespace DX
open PySem PySem.Spec L2
open PyProof.Rows hiding St

def key1 : D → Option Key
  | .int i => some (.inl i)
  | .str s => some (.inr s)
  | _ => none
def keyT : D → Option (List Key)
  | .tup ds => (asStrs ds).map fun zs => zs.map Sum.inr
  | _ => none
section kv
variable {κ : Type} [DecidableEq κ]
def valD (kvs : List (κ × D)) (k : κ) : Option D := (kvs.find? fun kv => decide (kv.1 = k)).map (·.2)
def putD (kvs : List (κ × D)) (k : κ) (d : D) : List (κ × D) := if (kvs.any fun kv => decide (kv.1 = k)) = true then kvs.map (fun kv => if kv.1 = k then (kv.1, d) else kv) else kvs ++ [(k, d)]
variable {K : PySem.W.Frag} {F : Hp}
theorem RepKs.nil : RepKs K F ([] : List (κ × V)) [] := ⟨rfl, fun i v x a => by simp at a⟩
theorem RepKs.cons {p : κ × V} {q : κ × D} {vs : List (κ × V)} {ds : List (κ × D)} (e : p.1 = q.1) (r : Rep K F p.2 q.2) (h : RepKs K F vs ds) : RepKs K F (p :: vs) (q :: ds) :=
  ⟨by simp [e, h.1], fun i v x a b => by
    cases i with
    | zero => cases a; cases b; exact r
    | succ i => exact h.2 i v x (by simpa using a) (by simpa using b)⟩
theorem RepKs.inv {p : κ × V} {vs : List (κ × V)} {ds : List (κ × D)} (h : RepKs K F (p :: vs) ds) : ∃ q ds', ds = q :: ds' ∧ p.1 = q.1 ∧ Rep K F p.2 q.2 ∧ RepKs K F vs ds' := by
  cases ds with
  | nil => have := h.1; simp at this
  | cons q ds =>
    have e := h.1
    simp only [List.map_cons, List.cons.injEq] at e
    exact ⟨q, ds, rfl, e.1, h.2 0 p q rfl rfl, e.2, fun i v x a b => h.2 (i + 1) v x (by simpa using a) (by simpa using b)⟩
theorem RepKs.inv0 {ds : List (κ × D)} (h : RepKs K F ([] : List (κ × V)) ds) : ds = [] := by
  cases ds with
  | nil => rfl
  | cons q ds => have := h.1; simp at this
theorem RepKs.len {vs : List (κ × V)} {ds : List (κ × D)} (h : RepKs K F vs ds) : vs.length = ds.length := by
  have := congrArg List.length h.1; simpa using this
theorem val_rep (k : κ) : ∀ {vs : List (κ × V)} {ds : List (κ × D)}, RepKs K F vs ds → (∀ d, valD ds k = some d → ∃ v, valV vs k = some v ∧ Rep K F v d) ∧ (valD ds k = none → valV vs k = none)
  | [], ds, h => by cases h.inv0; exact ⟨fun d e => (by cases e), fun _ => rfl⟩
  | p :: vs, ds, h => by
    obtain ⟨q, ds', rfl, e, r, h'⟩ := h.inv
    have ih := val_rep k h'
    simp only [valD, valV, List.find?_cons, e] at ih ⊢
    by_cases hk : q.1 = k
    · simp only [hk, decide_true]
      exact ⟨fun d e => ⟨p.2, rfl, by cases e; exact r⟩, fun e => by cases e⟩
    · simp only [hk, decide_false]
      exact ih
theorem any_rep (k : κ) : ∀ {vs : List (κ × V)} {ds : List (κ × D)}, RepKs K F vs ds → (vs.any fun kv => decide (kv.1 = k)) = (ds.any fun kv => decide (kv.1 = k))
  | [], ds, h => by cases h.inv0; rfl
  | p :: vs, ds, h => by
    obtain ⟨q, ds', rfl, e, r, h'⟩ := h.inv
    rw [List.any_cons, List.any_cons, any_rep k h', e]
theorem map_rep (k : κ) {v : V} {d : D} (r0 : Rep K F v d) : ∀ {vs : List (κ × V)} {ds : List (κ × D)}, RepKs K F vs ds → RepKs K F (vs.map fun kv => if kv.1 = k then (kv.1, v) else kv) (ds.map fun kv => if kv.1 = k then (kv.1, d) else kv)
  | [], ds, h => by cases h.inv0; exact .nil
  | p :: vs, ds, h => by
    obtain ⟨q, ds', rfl, e, r, h'⟩ := h.inv
    rw [List.map_cons, List.map_cons]
    refine .cons ?_ ?_ (map_rep k r0 h')
    · by_cases hk : q.1 = k <;> simp [e, hk]
    · by_cases hk : q.1 = k
      · simp only [e, hk, if_true]; exact r0
      · simp only [e, hk, if_false]; exact r
theorem snoc_rep (k : κ) {v : V} {d : D} (r0 : Rep K F v d) : ∀ {vs : List (κ × V)} {ds : List (κ × D)}, RepKs K F vs ds → RepKs K F (vs ++ [(k, v)]) (ds ++ [(k, d)])
  | [], ds, h => by cases h.inv0; exact .cons rfl r0 .nil
  | p :: vs, ds, h => by
    obtain ⟨q, ds', rfl, e, r, h'⟩ := h.inv
    exact .cons e r (snoc_rep k r0 h')
theorem put_rep (k : κ) {v : V} {d : D} (r0 : Rep K F v d) {vs : List (κ × V)} {ds : List (κ × D)} (h : RepKs K F vs ds) : RepKs K F (putK vs k v) (putD ds k d) := by
  unfold putK putD
  rw [any_rep k h]
  split
  · exact map_rep k r0 h
  · exact snoc_rep k r0 h
end kv
theorem key1_v {K : PySem.W.Frag} {H F : Hp} {y : V} {d : D} {k : Key} (h : RepH K H F y d) (e : key1 d = some k) : y = kV k := by
  cases h <;> cases e <;> rfl
theorem keyT_v {K : PySem.W.Frag} {H F : Hp} {y : V} {d : D} {k : List Key} (h : RepH K H F y d) (e : keyT d = some k) : ∃ b, y = .ref b ∧ H b = some (.tup (k.map kV)) := by
  cases h with
  | @tup a vs xs h hk hi =>
    simp only [keyT] at e
    cases q : asStrs xs with
    | none => rw [q] at e; cases e
    | some zs =>
      rw [q] at e
      cases e
      have e2 := asStrs_map q
      subst e2
      have ev := reps_str zs vs hi
      subst ev
      rcases hk with hk | ⟨n, hn⟩
      · refine ⟨a, rfl, ?_⟩
        rw [hk, List.map_map]
        rfl
      · simp at hn
  | _ => cases e
def gDGet : List D → Option Val
  | [.dK kvs, y] => (key1 y).bind fun k => (valD kvs k).map .fz
  | [.dT kvs, y] => (keyT y).bind fun k => (valD kvs k).map .fz
  | _ => none
def gDIn (neg : Bool) : List D → Option Val
  | [y, .dK kvs] => (key1 y).map fun k => .fz (.bl (if neg then !(valD kvs k).isSome else (valD kvs k).isSome))
  | [y, .dT kvs] => (keyT y).map fun k => .fz (.bl (if neg then !(valD kvs k).isSome else (valD kvs k).isSome))
  | _ => none
section
variable {X : Cx} {W : WX} {R : Hp} {P : List (Option V)} {a b : Expr} {ma mb : DEnv → ER} {pos : Pos}
theorem dget_imp {x y : V} {H : Hp} {Q : VK} (h : r2G X.K gDGet x y H Q) : ∃ a v, x = .ref a ∧ DGet H a y (some v) ∧ Q v H := by
  obtain ⟨σ, F, ds, rv, fh, h, e, k⟩ := h
  obtain ⟨dx, dy, rfl, hx, hy⟩ := rd2 h
  unfold gDGet at e
  split at e
  · rename_i kvs y0 z
    cases z
    cases ek : key1 dy with
    | none => rw [ek] at e; cases e
    | some kk =>
      rw [ek] at e
      cases hx with
      | dK ha hi =>
        cases ev : valD kvs kk with
        | none => rw [Option.bind_some, ev] at e; cases e
        | some d =>
          rw [Option.bind_some, ev] at e
          cases e
          obtain ⟨v, e1, r⟩ := (val_rep kk hi).1 d ev
          exact ⟨_, v, rfl, .inl ⟨_, kk, ha, key1_v hy ek, e1.symm⟩, k.atom (X := X) fh r⟩
  · rename_i kvs y0 z
    cases z
    cases ek : keyT dy with
    | none => rw [ek] at e; cases e
    | some kk =>
      rw [ek] at e
      cases hx with
      | dT ha hi =>
        cases ev : valD kvs kk with
        | none => rw [Option.bind_some, ev] at e; cases e
        | some d =>
          rw [Option.bind_some, ev] at e
          cases e
          obtain ⟨v, e1, r⟩ := (val_rep kk hi).1 d ev
          obtain ⟨b, eb, hb⟩ := keyT_v hy ek
          exact ⟨_, v, rfl, .inr ⟨_, kk, b, ha, eb, hb, e1.symm⟩, k.atom (X := X) fh r⟩
  · cases e
theorem me_dget (hu : X.A.units + 64 < cLine) (ha : ME X W R P a ma) (hb : ME X W R P b mb) (hs : NoSl b := by exact fun _ _ => rfl) : ME X W R P (.Subscript a b pos) (dPrim gDGet [ma, mb]) := fun G H F σ env L Q I h =>
  w_of (pe_dget (Nat.lt_of_le_of_lt (Nat.add_le_add_left (by decide) _) hu) pe_w pe_w hs) (tW_mono (two ha hb I h) fun x H1 h => tW_mono h fun y H2 h => dget_imp h)
theorem din_imp {neg : Bool} {x y : V} {H : Hp} {Q : VK} (h : r2G X.K (gDIn neg) x y H Q) : ∃ a o, y = .ref a ∧ DGet H a x o ∧ Q (.bl (if neg then !o.isSome else o.isSome)) H := by
  obtain ⟨σ, F, ds, rv, fh, h, e, k⟩ := h
  obtain ⟨dx, dy, rfl, hx, hy⟩ := rd2 h
  unfold gDIn at e
  have some_eq : ∀ {κ : Type} [DecidableEq κ] {vs : List (κ × V)} {kvs : List (κ × D)} (kk : κ), RepKs X.K F vs kvs → (valV vs kk).isSome = (valD kvs kk).isSome := fun kk hi => by
    cases ev : valD _ kk with
    | none => rw [(val_rep kk hi).2 ev]; rfl
    | some d => obtain ⟨v, e1, _⟩ := (val_rep kk hi).1 d ev; rw [e1]; rfl
  split at e
  · rename_i y0 kvs z
    cases z
    cases ek : key1 dx with
    | none => rw [ek] at e; cases e
    | some kk =>
      rw [ek] at e
      cases e
      cases hy with
      | dK ha hi =>
        refine ⟨_, _, rfl, .inl ⟨_, kk, ha, key1_v hx ek, rfl⟩, ?_⟩
        rw [some_eq kk hi]
        exact k.atom (X := X) fh (.bl _)
  · rename_i y0 kvs z
    cases z
    cases ek : keyT dx with
    | none => rw [ek] at e; cases e
    | some kk =>
      rw [ek] at e
      cases e
      cases hy with
      | dT ha hi =>
        obtain ⟨b, eb, hb⟩ := keyT_v hx ek
        refine ⟨_, _, rfl, .inr ⟨_, kk, b, ha, eb, hb, rfl⟩, ?_⟩
        rw [some_eq kk hi]
        exact k.atom (X := X) fh (.bl _)
  · cases e
theorem units1 (hu : X.A.units + 64 < cLine) : X.A.units + 1 < cLine := Nat.lt_of_le_of_lt (Nat.add_le_add_left (by decide) _) hu
theorem me_din (hu : X.A.units + 64 < cLine) (ha : ME X W R P a ma) (hb : ME X W R P b mb) (hm : behindInMarks .In b = false := by rfl) : ME X W R P (.Compare a [.In] [b] pos) (dPrim (gDIn false) [ma, mb]) := fun G H F σ env L Q I h =>
  w_of (pe_cmp (pc_din (units1 hu) pe_w pe_w) hm) (tW_mono (two ha hb I h) fun x H1 h => tW_mono h fun y H2 h => din_imp h)
theorem mt_din (hu : X.A.units + 64 < cLine) (ha : ME X W R P a ma) (hb : ME X W R P b mb) (hm : behindInMarks .In b = false := by rfl) : MT X W R P (.Compare a [.In] [b] pos) (dTst (dPrim (gDIn false) [ma, mb])) := fun G H F σ env L Q I h =>
  wt_of (pt_cmp (pc_din (units1 hu) pe_w pe_w) hm) (tW_mono (two ha hb I (tst_post h)) fun x H1 h => tW_mono h fun y H2 h => din_imp h)
theorem me_dnin (hu : X.A.units + 64 < cLine) (ha : ME X W R P a ma) (hb : ME X W R P b mb) (hm : behindInMarks .NotIn b = false := by rfl) : ME X W R P (.Compare a [.NotIn] [b] pos) (dPrim (gDIn true) [ma, mb]) := fun G H F σ env L Q I h =>
  w_of (pe_cmp (pc_dnotin (units1 hu) pe_w pe_w) hm) (tW_mono (two ha hb I h) fun x H1 h => tW_mono h fun y H2 h => din_imp h)
theorem mt_dnin (hu : X.A.units + 64 < cLine) (ha : ME X W R P a ma) (hb : ME X W R P b mb) (hm : behindInMarks .NotIn b = false := by rfl) : MT X W R P (.Compare a [.NotIn] [b] pos) (dTst (dPrim (gDIn true) [ma, mb])) := fun G H F σ env L Q I h =>
  wt_of (pt_cmp (pc_dnotin (units1 hu) pe_w pe_w) hm) (tW_mono (two ha hb I (tst_post h)) fun x H1 h => tW_mono h fun y H2 h => din_imp h)
def dNewK : DEnv → ER := fun env => .ok (.tmp (.dK [])) env
def dNewT : DEnv → ER := fun env => .ok (.tmp (.dT [])) env
theorem new_post {G H F : Hp} {σ : St} {env : DEnv} {L : List Addr} {Q : VK} {d : D} {o : HO} {p : Addr} (I : FI X.K R P G H F σ env L) (q : POk X R P G F σ (.tmp d) env Q) (n : H p = none) (r : RepO X.K (upd H p o) F (.ref p) d [p]) : Q (.ref p) (upd H p o) :=
  GivesV.own (X := X) I.fh (gives_of I q) n r
theorem me_dnewK : ME X W R P (.Dict [] [] pos) dNewK := fun G H F σ env L Q I q => w_of pe_dnewK fun p n => new_post I q n (.dK upd_same .nil)
theorem me_dnewT : ME X W R P (.Dict [] [] pos) dNewT := fun G H F σ env L Q I q => w_of pe_dnewT fun p n => new_post I q n (.dT upd_same .nil)
end
end DX

namespace DX
open PySem PySem.Spec L2
open PyProof.Rows hiding St

def putD1 (d : D) (key : D) : D → Option D
  | .dK kvs => (key1 key).bind fun k => if kvs.length < sizeLine then some (.dK (putD kvs k d)) else none
  | .dT kvs => (keyT key).bind fun k => if kvs.length < sizeLine then some (.dT (putD kvs k d)) else none
  | _ => none
/-- d[key] = .. -/
def gPut (i : Nat) (mi : DEnv → ER) : D → DEnv → Option DEnv := fun d env => match env[i]? with
  | some (.v _ _) => match mi env with
    | .ok rv e1 => match rdV e1 rv with
      | some key => match e1[i]? with
        | some (.v .ow dd) => (putD1 d key dd).map fun x => e1.set i (.v .ow x)
        | some (.v .io dd) => (putD1 d key dd).map fun x => e1.set i (.v .io x)
        | _ => none
      | none => none
    | _ => none
  | _ => none
section
variable {X : Cx} {W : WX} {R : Hp} {P : List (Option V)} {pos : Pos}
theorem mg_put {i : Nat} {x : Str} {ix : Expr} {mi : DEnv → ER} {xp : Pos} (hu : X.A.units + 64 < cLine) (hi : ME X W R P ix mi) (hN : X.N[i]? = some x := by rfl) (hv : Vis X.env.scope x := by first | exact Or.inl rfl | exact Or.inr (Or.inl rfl) | exact Or.inr (Or.inr rfl))
    (hd : (x == ("__debug__" : Str)) = false := by decide) (hcd : (x == ("__classdict__" : Str)) = false := by decide)
    (ha : ∀ v, assign (.Subscript (.Name x xp) ix pos) X.env v = (do
      let ov ← holding [v] (eval (.Name x xp) X.env)
      let iv ← holding [v, ov] (eval ix X.env)
      standAt pos
      holding [v, ov, iv] (setItem ov iv v)
      release [v, ov, iv] []) := by intro _; rfl) : MG X R P (.Subscript (.Name x xp) ix pos) (gPut i mi) := by
  intro G H F σ env env' L v d k I r e q
  refine wg_of (pg_sub (pe_var hN hv hd hcd) pe_w (set_dict (units1 hu)) ha) ?_
  unfold gPut at e
  cases e0 : env[i]? with
  | none => rw [e0] at e; cases e
  | some s0 =>
    rw [e0] at e
    cases s0 with
    | un => cases e
    | pin => cases e
    | v m d0 =>
      dsimp only at e
      obtain ⟨u, e1, r1⟩ := I.er.get (I.rg.trans I.gh) I.fh e0
      refine ⟨u, e1, me_run hi I ?_⟩
      cases em : mi env with
      | err => rw [em] at e; cases e
      | raise c env1 => rw [em] at e; cases e
      | ok rv env1 =>
        rw [em] at e
        intro y H' F' L' Lr I' s n r' nd fr
        dsimp only at e
        cases ek : rdV env1 rv with
        | none => rw [ek] at e; cases e
        | some key =>
          rw [ek] at e
          dsimp only at e
          have rk := rdV_ok I' r' ek
          have fin : ∀ {m : Mode} {dd : D}, (m = .ow ∨ m = .io) → env1[i]? = some (.v m dd) → (putD1 d key dd).map (fun x => env1.set i (.v m x)) = some env' → rSetD u y v H' fun H3 => k σ H3 := by
            intro m dd hm e2 e
            cases ep : putD1 d key dd with
            | none => rw [ep] at e; cases e
            | some dd' =>
              rw [ep] at e
              cases e
              obtain ⟨a, ea, ro, put⟩ := I'.mutate hm e2 (by cases dd <;> first | rfl | cases ep)
              rw [e1] at ea
              cases ea
              unfold putD1 at ep
              split at ep
              · rename_i kvs
                cases e3 : key1 key with
                | none => rw [e3] at ep; cases ep
                | some kk =>
                  rw [e3, Option.bind_some] at ep
                  split at ep
                  · rename_i hsz
                    cases ep
                    cases ro with
                    | dK h hi =>
                      obtain ⟨L3, I3⟩ := put _ _ (.dK upd_same (put_rep kk (r.mono s) hi))
                      exact ⟨a, _, rfl, .inl ⟨_, kk, h, key1_v rk e3, by rw [hi.len]; exact hsz, rfl⟩, q σ _ F' L3 I3 s n⟩
                  · cases ep
              · rename_i kvs
                cases e3 : keyT key with
                | none => rw [e3] at ep; cases ep
                | some kk =>
                  rw [e3, Option.bind_some] at ep
                  split at ep
                  · rename_i hsz
                    cases ep
                    cases ro with
                    | dT h hi =>
                      obtain ⟨b, eb, hb⟩ := keyT_v rk e3
                      obtain ⟨L3, I3⟩ := put _ _ (.dT upd_same (put_rep kk (r.mono s) hi))
                      exact ⟨a, _, rfl, .inr ⟨_, kk, b, h, eb, hb, by rw [hi.len]; exact hsz, rfl⟩, q σ _ F' L3 I3 s n⟩
                  · cases ep
              · cases ep
          cases e2 : env1[i]? with
          | none => rw [e2] at e; cases e
          | some s2 =>
            rw [e2] at e
            cases s2 with
            | un => cases e
            | pin => cases e
            | v m d2 =>
              cases m with
              | ow => exact fin (.inl rfl) e2 e
              | io => exact fin (.inr rfl) e2 e
              | fz => cases e
              | rd => cases e
end
end DX

namespace DX
open PySem PySem.Spec L2
open PyProof.Rows hiding St

/-- a dict that won't change any more -/
def dLock (m : DEnv → ER) : DEnv → ER := fun env => match m env with
  | .ok (.tmp (.dK kvs)) e => .ok (.fz (.dK kvs)) e
  | .ok (.tmp (.dT kvs)) e => .ok (.fz (.dT kvs)) e
  | .ok (.br i) e => match e[i]? with
    | some (.v .ow (.dK kvs)) => .ok (.fz (.dK kvs)) (e.set i (.v .fz (.dK kvs)))
    | some (.v .ow (.dT kvs)) => .ok (.fz (.dT kvs)) (e.set i (.v .fz (.dT kvs)))
    | _ => .ok (.br i) e
  | r => r
def tLk (td : TE) : TE := fun σ H Q => td σ H fun x H1 => Q x H1 ∨ ∃ d u, x = .ref d ∧ H1 d = some u ∧ Mut (some u) ∧ ∀ o, Q x (upd H1 d (.frz o u))
section
variable {X : Cx} {W : WX} {R : Hp} {P : List (Option V)} {pos : Pos} {G H F : Hp} {σ : St} {env : DEnv} {L : List Addr} {Q : VK}
theorem pe_lk {e : Expr} {td : TE} (h : PE X e td) : PE X e (tLk td) := ⟨fun pins s σ H Q I q => thn (h.run pins s σ H _ I q) fun v s1 ⟨x, H1, I1, r1, q1⟩ => by
  rcases q1 with q1 | ⟨d, u, rfl, hd, mu, q1⟩
  · exact ⟨x, H1, I1, r1, q1⟩
  · obtain ⟨od, I2⟩ := I1.lock hd mu
    exact ⟨_, _, I2, r1, q1 od⟩⟩
theorem lock_F {a : Addr} {u : HO} {o : Obj} (fh : Same F H) (fa : F a = none) : Same F (upd F a (.frz o u)) ∧ Same (upd F a (.frz o u)) (upd H a (.frz o u)) := by
  refine ⟨fun b w q => by rw [upd_ne (ne_of_none q fa)]; exact q, fun b w q => ?_⟩
  by_cases hb : b = a
  · subst hb; rw [upd_same] at q ⊢; exact q
  · rw [upd_ne hb] at q ⊢; exact fh _ _ q
theorem lock_tmp {a : Addr} {u : HO} {o : Obj} (I : FI X.K R P G H F σ env L) (fa : F a = none) (ga : G a = none) (na : a ∉ L) : FI X.K R P G (upd H a (.frz o u)) (upd F a (.frz o u)) σ env L :=
  ⟨(lock_F I.fh fa).2, fun b w q => by rw [upd_ne (ne_of_none q ga)]; exact I.gh _ _ q, I.rg, I.er.keep (lock_F I.fh fa).1 (fun b hb => upd_ne fun z => na (z ▸ hb)), I.nd, fun b hb => ⟨by rw [upd_ne fun z => na (by rw [← z]; exact hb)]; exact (I.fr b hb).1, (I.fr b hb).2⟩⟩
theorem newF_upd {a : Addr} {w : HO} (ga : G a = none) : NewF G F (upd F a w) := fun b q => by
  by_cases hb : b = a
  · subst hb; exact .inr (.inl ga)
  · rw [upd_ne hb] at q; exact .inl q
theorem me_lock {e : Expr} {m : DEnv → ER} (h : ME X W R P e m) : ME X W R P e (dLock m) := by
  intro G H F σ env L Q I q
  refine w_of (pe_lk pe_w) (me_run h I ?_)
  unfold dLock at q
  cases em : m env with
  | err => rw [em] at q; exact q
  | raise c e => rw [em] at q; exact q
  | ok rv e1 =>
    rw [em] at q
    intro v H' F' L' Lr I' s n r nd fr
    cases rv with
    | fz d => exact .inl (q v H' F' L' Lr I' s n r nd fr)
    | tmp d =>
      cases d with
      | dK kvs =>
        cases r with
        | @dK a vs _ ha hi =>
          have f := fr a (by simp)
          have na : a ∉ L' := fun z => (List.nodup_append.mp nd).2.2 a (by simp) a z rfl
          refine .inr ⟨a, _, rfl, ha, trivial, fun o => ?_⟩
          have hi' := hi.mono (lock_F (u := .dK vs) (o := o) I'.fh f.1).1
          exact q _ _ _ L' [] (lock_tmp I' f.1 f.2 na) (s.trans (lock_F I'.fh f.1).1) (n.trans (newF_upd f.2)) ⟨rfl, .dK ⟨o, upd_same⟩ hi'.1 hi'.2⟩ (by simpa using I'.nd) (fun _ z => nomatch z)
      | dT kvs =>
        cases r with
        | @dT a vs _ ha hi =>
          have f := fr a (by simp)
          have na : a ∉ L' := fun z => (List.nodup_append.mp nd).2.2 a (by simp) a z rfl
          refine .inr ⟨a, _, rfl, ha, trivial, fun o => ?_⟩
          have hi' := hi.mono (lock_F (u := .dT vs) (o := o) I'.fh f.1).1
          exact q _ _ _ L' [] (lock_tmp I' f.1 f.2 na) (s.trans (lock_F I'.fh f.1).1) (n.trans (newF_upd f.2)) ⟨rfl, .dT ⟨o, upd_same⟩ hi'.1 hi'.2⟩ (by simpa using I'.nd) (fun _ z => nomatch z)
      | _ => exact .inl (q v H' F' L' Lr I' s n r nd fr)
    | br i =>
      dsimp only at q
      have keepL : POk X R P G F σ (.br i) e1 Q → (Q v H' ∨ ∃ d u, v = .ref d ∧ H' d = some u ∧ Mut (some u) ∧ ∀ o, Q v (upd H' d (.frz o u))) := fun q => .inl (q v H' F' L' Lr I' s n r nd fr)
      cases es : e1[i]? with
      | none => rw [es] at q; exact keepL q
      | some sl =>
        rw [es] at q
        cases sl with
        | un => exact keepL q
        | pin => exact keepL q
        | v md d =>
          cases md with
          | fz => exact keepL q
          | io => exact keepL q
          | rd => exact keepL q
          | ow =>
            cases d with
            | dK kvs =>
              obtain ⟨u, La, L2', e1', ro, ndA, mem, put⟩ := I'.er.focus I'.nd (.inl rfl) es
              have e2 := r.2
              rw [e1'] at e2
              cases e2
              cases ro with
              | @dK a vs _ ha hi =>
                have inL : a ∈ L' := (mem a).mpr (.inl (by simp))
                have f := I'.fr a inL
                have na : a ∉ L2' := fun z => (List.nodup_append.mp ndA).2.2 a (by simp) a z rfl
                refine .inr ⟨a, _, rfl, ha, trivial, fun o => ?_⟩
                have lf := lock_F (u := .dK vs) (o := o) I'.fh f.1
                have hi' := hi.mono lf.1
                obtain ⟨_, pz, _⟩ := put (upd H' a (.frz o (.dK vs))) (upd F' a (.frz o (.dK vs))) lf.1 fun b hb => upd_ne fun z => na (by rw [← z]; exact hb)
                have rep : Rep X.K (upd F' a (.frz o (.dK vs))) (.ref a) (.dK kvs) := .dK ⟨o, upd_same⟩ hi'.1 hi'.2
                exact q _ _ _ L2' [] ⟨lf.2, fun b w q => by rw [upd_ne (ne_of_none q f.2)]; exact I'.gh _ _ q, I'.rg, pz _ rep, (List.nodup_append.mp ndA).2.1, fun b hb => ⟨by rw [upd_ne fun z => na (by rw [← z]; exact hb)]; exact (I'.fr b ((mem b).mpr (.inr hb))).1, (I'.fr b ((mem b).mpr (.inr hb))).2⟩⟩
                  (s.trans lf.1) (n.trans (newF_upd f.2)) ⟨rfl, rep⟩ (by simpa using (List.nodup_append.mp ndA).2.1) (fun _ z => nomatch z)
            | dT kvs =>
              obtain ⟨u, La, L2', e1', ro, ndA, mem, put⟩ := I'.er.focus I'.nd (.inl rfl) es
              have e2 := r.2
              rw [e1'] at e2
              cases e2
              cases ro with
              | @dT a vs _ ha hi =>
                have inL : a ∈ L' := (mem a).mpr (.inl (by simp))
                have f := I'.fr a inL
                have na : a ∉ L2' := fun z => (List.nodup_append.mp ndA).2.2 a (by simp) a z rfl
                refine .inr ⟨a, _, rfl, ha, trivial, fun o => ?_⟩
                have lf := lock_F (u := .dT vs) (o := o) I'.fh f.1
                have hi' := hi.mono lf.1
                obtain ⟨_, pz, _⟩ := put (upd H' a (.frz o (.dT vs))) (upd F' a (.frz o (.dT vs))) lf.1 fun b hb => upd_ne fun z => na (by rw [← z]; exact hb)
                have rep : Rep X.K (upd F' a (.frz o (.dT vs))) (.ref a) (.dT kvs) := .dT ⟨o, upd_same⟩ hi'.1 hi'.2
                exact q _ _ _ L2' [] ⟨lf.2, fun b w q => by rw [upd_ne (ne_of_none q f.2)]; exact I'.gh _ _ q, I'.rg, pz _ rep, (List.nodup_append.mp ndA).2.1, fun b hb => ⟨by rw [upd_ne fun z => na (by rw [← z]; exact hb)]; exact (I'.fr b ((mem b).mpr (.inr hb))).1, (I'.fr b ((mem b).mpr (.inr hb))).2⟩⟩
                  (s.trans lf.1) (n.trans (newF_upd f.2)) ⟨rfl, rep⟩ (by simpa using (List.nodup_append.mp ndA).2.1) (fun _ z => nomatch z)
            | _ => exact keepL q
end
end DX

namespace DX
open PySem PySem.Spec L2
open PyProof.Rows hiding St

/-! ### places within objects -/
/-- a class of the module, as the top leaves it -/
structure ClsT (K : PySem.W.Frag) (mg : Str → Option Value) (t : ObT) : Prop where
  at_ : ∃ C, PySem.W.nsIn K mainGlobals t.cls = some (some (.ref C)) ∧ mg t.cls = some (.ref C) ∧ Cls K C ∧ ∀ f ∈ t.fields, NoAttr K C f
  nd : t.fields.Nodup
  few : t.fields.length < 1000
/-- the object's part that is owned at a place -/
def getO : List (ObT × Nat) → D → Option D
  | [], d => some d
  | (t, k) :: p, .ob t' ds => if t' = t then match ds[k]? with
    | some (.ow d) => getO p d
    | _ => none else none
  | _ :: _, _ => none
def setO : List (ObT × Nat) → D → D → Option D
  | [], n, _ => some n
  | (t, k) :: p, n, .ob t' ds => if t' = t then match ds[k]? with
    | some (.ow d) => (setO p n d).map fun d' => .ob t' (ds.set k (.ow d'))
    | _ => none else none
  | _ :: _, _, _ => none
/-- from a value along fields to a value -/
inductive WalkP (H : Hp) : V → List (ObT × Nat) → V → Prop
  | nil {v : V} : WalkP H v [] v
  | cons {a C dx : Addr} {t : ObT} {k : Nat} {vs : List (Str × V)} {f : Str} {w u : V} {p : List (ObT × Nat)} (h : H a = some (.ins C dx vs)) (hk : vs[k]? = some (f, w)) (r : WalkP H w p u) : WalkP H (.ref a) ((t, k) :: p) u
theorem WalkP.uniq {H : Hp} {v : V} {p : List (ObT × Nat)} {u u' : V} (h : WalkP H v p u) (h' : WalkP H v p u') : u = u' := by
  induction h with
  | nil => cases h'; rfl
  | cons h hk r ih =>
    cases h' with
    | cons g gk s =>
      rw [h] at g; cases g
      rw [hk] at gk; cases gk
      exact ih s
theorem WalkP.snoc {H : Hp} {a C dx : Addr} {t : ObT} {k : Nat} {vs : List (Str × V)} {f : Str} {v w u : V} {p : List (ObT × Nat)} (h : WalkP H v p u) (eu : u = .ref a) (e : H a = some (.ins C dx vs)) (hk : vs[k]? = some (f, w)) : WalkP H v (p ++ [(t, k)]) w := by
  induction h with
  | nil => subst eu; exact .cons e hk .nil
  | cons h hk' r ih => exact .cons h hk' (ih eu)
theorem WalkP.mono {H H' : Hp} {v u : V} {p : List (ObT × Nat)} (e : Same H H') (h : WalkP H v p u) : WalkP H' v p u := by
  induction h with
  | nil => exact .nil
  | cons h hk r ih => exact .cons (e _ _ h) hk ih
theorem getO_snoc {t : ObT} {k : Nat} {s : D} : ∀ {p : List (ObT × Nat)} {d : D}, getO (p ++ [(t, k)]) d = some s → ∃ ds, getO p d = some (.ob t ds) ∧ ds[k]? = some (.ow s)
  | [], d, h => by
    cases d with
    | ob t' ds =>
      simp only [List.nil_append, getO] at h
      split at h
      · rename_i e; subst e
        split at h
        · rename_i d' hd; simp only [getO, Option.some.injEq] at h; subst h; exact ⟨ds, rfl, hd⟩
        · cases h
      · cases h
    | _ => simp [getO] at h
  | (t', k') :: p, d, h => by
    cases d with
    | ob t2 ds =>
      simp only [List.cons_append, getO] at h ⊢
      split at h
      · rename_i e
        rw [if_pos e]
        split at h
        · rename_i d' hd; exact getO_snoc h
        · cases h
      · cases h
    | _ => simp [getO] at h
/-- a part by its place in a flattened list -/
theorem flat_at {L : List Addr} : ∀ {Ls : List (List Addr)} {i : Nat}, Ls[i]? = some L → Ls.flatten.Perm (L ++ (Ls.eraseIdx i).flatten) ∧ ∀ N, (Ls.set i N).flatten.Perm (N ++ (Ls.eraseIdx i).flatten)
  | [], i, h => by simp at h
  | M :: Ls, 0, h => by simp at h; subst h; exact ⟨by simp, fun N => by simp⟩
  | M :: Ls, i + 1, h => by
    obtain ⟨p, q⟩ := flat_at (Ls := Ls) (i := i) (by simpa using h)
    have sw : ∀ {A B C : List Addr}, (A ++ (B ++ C)).Perm (B ++ (A ++ C)) := fun {A B C} => by
      rw [← List.append_assoc, ← List.append_assoc]; exact List.perm_append_comm.append_right C
    refine ⟨?_, fun N => ?_⟩
    · simp only [List.flatten_cons, List.eraseIdx_cons_succ]; exact (p.append_left M).trans sw
    · simp only [List.set_cons_succ, List.flatten_cons, List.eraseIdx_cons_succ]; exact ((q N).append_left M).trans sw
section
variable {K : PySem.W.Frag} {H F : Hp}
/-- one field of an object -/
theorem ob_at {a : Addr} {t : ObT} {ds : List D} {L : List Addr} (h : RepX K H F false (.ref a) (.ob t ds) L) {k : Nat} {x : D} (e : ds[k]? = some x) :
    ∃ C dx vs f w La Lb, H a = some (.ins C dx vs) ∧ PySem.W.nsIn K mainGlobals t.cls = some (some (.ref C)) ∧ vs.map (·.1) = t.fields.take ds.length ∧ vs.length = ds.length ∧ vs[k]? = some (f, w) ∧ t.fields[k]? = some f ∧ RepX K H F true w x La ∧ L.Perm (La ++ Lb) ∧ a ∈ Lb ∧
      ∀ {H' F' : Hp} {n : D} {Ln : List Addr}, Same F F' → (∀ b ∈ Lb, H' b = H b) → RepX K H' F' true w n Ln → ∃ L', RepX K H' F' false (.ref a) (.ob t (ds.set k n)) L' ∧ L'.Perm (Ln ++ Lb) := by
  cases h with
  | @ob _ dx C _ vs _ Ls h hd hc hn hk hl hi =>
    have kl : k < ds.length := (List.getElem?_eq_some_iff.1 e).1
    have kv : k < vs.length := by omega
    have ks : k < Ls.length := by omega
    have e1 := List.getElem?_eq_getElem kv
    have e2 := List.getElem?_eq_getElem ks
    have r := hi k _ _ _ e1 e e2
    obtain ⟨p1, p2⟩ := flat_at e2
    have hf : t.fields[k]? = some (vs[k]).1 := by
      have := congrArg (·[k]?) hn
      simp only [List.getElem?_map, e1, Option.map_some, List.getElem?_take, kl, if_true] at this
      exact this.symm
    have sw : ∀ {x y : Addr} {A B : List Addr}, (x :: y :: (A ++ B)).Perm (A ++ x :: y :: B) := fun {x y A B} =>
      ((List.perm_middle (a := y) (l₁ := A) (l₂ := B)).symm.cons x).trans List.perm_middle.symm
    refine ⟨C, dx, vs, (vs[k]).1, (vs[k]).2, Ls[k], a :: dx :: (Ls.eraseIdx k).flatten, h, hc, hn, hk, e1, hf, r, ((p1.cons dx).cons a).trans sw, List.mem_cons_self, fun {H' F' n Ln} ff keep rn => ?_⟩
    refine ⟨a :: dx :: (Ls.set k Ln).flatten, .ob ((keep _ List.mem_cons_self).trans h) ((keep _ (by simp)).trans hd) hc (by rw [List.length_set]; exact hn) (by rw [List.length_set]; exact hk) (by rw [List.length_set]; exact hl) fun i v x Li a1 a2 a3 => ?_, (((p2 Ln).cons dx).cons a).trans sw⟩
    by_cases hik : k = i
    · subst hik
      rw [List.getElem?_set_self (by omega)] at a2 a3
      cases a2; cases a3
      rw [e1] at a1; cases a1
      exact rn
    · rw [List.getElem?_set_ne hik] at a2 a3
      refine (hi i v x Li a1 a2 a3).keep (fun b hb => keep b ?_) ff
      refine List.mem_cons_of_mem _ (List.mem_cons_of_mem _ (List.mem_flatten.2 ⟨Li, ?_, hb⟩))
      obtain ⟨hi', ee⟩ := List.getElem?_eq_some_iff.1 a3
      subst ee
      rw [List.mem_eraseIdx_iff_getElem]
      exact ⟨i, hi', fun z => hik z.symm, rfl⟩
/-- the place's object, and how another one is put there -/
theorem lens : ∀ {p : List (ObT × Nat)} {d s : D} {v : V} {L : List Addr}, RepX K H F false v d L → getO p d = some s → ∃ u La Lb, WalkP H v p u ∧ RepX K H F false u s La ∧ L.Perm (La ++ Lb) ∧
      ∀ {H' F' : Hp} {n : D} {Ln : List Addr}, Same F F' → (∀ a ∈ Lb, H' a = H a) → RepX K H' F' false u n Ln → ∃ d' L', setO p n d = some d' ∧ RepX K H' F' false v d' L' ∧ L'.Perm (Ln ++ Lb)
  | [], d, s, v, L, h, e => by
    cases e
    exact ⟨v, L, [], .nil, h, by simp, fun {H' F' n Ln} _ _ r => ⟨n, Ln, rfl, r, by simp⟩⟩
  | (t, k) :: p, d, s, v, L, h, e => by
    cases d with
    | ob t' ds =>
      simp only [getO] at e
      split at e
      · rename_i et
        subst et
        split at e
        · rename_i d' hd
          obtain ⟨a, rfl⟩ : ∃ a, v = .ref a := by cases h; exact ⟨_, rfl⟩
          obtain ⟨C, dx, vs, f, w, La, Lb, h1, h2, h3, h4, h5, h6, r, pm, ha, put⟩ := ob_at h hd
          cases r with
          | pf q => cases q
          | po r =>
          obtain ⟨u, Lc, Ld, w1, r1, pm1, put1⟩ := lens r e
          refine ⟨u, Lc, Ld ++ Lb, .cons h1 h5 w1, r1, ?_, fun {H' F' n Ln} ff keep rn => ?_⟩
          · have := pm.trans (pm1.append_right Lb); rwa [List.append_assoc] at this
          · obtain ⟨d2, L2, e2, r2, pm2⟩ := put1 ff (fun a ha => keep a (List.mem_append_left _ ha)) rn
            obtain ⟨L3, r3, pm3⟩ := put ff (fun a ha => keep a (List.mem_append_right _ ha)) (.po r2)
            refine ⟨.ob t' (ds.set k (.ow d2)), L3, ?_, r3, ?_⟩
            · simp only [setO, if_true, hd, e2, Option.map_some]
            · have := pm3.trans (pm2.append_right Lb); rwa [List.append_assoc] at this
        · cases e
      · cases e
    | _ => cases e
end
theorem lookup_at : ∀ {vs : List (Str × V)} {k : Nat} {f : Str} {w : V}, (vs.map (·.1)).Nodup → vs[k]? = some (f, w) → vs.lookup f = some w
  | [], k, f, w, _, h => by simp at h
  | (g, x) :: vs, 0, f, w, _, h => by simp at h; obtain ⟨rfl, rfl⟩ := h; simp
  | (g, x) :: vs, k + 1, f, w, nd, h => by
    simp only [List.map_cons, List.nodup_cons] at nd
    have h' : vs[k]? = some (f, w) := by simpa using h
    have hm : f ∈ vs.map (·.1) := List.mem_map.2 ⟨(f, w), List.mem_of_getElem? h', rfl⟩
    have ne : (f == g) = false := by
      rw [beq_eq_false_iff_ne]
      intro z; subst z; exact nd.1 hm
    rw [List.lookup_cons, ne]
    exact lookup_at nd.2 h'
section
variable {X : Cx} {W : WX} {R : Hp} {P : List (Option V)} {pos : Pos} {G H F : Hp} {σ : St} {env : DEnv} {L : List Addr}
/-- a slot's object, as it is to be read -/
theorem slot_read (I : FI X.K R P G H F σ env L) {i : Nat} {m : Mode} {d : D} (e : env[i]? = some (.v m d)) : ∃ v, σ[i]? = some (some v) ∧ RepR X.K H F v d := by
  obtain ⟨v, e1, _⟩ := I.er.get (I.rg.trans I.gh) I.fh e
  exact ⟨v, e1, rdA_ok (rv := .br i) (Lr := []) I ⟨rfl, e1⟩ (by simp only [rdA, e])⟩
/-- e is slot i's object, or an owned part of it -/
def PLc (X : Cx) (e : Expr) (i : Nat) (p : List (ObT × Nat)) : Prop :=
  ∀ {R : Hp} {P : List (Option V)} {G H F : Hp} {σ : St} {env : DEnv} {L : List Addr} {m : Mode} {d s : D} {Q : VK}, FI X.K R P G H F σ env L → env[i]? = some (.v m d) → getO p d = some s → (∀ v0 v, σ[i]? = some (some v0) → WalkP H v0 p v → Q v H) → tW X e σ H Q
theorem pl_var {i : Nat} {x : Str} (hN : X.N[i]? = some x := by rfl) (hv : Vis X.env.scope x := by first | exact Or.inl rfl | exact Or.inr (Or.inl rfl) | exact Or.inr (Or.inr rfl))
    (hd : (x == ("__debug__" : Str)) = false := by decide) (hcd : (x == ("__classdict__" : Str)) = false := by decide) : PLc X (.Name x pos) i [] := by
  intro R P G H F σ env L m d s Q I e _ q
  obtain ⟨v, e1, _⟩ := slot_read I e
  exact w_of (pe_var hN hv hd hcd) ⟨v, e1, q v v e1 .nil⟩
theorem repR_ob {K : PySem.W.Frag} {H F : Hp} {v : V} {d s : D} {p : List (ObT × Nat)} (h : RepR K H F v d) (e : getO p d = some s) (hs : rdFl s = none) : ∃ L, RepX K H F false v d L := by
  rcases h with h | h
  · exfalso
    cases p with
    | nil => cases e; cases h <;> cases hs
    | cons q p => cases h <;> simp [getO] at e
  · exact h
/-- what a field of a class holds -/
theorem fld_core {e : Expr} {f : Str} {t : ObT} {k : Nat} {i : Nat} {p : List (ObT × Nat)} (T : ClsT X.K X.mg t) (hf : t.fields[k]? = some f) (h : PLc X e i p) (hb : attributeBase e f X.env (eval e X.env) = eval e X.env) {m : Mode} {d : D} {ds : List D} {x : D} {Q : VK}
    (I : FI X.K R P G H F σ env L) (ei : env[i]? = some (.v m d)) (eo : getO p d = some (.ob t ds)) (ex : ds[k]? = some x) (q : ∀ v0 w La, σ[i]? = some (some v0) → WalkP H v0 (p ++ [(t, k)]) w → RepX X.K H F true w x La → Q w H) : tW X (.Attribute e f pos) σ H Q := by
  refine w_of (pe_fld pe_w hb) ?_
  refine h I ei eo fun v0 v e0 wk => ?_
  obtain ⟨v1, e1, rr⟩ := slot_read I ei
  rw [e0] at e1; cases e1
  obtain ⟨L0, r0⟩ := repR_ob rr eo rfl
  obtain ⟨u, La, Lb, w1, r1, _, _⟩ := lens r0 eo
  have := wk.uniq w1
  subst this
  obtain ⟨a, rfl⟩ : ∃ a, v = .ref a := by cases r1; exact ⟨_, rfl⟩
  obtain ⟨C, dx, vs, f', w, Lc, Ld, h1, h2, h3, h4, h5, h6, r, _, _, _⟩ := ob_at r1 ex
  obtain ⟨C', g1, _, g2, g3⟩ := T.at_
  rw [h2] at g1; cases g1
  rw [hf] at h6; cases h6
  have nd : (vs.map (·.1)).Nodup := by rw [h3]; exact List.Nodup.sublist (List.take_sublist _ _) T.nd
  exact ⟨a, C, dx, vs, w, rfl, h1, g2, g3 f (List.mem_of_getElem? hf), lookup_at nd h5, q v0 w Lc e0 (wk.snoc rfl h1 h5) r⟩
theorem pl_fld {e : Expr} {f : Str} {t : ObT} {k : Nat} {i : Nat} {p : List (ObT × Nat)} (T : ClsT X.K X.mg t) (h : PLc X e i p) (hf : t.fields[k]? = some f := by rfl) (hb : attributeBase e f X.env (eval e X.env) = eval e X.env := by rfl) : PLc X (.Attribute e f pos) i (p ++ [(t, k)]) := by
  intro R P G H F σ env L m d s Q I ei eo q
  obtain ⟨ds, e1, e2⟩ := getO_snoc eo
  exact fld_core T hf h hb I ei e1 e2 fun v0 w La e0 wk _ => q v0 w e0 wk

/-! ### reading without a change: views -/
/-- e is read as it stands; nothing is made, nothing changes -/
def MEV (X : Cx) (R : Hp) (P : List (Option V)) (e : Expr) (m : DEnv → Option D) : Prop :=
  ∀ (G H F : Hp) (σ : St) (env : DEnv) (L : List Addr) (d : D) (Q : VK), FI X.K R P G H F σ env L → m env = some d → (∀ v, RepH X.K H F v d → Q v H) → tW X e σ H Q
def vVar (i : Nat) : DEnv → Option D := fun env => rdV env (.br i)
theorem mev_var {i : Nat} {x : Str} (hN : X.N[i]? = some x := by rfl) (hv : Vis X.env.scope x := by first | exact Or.inl rfl | exact Or.inr (Or.inl rfl) | exact Or.inr (Or.inr rfl))
    (hd : (x == ("__debug__" : Str)) = false := by decide) (hcd : (x == ("__classdict__" : Str)) = false := by decide) : MEV X R P (.Name x pos) (vVar i) := by
  intro G H F σ env L d Q I e q
  dsimp only [vVar, rdV] at e
  cases ei : env[i]? with
  | none => rw [ei] at e; cases e
  | some s =>
    rw [ei] at e
    cases s with
    | un => cases e
    | pin => cases e
    | v m d' =>
      obtain ⟨v, e1, r⟩ := I.er.get (I.rg.trans I.gh) I.fh ei
      exact w_of (pe_var hN hv hd hcd) ⟨v, e1, q v (r _ e)⟩
def vC (d : D) : DEnv → Option D := fun _ => some d
theorem mev_int {i j pos} : MEV X R P (.Constant (.int i) j pos) (vC (.int i)) := fun G H F σ env L d Q I e q => by cases e; exact w_of pe_int (q _ (.int i))
theorem mev_str {x j pos} : MEV X R P (.Constant (.str x) j pos) (vC (.str x)) := fun G H F σ env L d Q I e q => by cases e; exact w_of pe_str (q _ (.str x))
/-- what a field holds, to be read -/
def partFl : D → Option D
  | .ow d => rdFl d
  | d => rdFl d
def vFld (i : Nat) (p : List (ObT × Nat)) (t : ObT) (k : Nat) : DEnv → Option D := fun env => match env[i]? with
  | some (.v _ d) => match getO p d with
    | some (.ob t' ds) => if t' = t then (ds[k]?).bind partFl else none
    | _ => none
  | _ => none
theorem part_read {K : PySem.W.Frag} {H F : Hp} {v : V} {x d : D} {L : List Addr} (fh : Same F H) (h : RepX K H F true v x L) (e : partFl x = some d) : RepH K H F v d := by
  cases h with
  | pf r =>
    have : rdFl x = some d := by cases x <;> first | exact e | cases r
    rw [rdFl_eq this]; exact r.toH fh
  | po r => exact RepO.toH r e
theorem mev_fld {e : Expr} {f : Str} {t : ObT} {k : Nat} {i : Nat} {p : List (ObT × Nat)} (T : ClsT X.K X.mg t) (h : PLc X e i p) (hf : t.fields[k]? = some f := by rfl) (hb : attributeBase e f X.env (eval e X.env) = eval e X.env := by rfl) : MEV X R P (.Attribute e f pos) (vFld i p t k) := by
  intro G H F σ env L d Q I ev q
  unfold vFld at ev
  cases ei : env[i]? with
  | none => rw [ei] at ev; cases ev
  | some s =>
    rw [ei] at ev
    cases s with
    | un => cases ev
    | pin => cases ev
    | v m d' =>
      dsimp only at ev
      split at ev
      · rename_i t' ds eo
        split at ev
        · rename_i et; subst et
          cases ex : ds[k]? with
          | none => rw [ex] at ev; cases ev
          | some x =>
            rw [ex] at ev
            exact fld_core T hf h hb I ei eo ex fun v0 w La _ _ r => q w (part_read I.fh r ev)
        · cases ev
      · cases ev
/-- a field whose value is laid down (or an atom), as a value -/
def dFld (i : Nat) (p : List (ObT × Nat)) (t : ObT) (k : Nat) : DEnv → ER := fun env => match env[i]? with
  | some (.v _ d) => match getO p d with
    | some (.ob t' ds) => if t' = t then match ds[k]? with
      | some (.ow _) => .err
      | some x => .ok (.fz x) env
      | none => .err else .err
    | _ => .err
  | _ => .err
theorem me_fld {e : Expr} {f : Str} {t : ObT} {k : Nat} {i : Nat} {p : List (ObT × Nat)} (T : ClsT X.K X.mg t) (h : PLc X e i p) (hf : t.fields[k]? = some f := by rfl) (hb : attributeBase e f X.env (eval e X.env) = eval e X.env := by rfl) : ME X W R P (.Attribute e f pos) (dFld i p t k) := by
  intro G H F σ env L Q I q
  unfold dFld at q
  cases ei : env[i]? with
  | none => rw [ei] at q; exact q.elim
  | some s =>
    rw [ei] at q
    cases s with
    | un => exact q.elim
    | pin => exact q.elim
    | v m d' =>
      dsimp only at q
      split at q
      · rename_i t' ds eo
        split at q
        · rename_i et; subst et
          cases ex : ds[k]? with
          | none => rw [ex] at q; exact q.elim
          | some x =>
            rw [ex] at q
            refine fld_core T hf h hb I ei eo ex fun v0 w La _ _ r => ?_
            cases r with
            | pf r => cases x <;> first | exact POk.now q I r | cases r
            | po r => exact q.elim
        · exact q.elim
      · exact q.elim

/-! ### arguments, some evaluated, then some that are only read -/
inductive MEVs (X : Cx) (R : Hp) (P : List (Option V)) : List Expr → List (DEnv → Option D) → Prop
  | nil : MEVs X R P [] []
  | cons {e : Expr} {m : DEnv → Option D} {es : List Expr} {ms : List (DEnv → Option D)} (h : MEV X R P e m) (t : MEVs X R P es ms) : MEVs X R P (e :: es) (m :: ms)
def vArgs : List (DEnv → Option D) → DEnv → Option (List D)
  | [], _ => some []
  | m :: ms, env => match m env with
    | some d => match vArgs ms env with
      | some ds => some (d :: ds)
      | none => none
    | none => none
theorem run_views : ∀ {es : List Expr} {ms : List (DEnv → Option D)} {ds : List D} {k : List V → Hp → Prop}, MEVs X R P es ms → FI X.K R P G H F σ env L → vArgs ms env = some ds → (∀ vs, RepHs X.K H F vs ds → k vs H) → tWa X es σ H k
  | _, _, ds, k, .nil, I, e, q => by cases e; exact q [] .nil
  | _, _, ds, k, .cons (e := e0) (m := m) (es := es) (ms := ms) h t, I, e, q => by
    unfold vArgs at e
    cases e1 : m env with
    | none => rw [e1] at e; cases e
    | some d =>
      rw [e1] at e
      cases e2 : vArgs ms env with
      | none => rw [e2] at e; cases e
      | some ds2 =>
        rw [e2] at e; cases e
        exact h G H F σ env L d _ I e1 fun v r => run_views t I e2 fun vs rs => q (v :: vs) (.cons r rs)
/-- a primitive of values of which the last ones are only read -/
def dPrimX (g : List D → Option Val) (ms : List (DEnv → ER)) (vs : List (DEnv → Option D)) : DEnv → ER := fun env => (mArgs ms env).bind fun rvs e1 => match rdVs e1 rvs with
  | some ds => match vArgs vs e1 with
    | some ds' => match g (ds ++ ds') with
      | some rv => .ok rv e1
      | none => .err
    | none => .err
  | none => .err
theorem tWa_app : ∀ {es es' : List Expr} {H : Hp} {k : List V → Hp → Prop}, tWa X es σ H (fun vs H1 => tWa X es' σ H1 fun ws H2 => k (vs ++ ws) H2) → tWa X (es ++ es') σ H k
  | [], es', H, k, h => h
  | e :: es, es', H, k, h => tW_mono (e := e) h fun x H1 h1 => tWa_app (k := fun xs H2 => k (x :: xs) H2) h1
theorem RepHs.app {K : PySem.W.Frag} : ∀ {vs ws : List V} {ds es : List D}, RepHs K H F vs ds → RepHs K H F ws es → RepHs K H F (vs ++ ws) (ds ++ es)
  | _, _, _, _, .nil, h => h
  | _, _, _, _, .cons a t, h => .cons a (t.app h)
theorem run_primX {es es' : List Expr} {ms : List (DEnv → ER)} {ws : List (DEnv → Option D)} {g : List D → Option Val} {Q : VK} (hm : MEs X W R P es ms) (hv : MEVs X R P es' ws) (I : FI X.K R P G H F σ env L) (h : PostV X W R P G F σ (dPrimX g ms ws env) Q) :
    tWa X (es ++ es') σ H (fun vs H' => ∃ F' ds rv, Same F' H' ∧ RepHs X.K H' F' vs ds ∧ g ds = some rv ∧ GivesV X.K H' F' σ rv Q) := by
  refine tWa_app (run_args hm I ?_)
  unfold dPrimX at h
  cases e : mArgs ms env with
  | err => rw [e] at h; exact h
  | raise c env' => rw [e] at h; exact h
  | ok rvs env' =>
    rw [e] at h
    intro vs H' F' L' Lr I' s n hs nd fr
    dsimp only [AR.bind] at h
    cases e2 : rdVs env' rvs with
    | none => rw [e2] at h; exact h.elim
    | some ds =>
      rw [e2] at h
      dsimp only at h
      cases e4 : vArgs ws env' with
      | none => rw [e4] at h; exact h.elim
      | some ds' =>
        rw [e4] at h
        dsimp only at h
        cases e3 : g (ds ++ ds') with
        | none => rw [e3] at h; exact h.elim
        | some rv =>
          rw [e3] at h
          refine run_views hv I' e4 fun us rs => ⟨F', ds ++ ds', rv, I'.fh, (rdVs_ok I' hs e2).app rs, e3, gives_of I' (PostV.later (r := .ok rv env') s n h)⟩
section
variable {a b : Expr} {ma : DEnv → ER} {va vb : DEnv → Option D} {g : List D → Option Val}
theorem twoX {Q : VK} (ha : ME X W R P a ma) (hb : MEV X R P b vb) (I : FI X.K R P G H F σ env L) (h : PostV X W R P G F σ (dPrimX g [ma] [vb] env) Q) : tOp (r2G X.K g) (tW X a) (tW X b) σ H Q := by
  have z := run_primX (.cons ha .nil) (.cons hb .nil) I h
  exact tW_mono (Q := fun x H1 => tW X b σ H1 fun y H2 => _) z fun x H1 h1 => tW_mono h1 fun y H2 ⟨F', ds, rv, a, b, c, d⟩ => ⟨σ, F', ds, rv, a, b, c, d⟩
theorem twoV {Q : VK} (ha : MEV X R P a va) (hb : MEV X R P b vb) (I : FI X.K R P G H F σ env L) (h : PostV X W R P G F σ (dPrimX g [] [va, vb] env) Q) : tOp (r2G X.K g) (tW X a) (tW X b) σ H Q := by
  have z := run_primX (es := []) .nil (.cons ha (.cons hb .nil)) I h
  exact tW_mono (Q := fun x H1 => tW X b σ H1 fun y H2 => _) z fun x H1 h1 => tW_mono h1 fun y H2 ⟨F', ds, rv, a, b, c, d⟩ => ⟨σ, F', ds, rv, a, b, c, d⟩
theorem me_binV {op : Operator} (ho : OpR X (binaryOp op) (r2G X.K g)) (ha : MEV X R P a va) (hb : MEV X R P b vb) : ME X W R P (.BinOp a op b pos) (dPrimX g [] [va, vb]) :=
  fun G H F σ env L Q I h => w_of (pe_op ho pe_w pe_w) (twoV ha hb I h)
theorem me_cmpX {op : CmpOp} (ho : OpR X (compareOp op) (r2G X.K g)) (ha : ME X W R P a ma) (hb : MEV X R P b vb) (hm : behindInMarks op b = false := by first | rfl | exact nomark _) : ME X W R P (.Compare a [op] [b] pos) (dPrimX g [ma] [vb]) :=
  fun G H F σ env L Q I h => w_of (pe_cmpR ho pe_w pe_w hm) (twoX ha hb I h)
theorem mt_cmpX {op : CmpOp} (ho : OpR X (compareOp op) (r2G X.K g)) (ha : ME X W R P a ma) (hb : MEV X R P b vb) (hm : behindInMarks op b = false := by first | rfl | exact nomark _) : MT X W R P (.Compare a [op] [b] pos) (dTst (dPrimX g [ma] [vb])) := by
  intro G H F σ env L Q I q
  exact wt_of (pt_cmpR ho pe_w pe_w hm) (twoX ha hb I (tst_post q))
theorem me_ixV (ho : IxR X (r2G X.K g)) (ha : MEV X R P a va) (hb : MEV X R P b vb) (hs : PlainIx b := by exact fun _ _ => rfl) : ME X W R P (.Subscript a b pos) (dPrimX g [] [va, vb]) :=
  fun G H F σ env L Q I h => w_of (pe_ix ho pe_w pe_w hs) (twoV ha hb I h)
theorem me_callBV {x : Str} {p : Pos} {e : Expr} {id : String} {v : DEnv → Option D} (hc : CallR X (.builtin id) (rG X.K g)) (hg : Gl X x) (hm : X.mg x = none) (hv : bootBuiltins x = some (.builtin id)) (hs : MEV X R P e v) (ha : PA X [e] (tWa X [e]) := by exact pa_cons pe_w pa_nil)
    (hn : x ≠ "__name__" := by decide) (hdb : (x == ("__debug__" : Str)) = false := by decide) (he : starEach [e] X.env = (false, eval e X.env) :: starEach [] X.env := by rfl) (hpl : (backTo pos (starEach [] X.env)).any (·.1) = false := by rfl) :
    ME X W R P (.Call (.Name x p) [e] [] pos) (dPrimX g [] [v]) := fun G H F σ env L Q I h =>
  w_of (pe_callB hc hg hm hv ha hn hdb he hpl) (tWa_mono (run_primX (es := []) .nil (.cons hs .nil) I h) fun vs H1 ⟨F', ds, rv, a, b, c, d⟩ => ⟨σ, F', ds, rv, a, b, c, d⟩)
theorem me_callTyV {x : Str} {p : Pos} {e : Expr} {T : String} {v : DEnv → Option D} (hc : CallR X (.type T) (rG X.K g)) (hg : Gl X x) (hm : X.mg x = none) (hv : bootBuiltins x = some (.type T)) (hs : MEV X R P e v) (ha : PA X [e] (tWa X [e]) := by exact pa_cons pe_w pa_nil)
    (hn : x ≠ "__name__" := by decide) (hdb : (x == ("__debug__" : Str)) = false := by decide) (he : starEach [e] X.env = (false, eval e X.env) :: starEach [] X.env := by rfl) (hpl : (backTo pos (starEach [] X.env)).any (·.1) = false := by rfl) :
    ME X W R P (.Call (.Name x p) [e] [] pos) (dPrimX g [] [v]) := fun G H F σ env L Q I h =>
  w_of (pe_callTy hc hg hm hv ha hn hdb he hpl) (tWa_mono (run_primX (es := []) .nil (.cons hs .nil) I h) fun vs H1 ⟨F', ds, rv, a, b, c, d⟩ => ⟨σ, F', ds, rv, a, b, c, d⟩)
end
end
end DX

namespace DX
open PySem PySem.Spec L2
open PyProof.Rows hiding St

section
variable {X : Cx} {W : WX} {R : Hp} {P : List (Option V)} {pos : Pos} {G H F : Hp} {σ : St} {env : DEnv} {L : List Addr}
/-! ### what is owned within an object is changed -/
/-- the slot's object with another part -/
def putPl (i : Nat) (p : List (ObT × Nat)) (n : D) (env : DEnv) : Option DEnv := match env[i]? with
  | some (.v .ow d) => (setO p n d).map fun d' => env.set i (.v .ow d')
  | some (.v .io d) => (setO p n d).map fun d' => env.set i (.v .io d')
  | _ => none
def getPl (i : Nat) (p : List (ObT × Nat)) (env : DEnv) : Option D := match env[i]? with
  | some (.v .ow d) => getO p d
  | some (.v .io d) => getO p d
  | _ => none
theorem FI.lens {i : Nat} {p : List (ObT × Nat)} {s : D} (I : FI X.K R P G H F σ env L) (e : getPl i p env = some s) : ∃ v0 u La Lb, σ[i]? = some (some v0) ∧ WalkP H v0 p u ∧ RepO X.K H F u s La ∧ L.Perm (La ++ Lb) ∧
    ∀ {H' F' : Hp} {n : D} {Ln : List Addr}, Same F F' → (∀ a ∈ Lb, H' a = H a) → RepO X.K H' F' u n Ln → Ln.Nodup → (∀ a ∈ Ln, a ∉ Lb) → Same F' H' → Same G H' → (∀ a ∈ Lb, F' a = none) → (∀ a ∈ Ln, F' a = none ∧ G a = none) → ∃ env' L', putPl i p n env = some env' ∧ FI X.K R P G H' F' σ env' L' ∧ L'.Perm (Ln ++ Lb) := by
  have core : ∀ {m : Mode} {d : D}, (m = .ow ∨ m = .io) → env[i]? = some (.v m d) → getO p d = some s → (∀ n, putPl i p n env = (setO p n d).map fun d' => env.set i (.v m d')) → ∃ v0 u La Lb, σ[i]? = some (some v0) ∧ WalkP H v0 p u ∧ RepO X.K H F u s La ∧ L.Perm (La ++ Lb) ∧
    ∀ {H' F' : Hp} {n : D} {Ln : List Addr}, Same F F' → (∀ a ∈ Lb, H' a = H a) → RepO X.K H' F' u n Ln → Ln.Nodup → (∀ a ∈ Ln, a ∉ Lb) → Same F' H' → Same G H' → (∀ a ∈ Lb, F' a = none) → (∀ a ∈ Ln, F' a = none ∧ G a = none) → ∃ env' L', putPl i p n env = some env' ∧ FI X.K R P G H' F' σ env' L' ∧ L'.Perm (Ln ++ Lb) := by
    intro m d hm ei eo es
    obtain ⟨v0, La0, L0, e1, ro, pm, I0⟩ := I.take hm ei
    obtain ⟨u, La, Lb, wk, r, pm1, put⟩ := DX.lens ro eo
    have pm2 : L.Perm (La ++ (Lb ++ L0)) := by have := pm.trans (pm1.append_right L0); rwa [List.append_assoc] at this
    refine ⟨v0, u, La, Lb ++ L0, e1, wk, r, pm2, fun {H' F' n Ln} ff keep rn ndn out fh gh fb fn => ?_⟩
    obtain ⟨d', L1, e2, r2, pm3⟩ := put ff (fun a ha => keep a (List.mem_append_left _ ha)) rn
    have er0 := I0.er.keep (H' := H') ff fun a ha => keep a (List.mem_append_right _ ha)
    have hh : (env.set i (holeS m))[i]? = some (holeS m) := List.getElem?_set_self (getElem?_lt ei)
    obtain ⟨L2, er2, pm4⟩ := er0.fill hm hh e1 r2
    rw [List.set_set] at er2
    have pm5 : L2.Perm (Ln ++ (Lb ++ L0)) := by have := pm4.trans (pm3.append_right L0); rwa [List.append_assoc] at this
    refine ⟨env.set i (.v m d'), L2, by rw [es, e2]; rfl, ⟨fh, gh, I.rg, er2, pm5.nodup_iff.2 (List.nodup_append.2 ⟨ndn, (List.nodup_append.1 (pm2.nodup_iff.1 I.nd)).2.1, fun a ha b hb z => out a ha (z ▸ hb)⟩), fun a ha => ?_⟩, pm5⟩
    rcases List.mem_append.1 (pm5.mem_iff.1 ha) with z | z
    · exact fn a z
    · exact ⟨fb a z, (I.fr a (pm2.mem_iff.2 (List.mem_append_right _ z))).2⟩
  unfold getPl at e
  split at e
  · rename_i d ei; exact core (.inl rfl) ei e fun n => by unfold putPl; rw [ei]
  · rename_i d ei; exact core (.inr rfl) ei e fun n => by unfold putPl; rw [ei]
  · cases e
/-- a flat object within is written -/
theorem FI.mutP {i : Nat} {p : List (ObT × Nat)} {s : D} (I : FI X.K R P G H F σ env L) (e : getPl i p env = some s) (hf : rdFl s = some s) : ∃ v0 a, σ[i]? = some (some v0) ∧ WalkP H v0 p (.ref a) ∧ RepO X.K H F (.ref a) s [a] ∧
    ∀ o' n, RepO X.K (upd H a o') F (.ref a) n [a] → ∃ env' L', putPl i p n env = some env' ∧ FI X.K R P G (upd H a o') F σ env' L' := by
  obtain ⟨v0, u, La, Lb, e1, wk, ro, pm, put⟩ := I.lens e
  have one : ∃ a, u = .ref a ∧ La = [a] := by cases ro <;> first | exact ⟨_, rfl, rfl⟩ | cases hf
  obtain ⟨a, rfl, rfl⟩ := one
  have nd := pm.nodup_iff.1 I.nd
  have na : a ∉ Lb := fun z => (List.nodup_append.1 nd).2.2 a (by simp) a z rfl
  have fa := I.fr a (pm.mem_iff.2 (by simp))
  refine ⟨v0, a, e1, wk, ro, fun o' n rn => ?_⟩
  have keep : ∀ {G : Hp}, Same G H → G a = none → Same G (upd H a o') := fun gh n b x q => by rw [upd_ne (ne_of_none q n)]; exact gh _ _ q
  obtain ⟨env', L', q1, q2, _⟩ := put (Same.refl F) (fun b hb => upd_ne fun z => na (by rw [← z]; exact hb)) rn (by simp) (fun b hb => by obtain rfl := List.mem_singleton.1 hb; exact na) (keep I.fh fa.1) (keep I.gh fa.2) (fun b hb => (I.fr b (pm.mem_iff.2 (List.mem_append_right _ hb))).1) (fun b hb => by obtain rfl := List.mem_singleton.1 hb; exact fa)
  exact ⟨env', L', q1, q2⟩

/-! ### still expressions whose value is laid down -/
def MEF (X : Cx) (R : Hp) (P : List (Option V)) (e : Expr) (m : DEnv → Option D) : Prop :=
  ∀ (G H F : Hp) (σ : St) (env : DEnv) (L : List Addr) (d : D) (Q : VK), FI X.K R P G H F σ env L → m env = some d → (∀ v, Rep X.K F v d → Q v H) → tW X e σ H Q
def fVar (i : Nat) : DEnv → Option D := fun env => match env[i]? with
  | some (.v .fz d) => some d
  | _ => none
theorem mef_var {i : Nat} {x : Str} (hN : X.N[i]? = some x := by rfl) (hv : Vis X.env.scope x := by first | exact Or.inl rfl | exact Or.inr (Or.inl rfl) | exact Or.inr (Or.inr rfl))
    (hd : (x == ("__debug__" : Str)) = false := by decide) (hcd : (x == ("__classdict__" : Str)) = false := by decide) : MEF X R P (.Name x pos) (fVar i) := by
  intro G H F σ env L d Q I e q
  unfold fVar at e
  split at e
  · rename_i d' ei
    cases e
    obtain ⟨v, e1, r⟩ := I.er.getFz ei
    exact w_of (pe_var hN hv hd hcd) ⟨v, e1, q v r⟩
  · cases e
inductive MEFs (X : Cx) (R : Hp) (P : List (Option V)) : List Expr → List (DEnv → Option D) → Prop
  | nil : MEFs X R P [] []
  | cons {e : Expr} {m : DEnv → Option D} {es : List Expr} {ms : List (DEnv → Option D)} (h : MEF X R P e m) (t : MEFs X R P es ms) : MEFs X R P (e :: es) (m :: ms)
theorem run_frozen : ∀ {es : List Expr} {ms : List (DEnv → Option D)} {ds : List D} {k : List V → Hp → Prop}, MEFs X R P es ms → FI X.K R P G H F σ env L → vArgs ms env = some ds → (∀ vs, Reps X.K F vs ds → k vs H) → tWa X es σ H k
  | _, _, ds, k, .nil, I, e, q => by cases e; exact q [] .nil
  | _, _, ds, k, .cons (e := e0) (m := m) (es := es) (ms := ms) h t, I, e, q => by
    unfold vArgs at e
    cases e1 : m env with
    | none => rw [e1] at e; cases e
    | some d =>
      rw [e1] at e
      cases e2 : vArgs ms env with
      | none => rw [e2] at e; cases e
      | some ds2 =>
        rw [e2] at e; cases e
        exact h G H F σ env L d _ I e1 fun v r => run_frozen t I e2 fun vs rs => q (v :: vs) (.cons r rs)

/-! ### self.f.append(x), self.f.extend(xs) -/
def dMutP (i : Nat) (p : List (ObT × Nat)) (g : List D → List D → Option (D × List D)) (ms : List (DEnv → Option D)) : DEnv → ER := fun env => match getPl i p env with
  | some (.lst xs) => match vArgs ms env with
    | some ds => match g xs ds with
      | some (r, ys) => match putPl i p (.lst ys) env with
        | some e => .ok (.fz r) e
        | none => .err
      | none => .err
    | none => .err
  | _ => .err
/-- a list's method whose arguments are read -/
def LMutV (K : PySem.W.Frag) (r : V → List V → Hp → VK → Prop) (g : List D → List D → Option (D × List D)) : Prop :=
  ∀ (a : Addr) (xs : List V) (vs : List V) (ds as : List D) (rd : D) (ys : List D) (F H : Hp) (Q : VK), Same F H → H a = some (.lst xs) → Reps K F xs ds → RepHs K H F vs as → g ds as = some (rd, ys) → (∀ v zs, Rep K F v rd → Reps K F zs ys → Q v (upd H a (.lst zs))) → r (.ref a) vs H Q
theorem mutP_core {i : Nat} {p : List (ObT × Nat)} {g : List D → List D → Option (D × List D)} {r : V → List V → Hp → VK → Prop} {e : Expr} {es : List Expr} {ms : List (DEnv → Option D)} {Q : VK} (pl : PLc X e i p) {run : ∀ {env : DEnv} {G H F : Hp} {σ : St} {L : List Addr}, FI X.K R P G H F σ env L → ∀ {ds}, vArgs ms env = some ds → ∀ (a : Addr) (xs : List V) (es' : List D) (rd : D) (ys : List D), H a = some (.lst xs) → Reps X.K F xs es' → g es' ds = some (rd, ys) → (∀ v zs, Rep X.K F v rd → Reps X.K F zs ys → Q v (upd H a (.lst zs))) → tWa X es σ H fun vs H2 => r (.ref a) vs H2 Q}
    (I : FI X.K R P G H F σ env L) (q : PostV X W R P G F σ (dMutP i p g ms env) Q) : tW X e σ H fun v H1 => tyV X.K "list" v H1 ∧ tWa X es σ H1 fun vs H2 => r v vs H2 Q := by
  unfold dMutP at q
  split at q
  · rename_i xs eg
    cases ea : vArgs ms env with
    | none => rw [ea] at q; exact q.elim
    | some ds =>
      rw [ea] at q
      dsimp only at q
      cases e2 : g xs ds with
      | none => rw [e2] at q; exact q.elim
      | some pr =>
        obtain ⟨rd, ys⟩ := pr
        rw [e2] at q
        dsimp only at q
        obtain ⟨v0, a, e1, wk, ro, put⟩ := I.mutP eg rfl
        have slot : ∃ m d, env[i]? = some (.v m d) ∧ getO p d = some (.lst xs) := by
          unfold getPl at eg
          split at eg
          · rename_i d ei; exact ⟨_, d, ei, eg⟩
          · rename_i d ei; exact ⟨_, d, ei, eg⟩
          · cases eg
        obtain ⟨m, d, ei, eo⟩ := slot
        refine pl I ei eo fun v0' v e0 wk' => ?_
        rw [e1] at e0; cases e0
        have := wk'.uniq wk
        subst this
        cases ro with
        | lst h hi =>
          refine ⟨.inl ⟨rfl, _, .inl (.inl h)⟩, run I ea a _ xs rd ys h hi e2 fun v zs rv rz => ?_⟩
          obtain ⟨env', L', q1, I3⟩ := put (.lst zs) (.lst ys) (.lst upd_same rz)
          rw [q1] at q
          exact POk.now q I3 rv
  · exact q.elim
theorem me_mutP {i : Nat} {p : List (ObT × Nat)} {id : String} {name : Str} {g : List D → List D → Option (D × List D)} {r : V → List V → Hp → VK → Prop} {o e : Expr} {es : List Expr} {ms : List (DEnv → Option D)} {apos cpos : Pos} (slot : PySem.Slot "list" name id) (hty : typeOf (.builtin id) = pure (.type "method_descriptor")) (hm : MtR X id r) (hr : LMut X.K r g)
    (pl : PLc X o i p) (hs : MEFs X R P (e :: es) ms) (ha : PA X (e :: es) (tWa X (e :: es)))
    (hbase : attributeBase o name X.env (eval o X.env) = eval o X.env := by rfl)
    (hfew : ((backTo cpos (starEach (e :: es) X.env)).all (fun x => !x.1) && (backToKw cpos (keywordEach [] X.env)).all (fun x => x.1.isSome)
      && decide ((e :: es).length + ([] : List Keyword).length + (if ([] : List Keyword).isEmpty then 0 else 1) < 30)) = true := by rfl)
    (hline : (apos.endLine == cpos.line) = true := by rfl) (hst : starEach (e :: es) X.env = (false, eval e X.env) :: starEach es X.env := by rfl) (hplain : (backTo cpos (starEach es X.env)).any (·.1) = false := by rfl) :
    ME X W R P (.Call (.Attribute o name apos) (e :: es) [] cpos) (dMutP i p g ms) := by
  intro G H F σ env L Q I q
  refine w_of (pe_bm PySem.F.plainAttrs_list slot hty hm pe_w ha hbase hfew hline hst hplain) ?_
  exact mutP_core pl (run := fun I ds ea a xs es' rd ys h hi e k => run_frozen hs I ea fun vs rv => hr a xs vs es' _ rd ys _ _ _ I.fh h hi rv e k) I q
theorem me_mutPV {i : Nat} {p : List (ObT × Nat)} {id : String} {name : Str} {g : List D → List D → Option (D × List D)} {r : V → List V → Hp → VK → Prop} {o e : Expr} {es : List Expr} {ms : List (DEnv → Option D)} {apos cpos : Pos} (slot : PySem.Slot "list" name id) (hty : typeOf (.builtin id) = pure (.type "method_descriptor")) (hm : MtR X id r) (hr : LMutV X.K r g)
    (pl : PLc X o i p) (hs : MEVs X R P (e :: es) ms) (ha : PA X (e :: es) (tWa X (e :: es)))
    (hbase : attributeBase o name X.env (eval o X.env) = eval o X.env := by rfl)
    (hfew : ((backTo cpos (starEach (e :: es) X.env)).all (fun x => !x.1) && (backToKw cpos (keywordEach [] X.env)).all (fun x => x.1.isSome)
      && decide ((e :: es).length + ([] : List Keyword).length + (if ([] : List Keyword).isEmpty then 0 else 1) < 30)) = true := by rfl)
    (hline : (apos.endLine == cpos.line) = true := by rfl) (hst : starEach (e :: es) X.env = (false, eval e X.env) :: starEach es X.env := by rfl) (hplain : (backTo cpos (starEach es X.env)).any (·.1) = false := by rfl) :
    ME X W R P (.Call (.Attribute o name apos) (e :: es) [] cpos) (dMutP i p g ms) := by
  intro G H F σ env L Q I q
  refine w_of (pe_bm PySem.F.plainAttrs_list slot hty hm pe_w ha hbase hfew hline hst hplain) ?_
  exact mutP_core pl (run := fun I ds ea a xs es' rd ys h hi e k => run_views hs I ea fun vs rv => hr a xs vs es' _ rd ys _ _ _ I.fh h hi rv e k) I q
def gExtend : List D → List D → Option (D × List D) := fun xs as => match as with
  | [.lst ys] => if xs.length + ys.length ≤ sizeLine then some (.non, xs ++ ys) else none
  | _ => none
end
end DX

namespace DX
open PySem PySem.Spec L2
open PyProof.Rows hiding St

/-! ### methods -/
section
variable {X : Cx} {CX : CXT} {k : Nat} {f C : Addr} {fd : FuncData} {ps : List Str} {sp : Sp} {E : St → XK} {x m : Str} {p pos apos : Pos} {e o : Expr} {es : List Expr} {ta : TE} {t : TA}
def tMethZ (C : Addr) (m : Str) (sp : Sp) (E : St → XK) (ta : TE) (t : TA) : TE := fun σ H Q => ta σ H fun x H1 => ∃ a dx fs, x = .ref a ∧ H1 a = some (.ins C dx fs) ∧ fs.lookup m = none ∧
  t σ H1 fun vs H2 => sp (x :: vs) H2 Q (E σ)
theorem pe_methZ {pl : Sem Bool} (he : PE X o ta) (c : Cls X.K C) (hm : Meth X.K C m f) (F : FnOk X.prog X.w X.K X.mg X.base CX k f fd ps sp) (hr : Room k X.A) (hb : Binds X.K fd ps []) (hx : ∀ σ, PassesAt CX X σ (E σ)) (ha : PA X (e :: es) t)
    (hst : starEach (e :: es) X.env = (false, eval e X.env) :: starEach es X.env := by rfl) (hpl : (backTo pos (starEach es X.env)).any (·.1) = false := by rfl)
    (ht : eval (.Call (.Attribute o m apos) (e :: es) [] pos) X.env = (do
      let ov ← eval o X.env
      standAt apos.atName
      let (f, first) ← holding [ov] (getMethod ov m pl)
      callWith pos f first (backTo pos (starEach (e :: es) X.env)) (backToKw pos (keywordEach [] X.env))) := by rfl) :
    PE X (.Call (.Attribute o m apos) (e :: es) [] pos) (tMethZ C m sp E ta t) := by
  refine ⟨fun pins s σ H Q I h => ?_⟩
  refine PySem.W.methodCall_KW (pl := pl) (thn (he.run pins s σ H _ I h) fun u s1 ⟨x, H1, I1, rx, a, dx, fs, ex, ea, l, q⟩ => ?_) ht
  subst ex
  obtain rfl : u = Value.ref a := rx
  refine getmeth_ok I1 ea c hm l ?_
  refine PySem.W.callWith_K (first := [.ref a]) (h₀ := X.base) I.ok.mod.kin hm.kp (thn (ha.run pos pins s1 σ H1 _ I1 q) fun us s2 ⟨vs, H2, I2, r, q2⟩ => ⟨I2.kIn, ?_⟩) hst hpl
  exact run_fnS (us := .ref a :: us) (vs := .ref a :: vs) F hr hb (hx σ) I2 (.cons rfl r) q2
theorem pe_methZ0 {pl : Sem Bool} (he : PE X o ta) (c : Cls X.K C) (hm : Meth X.K C m f) (F : FnOk X.prog X.w X.K X.mg X.base CX k f fd ps sp) (hr : Room k X.A) (hb : Binds X.K fd ps []) (hx : ∀ σ, PassesAt CX X σ (E σ))
    (ht : eval (.Call (.Attribute o m apos) [] [] pos) X.env = (do
      let ov ← eval o X.env
      standAt apos.atName
      let (f, first) ← holding [ov] (getMethod ov m pl)
      callWith pos f first (backTo pos (starEach [] X.env)) (backToKw pos (keywordEach [] X.env))) := by rfl) :
    PE X (.Call (.Attribute o m apos) [] [] pos) (tMethZ C m sp E ta tNil) := by
  refine ⟨fun pins s σ H Q I h => ?_⟩
  refine PySem.W.methodCall_KW (pl := pl) (thn (he.run pins s σ H _ I h) fun u s1 ⟨x, H1, I1, rx, a, dx, fs, ex, ea, l, q⟩ => ?_) ht
  subst ex
  obtain rfl : u = Value.ref a := rx
  refine getmeth_ok I1 ea c hm l ?_
  exact PySem.W.callWith_K0 (first := [.ref a]) I1.kIn hm.kp (run_fnS (us := [.ref a]) (vs := [.ref a]) F hr hb (hx σ) I1 (.cons rfl .nil) q)
/-- C(..), what is raised wished for at the slots -/
theorem run_makeZ {pins : List (Addr × Obj)} {σ : St} {H : Hp} {s : Shared} {Q : VK} {us : List Value} {vs : List V} (M : Mk X.K C f) (F : FnOk X.prog X.w X.K X.mg X.base CX k f fd ps sp) (hr : Room (k + 1) X.A) (hb : Binds X.K fd ps [])
    (hx : PassesAt CX X σ (E σ)) (I : Inv X pins σ H s) (r : Vals vs us)
    (h : ∀ x dx, H x = none → H dx = none → dx ≠ x → sp (.ref x :: vs) (upd (upd H dx (.own x)) x (.ins C dx [])) (fun v H2 => v = .non ∧ Q (.ref x) H2) (E σ)) :
    wpAny (model X.prog X.w) X.A (call (.ref C) us) (EP X pins σ Q) X.xe s := by
  have hq := h (s.heap.objs.size + 1) s.heap.objs.size (I.hok.fresh (Nat.le_succ _)) (I.hok.fresh (Nat.le_refl _)) (Nat.ne_of_lt (Nat.lt_succ_self _))
  have I2 := Inv.made (C := C) I
  have r2 : Vals (V.ref (s.heap.objs.size + 1) :: vs) (Value.ref (s.heap.objs.size + 1) :: us) := .cons rfl r
  have hl : (Value.ref (s.heap.objs.size + 1) :: us ++ []).length = ps.length := by
    have e := r2.length
    rw [F.len _ _ _ _ hq] at e
    rw [List.append_nil]
    exact e.symm
  have bd := hb _ (Value.ref (s.heap.objs.size + 1) :: us) I2.kIn hl
  rw [List.append_nil] at bd
  refine wpAny_call (make_map (f := f) I.kIn M.makes M.init (beq_iff_eq.mp M.fn) (codeAny_mono (F.run _ X.stack _ _ ⟨Value.ref (s.heap.objs.size + 1) :: us, []⟩ (Value.ref (s.heap.objs.size + 1) :: us) _ _ (E σ) (hr.make C us [])
    (I2.env0.make C us []) bd r2 hq) fun r s' hq' => ?_))
  cases r with
  | error e => exact hx pins _ _ e s' I2 hq'
  | ok fl =>
    cases fl with
    | ret u =>
      obtain ⟨v, H', I3, rv, ev, q3⟩ := I2.after hq'
      subst ev
      exact ⟨rv, ⟨V.ref (s.heap.objs.size + 1), H', I3, rfl, q3⟩⟩
    | next => exact False.elim hq'
    | brk => exact False.elim hq'
    | cont => exact False.elim hq'
def tMakeZ (C : Addr) (sp : Sp) (E : St → XK) (t : TA) : TE := fun σ H Q => t σ H fun vs H1 => ∀ x dx, H1 x = none → H1 dx = none → dx ≠ x →
  sp (.ref x :: vs) (upd (upd H1 dx (.own x)) x (.ins C dx [])) (fun v H2 => v = .non ∧ Q (.ref x) H2) (E σ)
theorem pe_makeZ (M : Mk X.K C f) (F : FnOk X.prog X.w X.K X.mg X.base CX k f fd ps sp) (hr : Room (k + 1) X.A) (hg : Gl X x) (hm : X.mg x = some (.ref C)) (hb : Binds X.K fd ps []) (hx : ∀ σ, PassesAt CX X σ (E σ))
    (ha : PA X (e :: es) t) (hdb : (x == ("__debug__" : Str)) = false := by decide) (he : starEach (e :: es) X.env = (false, eval e X.env) :: starEach es X.env := by rfl) (hpl : (backTo pos (starEach es X.env)).any (·.1) = false := by rfl) :
    PE X (.Call (.Name x p) (e :: es) [] pos) (tMakeZ C sp E t) := by
  refine ⟨fun pins s σ H Q I h => ?_⟩
  refine wpAny_Call_Name_kw (ld_glob I hg hm ?_ hdb)
  refine PySem.W.callWith_K (h₀ := X.base) I.ok.mod.kin M.kp (thn (ha.run pos pins s σ H _ I h) fun us s1 ⟨vs, H1, I1, r, q⟩ => ⟨I1.kIn, ?_⟩) he hpl
  exact run_makeZ M F hr hb (hx σ) I1 r q
theorem pe_makeZ0 (M : Mk X.K C f) (F : FnOk X.prog X.w X.K X.mg X.base CX k f fd ps sp) (hr : Room (k + 1) X.A) (hg : Gl X x) (hm : X.mg x = some (.ref C)) (hb : Binds X.K fd ps []) (hx : ∀ σ, PassesAt CX X σ (E σ))
    (hdb : (x == ("__debug__" : Str)) = false := by decide) : PE X (.Call (.Name x p) [] [] pos) (tMakeZ C sp E tNil) := by
  refine ⟨fun pins s σ H Q I h => ?_⟩
  refine wpAny_Call_Name_kw (ld_glob I hg hm ?_ hdb)
  exact PySem.W.callWith_K0 I.kIn M.kp (run_makeZ (us := []) M F hr hb (hx σ) I .nil h)
end
/-- a method keeps its promise -/
def FnM (P : Program) (w : World) (K : PySem.W.Frag) (mg : Str → Option Value) (base : Heap) (t : ObT) (m : Str) (k : Nat) (ps : List Str) (sig : List PM) (fn : List D → FnR) : Prop :=
  ∃ (f : Addr) (fd : FuncData) (C : Addr), FnOk P w K mg base (L2.CX P w) k f fd ps (spF K mg sig fn) ∧ PySem.W.nsIn K mainGlobals t.cls = some (some (.ref C)) ∧ Meth K C m f ∧ Binds K fd ps []
/-- the method that makes an instance -/
def FnI (P : Program) (w : World) (K : PySem.W.Frag) (mg : Str → Option Value) (base : Heap) (t : ObT) (k : Nat) (ps : List Str) (sig : List PM) (fn : List D → FnR) : Prop :=
  ∃ (f : Addr) (fd : FuncData) (C : Addr), FnOk P w K mg base (L2.CX P w) k f fd ps (spF K mg (.io :: sig) fn) ∧ PySem.W.nsIn K mainGlobals t.cls = some (some (.ref C)) ∧ Mk K C f ∧ Binds K fd ps []
def dMeth (t : ObT) (i : Nat) (sig : List PM) (f : List D → FnR) (ms : List (DEnv → ER)) : DEnv → ER := fun env => match env[i]? with
  | some (.v _ (.ob t' _)) => if t' = t then (mArgs ms env).bind fun rvs e1 => callV sig f (.br i :: rvs) e1 else .err
  | _ => .err
def mkV (t : ObT) (sig : List PM) (f : List D → FnR) (rvs : List Val) (e1 : DEnv) : ER := match takeA sig rvs e1 with
  | some (ds0, hs, e2) => match fillR ds0 rvs e2 with
    | some ds => match f (.ob t [] :: ds) with
      | .ok (.fz .non) (o :: os) => match putB hs os e2 with
        | some e3 => .ok (.tmp o) e3
        | none => .err
      | _ => .err
    | none => .err
  | none => .err
def dMk (t : ObT) (sig : List PM) (f : List D → FnR) (ms : List (DEnv → ER)) : DEnv → ER := fun env => (mArgs ms env).bind (mkV t sig f)
section
variable {X : Cx} {W : WX} {R : Hp} {P : List (Option V)} {pos : Pos} {G H F : Hp} {σ : St} {env : DEnv} {L : List Addr}
theorem lookup_none {vs : List (Str × V)} {m : Str} (h : m ∉ vs.map (·.1)) : vs.lookup m = none := by
  induction vs with
  | nil => rfl
  | cons q vs ih =>
    obtain ⟨g, x⟩ := q
    simp only [List.map_cons, List.mem_cons, not_or] at h
    have : (m == g) = false := by rw [beq_eq_false_iff_ne]; exact h.1
    rw [List.lookup_cons, this]
    exact ih h.2
/-- the receiver's object -/
theorem recv_ob {t : ObT} {ds : List D} {m : Mode} {i : Nat} {mth : Str} {C : Addr} (I : FI X.K R P G H F σ env L) (ei : env[i]? = some (.v m (.ob t ds))) (hC : PySem.W.nsIn X.K mainGlobals t.cls = some (some (.ref C))) (hm : mth ∉ t.fields) :
    ∃ a dx fs, σ[i]? = some (some (.ref a)) ∧ H a = some (.ins C dx fs) ∧ fs.lookup mth = none := by
  obtain ⟨v, e1, rr⟩ := slot_read I ei
  obtain ⟨L0, r0⟩ := repR_ob (p := []) rr rfl rfl
  cases r0 with
  | @ob a dx C' _ vs _ Ls h hd hc hn hk hl hi =>
    rw [hC] at hc; cases hc
    refine ⟨a, dx, vs, e1, h, lookup_none fun z => hm ?_⟩
    rw [hn] at z
    exact List.mem_of_mem_take z
theorem meth_go {t : ObT} {ds : List D} {md : Mode} {i : Nat} {sig : List PM} {fn : List D → FnR} {es : List Expr} {ms : List (DEnv → ER)} {Q : VK} {a : Addr} (hs : MEs X W R P es ms) (e1 : σ[i]? = some (some (.ref a))) (I : FI X.K R P G H F σ env L)
    (q : PostV X W R P G F σ ((mArgs ms env).bind fun rvs e1 => callV sig fn (.br i :: rvs) e1) Q) : tWa X es σ H fun vs H2 => spF X.K X.mg sig fn (.ref a :: vs) H2 Q (fun cls d H' => W cls d σ H') := by
  refine run_args hs I ?_
  cases em : mArgs ms env with
  | err => rw [em] at q; exact q
  | raise c env' => rw [em] at q; exact q
  | ok rvs env' =>
    rw [em] at q
    intro vs H' F' L' Lr I' s nw hh nd fr
    exact call_ok (rvs := .br i :: rvs) (vs := .ref a :: vs) (Lr := [] ++ Lr) I' (.cons ⟨rfl, e1⟩ hh) nd fr (PostV.later s nw q)
theorem me_meth {t : ObT} {m : Str} {k : Nat} {ps : List Str} {sig : List PM} {fn : List D → FnR} {i : Nat} {x : Str} {xp apos : Pos} {e : Expr} {es : List Expr} {ms : List (DEnv → ER)} (T : ClsT X.K X.mg t) (M : FnM X.prog X.w X.K X.mg X.base t m k ps sig fn) (hr : Room k X.A) (tk : Takes X W)
    (hs : MEs X W R P (e :: es) ms) (ha : PA X (e :: es) (tWa X (e :: es))) (hmf : m ∉ t.fields := by decide) (hN : X.N[i]? = some x := by rfl) (hv : Vis X.env.scope x := by first | exact Or.inl rfl | exact Or.inr (Or.inl rfl) | exact Or.inr (Or.inr rfl))
    (hd : (x == ("__debug__" : Str)) = false := by decide) (hcd : (x == ("__classdict__" : Str)) = false := by decide) {pl : Sem Bool}
    (hst : starEach (e :: es) X.env = (false, eval e X.env) :: starEach es X.env := by rfl) (hpl : (backTo pos (starEach es X.env)).any (·.1) = false := by rfl)
    (ht : eval (.Call (.Attribute (.Name x xp) m apos) (e :: es) [] pos) X.env = (do
      let ov ← eval (.Name x xp) X.env
      standAt apos.atName
      let (f, first) ← holding [ov] (getMethod ov m pl)
      callWith pos f first (backTo pos (starEach (e :: es) X.env)) (backToKw pos (keywordEach [] X.env))) := by rfl) :
    ME X W R P (.Call (.Attribute (.Name x xp) m apos) (e :: es) [] pos) (dMeth t i sig fn ms) := by
  intro G H F σ env L Q I q
  obtain ⟨f, fd, C, FO, hC, hmt, hb⟩ := M
  obtain ⟨C', g1, _, g2, _⟩ := T.at_
  rw [hC] at g1; cases g1
  unfold dMeth at q
  split at q
  · rename_i md t' ds ei
    split at q
    · rename_i et; subst et
      obtain ⟨a, dx, fs, e1, ha1, hl⟩ := recv_ob I ei hC hmf
      refine w_of (pe_methZ (pe_var hN hv hd hcd) g2 hmt FO hr hb (fun σ => passAt tk σ) ha hst hpl ht) ⟨.ref a, e1, a, dx, fs, rfl, ha1, hl, ?_⟩
      exact meth_go (ds := ds) (md := md) (t := t') hs e1 I q
    · exact q.elim
  · exact q.elim
theorem me_meth0 {t : ObT} {m : Str} {k : Nat} {ps : List Str} {sig : List PM} {fn : List D → FnR} {i : Nat} {x : Str} {xp apos : Pos} (T : ClsT X.K X.mg t) (M : FnM X.prog X.w X.K X.mg X.base t m k ps sig fn) (hr : Room k X.A) (tk : Takes X W)
    (hmf : m ∉ t.fields := by decide) (hN : X.N[i]? = some x := by rfl) (hv : Vis X.env.scope x := by first | exact Or.inl rfl | exact Or.inr (Or.inl rfl) | exact Or.inr (Or.inr rfl))
    (hd : (x == ("__debug__" : Str)) = false := by decide) (hcd : (x == ("__classdict__" : Str)) = false := by decide) {pl : Sem Bool}
    (ht : eval (.Call (.Attribute (.Name x xp) m apos) [] [] pos) X.env = (do
      let ov ← eval (.Name x xp) X.env
      standAt apos.atName
      let (f, first) ← holding [ov] (getMethod ov m pl)
      callWith pos f first (backTo pos (starEach [] X.env)) (backToKw pos (keywordEach [] X.env))) := by rfl) :
    ME X W R P (.Call (.Attribute (.Name x xp) m apos) [] [] pos) (dMeth t i sig fn []) := by
  intro G H F σ env L Q I q
  obtain ⟨f, fd, C, FO, hC, hmt, hb⟩ := M
  obtain ⟨C', g1, _, g2, _⟩ := T.at_
  rw [hC] at g1; cases g1
  unfold dMeth at q
  split at q
  · rename_i md t' ds ei
    split at q
    · rename_i et; subst et
      obtain ⟨a, dx, fs, e1, ha1, hl⟩ := recv_ob I ei hC hmf
      refine w_of (pe_methZ0 (pe_var hN hv hd hcd) g2 hmt FO hr hb (fun σ => passAt tk σ) ht) ⟨.ref a, e1, a, dx, fs, rfl, ha1, hl, ?_⟩
      exact meth_go (ds := ds) (md := md) (t := t') (es := []) .nil e1 I q
    · exact q.elim
  · exact q.elim
theorem Tk.heap {K : PySem.W.Frag} {H' : Hp} {ps vs rvs ds hs Lt Lr} (hh : Same H H') (h : Tk K H F σ ps vs rvs ds hs Lt Lr) : Tk K H' F σ ps vs rvs ds hs Lt Lr := by
  have ko : ∀ {v : V} {d : D} {L : List Addr}, RepO K H F v d L → RepO K H' F v d L := fun r => RepX.mono r hh (Same.refl F)
  have kv : ∀ {v : V} {rv : Val} {L : List Addr}, RepVal K H F σ v rv L → RepVal K H' F σ v rv L := fun {v rv L} r => by
    cases rv with
    | fz d => exact r
    | tmp d => exact ko r
    | br i => exact r
  induction h with
  | nil => exact .nil
  | va r t ih => exact .va r ih
  | rd r t ih => exact .rd (kv r) ih
  | ow e r t ih => exact .ow e (ko r) ih
  | io e r t ih => exact .io e (ko r) ih
  | no r t ih => exact .no (ko r) ih
  | mv r t ih => exact .mv (ko r) ih
/-- a new instance, by its __init__'s promise -/
theorem make_ok {t : ObT} {C : Addr} {sig : List PM} {fn : List D → FnR} {rvs : List Val} {vs : List V} {Lr : List Addr} {Q : VK} (hC : PySem.W.nsIn X.K mainGlobals t.cls = some (some (.ref C))) (I : FI X.K R P G H F σ env L) (hs : HeldR X.K H F σ vs rvs Lr) (nd : (Lr ++ L).Nodup) (fr : ∀ a ∈ Lr, F a = none ∧ G a = none)
    (h : PostV X W R P G F σ (mkV t sig fn rvs env) Q) (x dx : Addr) (hx : H x = none) (hdx : H dx = none) (hne : dx ≠ x) :
    spF X.K X.mg (.io :: sig) fn (.ref x :: vs) (upd (upd H dx (.own x)) x (.ins C dx [])) (fun v H2 => v = .non ∧ Q (.ref x) H2) (fun cls d H' => W cls d σ H') := by
  unfold mkV at h
  cases e : takeA sig rvs env with
  | none => rw [e] at h; exact h.elim
  | some p =>
  obtain ⟨ds0, hs0, e2⟩ := p
  rw [e] at h
  dsimp only at h
  cases ef : fillR ds0 rvs e2 with
  | none => rw [ef] at h; exact h.elim
  | some ds =>
  rw [ef] at h
  dsimp only at h
  obtain ⟨F1, L1, Lt, Lq, I1, ff1, nw1, tk, nd1, mem1, loc1, fr1⟩ := take_ok I hs nd fr e
  obtain ⟨m1, m2, m3⟩ := List.nodup_append.1 nd1
  have hx2 : (upd H dx (.own x)) x = none := by rw [upd_ne (Ne.symm hne)]; exact hx
  have hh : Same H (upd (upd H dx (.own x)) x (.ins C dx [])) := (same_upd hdx).trans (same_upd hx2)
  have hX : (upd (upd H dx (.own x)) x (.ins C dx [])) x = some (.ins C dx []) := upd_same
  have hDX : (upd (upd H dx (.own x)) x (.ins C dx [])) dx = some (.own x) := by rw [upd_ne hne, upd_same]
  generalize eH : upd (upd H dx (.own x)) x (.ins C dx []) = Hn at hh hX hDX
  have ntL : ∀ a, a ∈ Lt ∨ a ∈ Lq ∨ a ∈ L1 → (∃ o, H a = some o ∧ NT o) ∧ G a = none := fun a ha => by
    rcases mem1 a ha with z | z
    · exact ⟨hs.there a z, (fr a z).2⟩
    · exact ⟨I.er.sub a z, (I.fr a z).2⟩
  have nx : ∀ a, a ∈ Lt ∨ a ∈ Lq ∨ a ∈ L1 → a ≠ x ∧ a ≠ dx := fun a ha => by
    obtain ⟨⟨o, q, _⟩, _⟩ := ntL a ha
    exact ⟨fun z => (by rw [z, hx] at q; cases q), fun z => (by rw [z, hdx] at q; cases q)⟩
  have gt : ∀ a ∈ x :: dx :: Lt, G a = none := fun a ha => by
    rcases List.mem_cons.1 ha with rfl | ha
    · exact I.gh.free hx
    rcases List.mem_cons.1 ha with rfl | ha
    · exact I.gh.free hdx
    · exact (ntL a (.inl ha)).2
  have ft : ∀ a ∈ x :: dx :: Lt, F1 a = none := fun a ha => by
    rcases List.mem_cons.1 ha with rfl | ha
    · exact I1.fh.free hx
    rcases List.mem_cons.1 ha with rfl | ha
    · exact I1.fh.free hdx
    · exact fr1 a (List.mem_append_left _ ha)
  have outT : ∀ a, a ∈ Lq ∨ a ∈ L1 → a ∉ x :: dx :: Lt := fun a ha z => by
    rcases List.mem_cons.1 z with z | z
    · exact (nx a (.inr ha)).1 z
    rcases List.mem_cons.1 z with z | z
    · exact (nx a (.inr ha)).2 z
    · exact m3 a z a (List.mem_append.2 ha) rfl
  have ndT : (x :: dx :: Lt).Nodup := List.nodup_cons.2 ⟨fun z => by
    rcases List.mem_cons.1 z with z | z
    · exact hne z.symm
    · exact (nx x (.inl z)).1 rfl, List.nodup_cons.2 ⟨fun z => (nx dx (.inl z)).2 rfl, m1⟩⟩
  have I1n : FI X.K R P G Hn F1 σ e2 L1 := I1.ext hh (Same.refl F1) (I1.fh.trans hh) NewF.refl
  have tkn := tk.heap hh
  have gc : Same G (cutG Hn (x :: dx :: Lt)) := fun b o q => by
    rw [cutG_out fun z => by rw [gt b z] at q; cases q]
    exact I1n.gh _ _ q
  have fc : Same F1 (cutG Hn (x :: dx :: Lt)) := fun b o q => by
    rw [cutG_out fun z => by rw [ft b z] at q; cases q]
    exact I1n.fh _ _ q
  obtain ⟨er, l1, l2⟩ := tk_env I1n.er fc (I.rg.trans gc) (fun a ha => cutG_out (outT a (.inr ha))) tkn (ds := ds) (fun a ha => cutG_out (outT a (.inl ha))) ef
  have rob : RepO X.K Hn F1 (.ref x) (.ob t []) [x, dx] := by
    have := RepX.ob (K := X.K) (F := F1) (t := t) (vs := []) (ds := []) (Ls := []) hX hDX hC (by simp) rfl rfl (fun i v x Li a => by simp at a)
    simpa using this
  refine ⟨cutG Hn (x :: dx :: Lt), cutG Hn (x :: dx :: Lt), F1, .ob t [] :: ds, x :: dx :: Lt, by simp [l1], by simp [l2], ⟨I1n.fh, cutG_same, Same.refl _, ?_, ndT, fun a ha => ⟨ft a ha, cutG_in ha⟩⟩, ?_⟩
  · exact EnvR.io (L1 := [x, dx]) (L := Lt) rfl rob er
  · cases er2 : fn (.ob t [] :: ds) with
    | err => rw [er2] at h; exact h.elim
    | raise c os => rw [er2] at h; exact h.elim
    | ok rv os =>
      rw [er2] at h
      intro v H' F' L' Lz J s nw r ndq frq
      split at h
      · rename_i o os' heq
        cases heq
        obtain ⟨_, r⟩ := r
        cases r
        refine ⟨rfl, ?_⟩
        cases ep : putB hs0 os' e2 with
        | none => rw [ep] at h; exact h.elim
        | some e3 =>
          rw [ep] at h
          have k1 : ∀ a ∈ L1, H' a = Hn a ∧ F' a = none := fun a ha => by
            obtain ⟨⟨o, q, nt⟩, _⟩ := ntL a (.inr (.inr ha))
            have q2 := hh _ _ q
            have c : cutG Hn (x :: dx :: Lt) a = some o := by rw [cutG_out (outT a (.inr ha))]; exact q2
            exact ⟨by rw [q2]; exact J.gh _ _ c, nw.out c nt (I1.fr a ha).1⟩
          have jer : EnvR X.K (cutG Hn (x :: dx :: Lt)) H' F' ((V.ref x :: vs).map some) ((V.ref x :: vs).map some) (exS (.io :: sig) (o :: os')) L' := J.er
          cases jer with
          | @io _ v0 _ _ _ La Lb p r' t' =>
            have er2 := I1n.er.keep (H' := H') s fun a ha => (k1 a ha).1
            obtain ⟨L3, er3, Ly, pm, sl⟩ := put_back tkn er2 t' ep
            obtain ⟨j1, j2, j3⟩ := List.nodup_append.1 J.nd
            have jn : ∀ a ∈ La ++ Lb, a ∉ L1 := fun a ha z => by
              obtain ⟨⟨o, q, nt⟩, _⟩ := ntL a (.inr (.inr z))
              have := (J.fr a ha).2
              rw [cutG_out (outT a (.inr z)), hh _ _ q] at this
              cases this
            have J3 : FI X.K R P G H' F' σ e3 L3 := ⟨J.fh, gc.trans J.gh, I.rg, er3, pm.nodup_iff.2 (List.nodup_append.2 ⟨j2.sublist sl, I1.nd, fun a ha b hb z => jn a (List.mem_append_right _ (sl.subset ha)) (z ▸ hb)⟩), fun a ha => by
              rcases List.mem_append.1 (pm.mem_iff.1 ha) with z | z
              · have := J.fr a (List.mem_append_right _ (sl.subset z)); exact ⟨this.1, gc.free this.2⟩
              · exact ⟨(k1 a z).2, (I1.fr a z).2⟩⟩
            refine h (.ref x) H' F' L3 La J3 (ff1.trans s) (nw1.trans (nw.less gc)) r' (List.nodup_append.2 ⟨j1, J3.nd, fun a ha b hb z => ?_⟩) fun a ha => ?_
            · subst z
              rcases List.mem_append.1 (pm.mem_iff.1 hb) with z | z
              · exact j3 a ha a (sl.subset z) rfl
              · exact jn a (List.mem_append_left _ ha) z
            · have := J.fr a (List.mem_append_left _ ha); exact ⟨this.1, gc.free this.2⟩
      · exact h.elim
theorem me_mk0 {t : ObT} {k : Nat} {ps : List Str} {fn : List D → FnR} {x : Str} {p : Pos} (T : ClsT X.K X.mg t) (M : FnI X.prog X.w X.K X.mg X.base t k ps [] fn) (hr : Room (k + 1) X.A) (tk : Takes X W) (hx : t.cls = x := by rfl)
    (hg : Gl X x := by rfl) (hdb : (x == ("__debug__" : Str)) = false := by decide) : ME X W R P (.Call (.Name x p) [] [] pos) (dMk t [] fn []) := by
  intro G H F σ env L Q I q
  obtain ⟨f, fd, C, FO, hC, hmk, hb⟩ := M
  obtain ⟨C', g1, g0, g2, _⟩ := T.at_
  rw [hC] at g1; cases g1
  rw [hx] at g0
  refine w_of (pe_makeZ0 hmk FO hr hg g0 hb (fun σ => passAt tk σ) hdb) fun x dx h1 h2 hne => ?_
  exact make_ok (rvs := []) (vs := []) (Lr := []) hC I .nil (by simpa using I.nd) (fun a z => nomatch z) q x dx h1 h2 hne
theorem me_mk {t : ObT} {k : Nat} {ps : List Str} {sig : List PM} {fn : List D → FnR} {x : Str} {p : Pos} {e : Expr} {es : List Expr} {ms : List (DEnv → ER)} (T : ClsT X.K X.mg t) (M : FnI X.prog X.w X.K X.mg X.base t k ps sig fn) (hr : Room (k + 1) X.A) (tk : Takes X W) (hs : MEs X W R P (e :: es) ms) (ha : PA X (e :: es) (tWa X (e :: es))) (hx : t.cls = x := by rfl)
    (hg : Gl X x := by rfl) (hdb : (x == ("__debug__" : Str)) = false := by decide) (he : starEach (e :: es) X.env = (false, eval e X.env) :: starEach es X.env := by rfl) (hpl : (backTo pos (starEach es X.env)).any (·.1) = false := by rfl) : ME X W R P (.Call (.Name x p) (e :: es) [] pos) (dMk t sig fn ms) := by
  intro G H F σ env L Q I q
  obtain ⟨f, fd, C, FO, hC, hmk, hb⟩ := M
  obtain ⟨C', g1, g0, g2, _⟩ := T.at_
  rw [hC] at g1; cases g1
  rw [hx] at g0
  refine w_of (pe_makeZ hmk FO hr hg g0 hb (fun σ => passAt tk σ) ha hdb he hpl) ?_
  refine run_args hs I ?_
  unfold dMk at q
  cases em : mArgs ms env with
  | err => rw [em] at q; exact q
  | raise c env' => rw [em] at q; exact q
  | ok rvs env' =>
    rw [em] at q
    intro vs H' F' L' Lr I' s nw hh nd fr x dx h1 h2 hne
    exact make_ok hC I' hh nd fr (PostV.later s nw q) x dx h1 h2 hne
end
end DX

namespace DX
open PySem PySem.Spec L2
open PyProof.Rows hiding St

/-! ### a new attribute -/
theorem putF_new {f : Str} {y : V} : ∀ {vs : List (Str × V)}, f ∉ vs.map (·.1) → putF f y vs = vs ++ [(f, y)]
  | [], _ => rfl
  | (g, x) :: r, h => by
    simp only [List.map_cons, List.mem_cons, not_or] at h
    show (if g = f then (g, y) :: r else (g, x) :: putF f y r) = _
    rw [if_neg (Ne.symm h.1), putF_new h.2]
    rfl
theorem ob_new {K : PySem.W.Frag} {H F : Hp} {a : Addr} {t : ObT} {ds : List D} {L : List Addr} {f : Str} (h : RepX K H F false (.ref a) (.ob t ds) L) (hf : t.fields[ds.length]? = some f) (nd : t.fields.Nodup) (hL : L.Nodup) (hlt : t.fields.length < 1000) :
    ∃ C dx vs, H a = some (.ins C dx vs) ∧ PySem.W.nsIn K mainGlobals t.cls = some (some (.ref C)) ∧ vs.length < 1000 ∧ a ∈ L ∧ ∀ {F' : Hp} {y : V} {n : D} {Ln : List Addr}, Same F F' → RepX K (upd H a (.ins C dx (putF f y vs))) F' true y n Ln →
      ∃ L', RepX K (upd H a (.ins C dx (putF f y vs))) F' false (.ref a) (.ob t (ds ++ [n])) L' ∧ L'.Perm (Ln ++ L) := by
  cases h with
  | @ob _ dx C _ vs _ Ls h hd hc hn hk hl hi =>
    have hlen : ds.length < t.fields.length := (List.getElem?_eq_some_iff.1 hf).1
    have nf : f ∉ vs.map (·.1) := by
      rw [hn]
      intro z
      obtain ⟨j, hj⟩ := List.getElem?_of_mem z
      rw [List.getElem?_take] at hj
      split at hj
      · rename_i hjl
        have e1 : j < t.fields.length := (List.getElem?_eq_some_iff.1 hj).1
        have e2 := (List.getElem?_eq_some_iff.1 hj).2
        have e3 := (List.getElem?_eq_some_iff.1 hf).2
        exact List.pairwise_iff_getElem.1 nd j ds.length e1 hlen hjl (by rw [e2, e3])
      · cases hj
    have dne : dx ≠ a := fun z => by
      rw [z] at hL; simp at hL
    refine ⟨C, dx, vs, h, hc, by omega, List.mem_cons_self, fun {F' y n Ln} ff rn => ?_⟩
    have anf : a ∉ Ls.flatten := fun z => by
      have := (List.nodup_cons.1 hL).1; exact this (List.mem_cons_of_mem _ z)
    refine ⟨a :: dx :: (Ls ++ [Ln]).flatten, .ob upd_same (by rw [upd_ne dne]; exact hd) hc ?_ ?_ ?_ ?_, ?_⟩
    · rw [putF_new nf, List.map_append, hn, List.length_append, List.length_singleton, List.take_succ, hf]
      rfl
    · rw [putF_new nf]; simp [hk]
    · rw [putF_new nf]; simp [hl]
    · intro i v x Li a1 a2 a3
      rw [putF_new nf] at a1
      by_cases hlt : i < vs.length
      · rw [List.getElem?_append_left hlt] at a1
        rw [List.getElem?_append_left (by omega)] at a2 a3
        refine (hi i v x Li a1 a2 a3).keep (fun b hb => upd_ne fun z => anf ?_) ff
        rw [← z]; exact mem_at a3 hb
      · rw [List.getElem?_append_right (by omega)] at a1 a2 a3
        have e0 : i - vs.length = 0 := by
          have := (List.getElem?_eq_some_iff.1 a1).1
          simp at this; omega
        have e1 : i - ds.length = 0 := by omega
        have e2 : i - Ls.length = 0 := by omega
        rw [e0] at a1; rw [e1] at a2; rw [e2] at a3
        cases a1; cases a2; cases a3
        exact rn
    · have : (Ls ++ [Ln]).flatten = Ls.flatten ++ Ln := by simp
      rw [this]
      exact ((List.perm_append_comm.cons dx).cons a).trans (((List.perm_middle (a := dx) (l₁ := Ln) (l₂ := Ls.flatten)).symm.cons a).trans (List.perm_middle (a := a) (l₁ := Ln) (l₂ := dx :: Ls.flatten)).symm)
/-- the value becomes a part -/
def partV (rv : Val) (e : DEnv) : Option (D × DEnv) := match rv with
  | .fz d => some (d, e)
  | .tmp d => some (.ow d, e)
  | .br j => match e[j]? with
    | some (.v .fz d) => some (d, e)
    | some (.v .ow d) => some (.ow d, e.set j .un)
    | _ => none
/-- o.f = value, a new attribute -/
def dNewF (i : Nat) (t : ObT) (k : Nat) (m : DEnv → ER) : DEnv → FR := fun env => (m env).thn fun rv e1 => match partV rv e1 with
  | some (x, e2) => match e2[i]? with
    | some (.v .io (.ob t' ds)) => if t' = t then (if ds.length = k then .next (e2.set i (.v .io (.ob t (ds ++ [x])))) else .err) else .err
    | some (.v .ow (.ob t' ds)) => if t' = t then (if ds.length = k then .next (e2.set i (.v .ow (.ob t (ds ++ [x])))) else .err) else .err
    | _ => .err
  | none => .err
section
variable {X : Cx} {W : WX} {R : Hp} {P : List (Option V)} {pos : Pos} {G H F : Hp} {σ : St} {env : DEnv} {L : List Addr}
theorem partV_ok {v : V} {rv : Val} {Lr : List Addr} {x : D} {env' : DEnv} (I : FI X.K R P G H F σ env L) (r : RepVal X.K H F σ v rv Lr) (nd : (Lr ++ L).Nodup) (fr : ∀ a ∈ Lr, F a = none ∧ G a = none) (e : partV rv env = some (x, env')) :
    ∃ L' Lp, FI X.K R P G H F σ env' L' ∧ RepX X.K H F true v x Lp ∧ (Lp ++ L').Nodup ∧ ∀ a ∈ Lp, F a = none ∧ G a = none := by
  unfold partV at e
  cases rv with
  | fz d => cases e; exact ⟨L, [], I, .pf r.2, by simpa using I.nd, fun a z => nomatch z⟩
  | tmp d => cases e; exact ⟨L, Lr, I, .po r, nd, fr⟩
  | br j =>
    dsimp only at e
    split at e
    · rename_i d ej
      cases e
      obtain ⟨u, e1, r1⟩ := I.er.getFz ej
      rw [r.2] at e1; cases e1
      exact ⟨L, [], I, .pf r1, by simpa using I.nd, fun a z => nomatch z⟩
    · rename_i d ej
      cases e
      obtain ⟨u, La, L', e1, ro, pm, I'⟩ := I.take (.inl rfl) ej
      rw [r.2] at e1; cases e1
      exact ⟨L', La, I', .po ro, pm.nodup_iff.1 I.nd, fun a ha => I.fr a (pm.mem_iff.2 (List.mem_append_left _ ha))⟩
    · cases e
theorem ms_newf {i : Nat} {t : ObT} {k : Nat} {f x : Str} {xp pos' : Pos} {e : Expr} {m : DEnv → ER} (T : ClsT X.K X.mg t) (h : ME X W R P e m) (hf : t.fields[k]? = some f := by rfl) (hN : X.N[i]? = some x := by rfl) (hv : Vis X.env.scope x := by first | exact Or.inl rfl | exact Or.inr (Or.inl rfl) | exact Or.inr (Or.inr rfl))
    (hd : (x == ("__debug__" : Str)) = false := by decide) (hcd : (x == ("__classdict__" : Str)) = false := by decide) (hs : swapsWith e (some (.Attribute (.Name x xp) f pos')) pos.line X.env = pure false := by rfl) :
    MS X W R P (.Assign [.Attribute (.Name x xp) f pos'] e pos) (dNewF i t k m) := by
  intro G H F σ env L En I q
  refine ws_of (ps_fld (pe_var hN hv hd hcd) pe_w hs) ?_
  refine me_thn h I q fun rv env' v H' F' L' Lr I' s n r nd fr q' => ?_
  cases ep : partV rv env' with
  | none => rw [ep] at q'; exact q'.elim
  | some pr =>
    obtain ⟨xp', e2⟩ := pr
    rw [ep] at q'
    dsimp only at q'
    obtain ⟨L2, Lp, I2, rp, ndp, frp⟩ := partV_ok I' r nd fr ep
    have core : ∀ {md : Mode} {ds : List D}, (md = .ow ∨ md = .io) → e2[i]? = some (.v md (.ob t ds)) → ds.length = k → PostS X W R P G F' (.next (e2.set i (.v md (.ob t (ds ++ [xp']))))) En → ∃ v', σ[i]? = some (some v') ∧ ∃ a C dx fs, v' = .ref a ∧ H' a = some (.ins C dx fs) ∧ Cls X.K C ∧ NoAttr X.K C f ∧ fs.length < 1000 ∧ En.nx σ (upd H' a (.ins C dx (putF f v fs))) := by
      intro md ds hm ei hk q'
      obtain ⟨u, La, L0, e1, ro, pm, I0⟩ := I2.take hm ei
      obtain ⟨a, rfl⟩ : ∃ a, u = .ref a := by cases ro; exact ⟨_, rfl⟩
      have ndA := pm.nodup_iff.1 I2.nd
      obtain ⟨C, dx, vs, h1, h2, h3, h4, put⟩ := ob_new ro (by rw [hk]; exact hf) T.nd (List.nodup_append.1 ndA).1 T.few
      obtain ⟨C', g1, _, g2, g3⟩ := T.at_
      rw [h2] at g1; cases g1
      have ha2 : a ∈ L2 := pm.mem_iff.2 (List.mem_append_left _ h4)
      have ap : a ∉ Lp := fun z => (List.nodup_append.1 ndp).2.2 a z a ha2 rfl
      have a0 : a ∉ L0 := fun z => (List.nodup_append.1 ndA).2.2 a h4 a z rfl
      have fa := I2.fr a ha2
      have keep : ∀ {G : Hp}, Same G H' → G a = none → Same G (upd H' a (.ins C dx (putF f v vs))) := fun gh n b x q => by rw [upd_ne (ne_of_none q n)]; exact gh _ _ q
      have rp' : RepX X.K (upd H' a (.ins C dx (putF f v vs))) F' true v xp' Lp := rp.keep (fun b hb => upd_ne fun z => ap (by rw [← z]; exact hb)) (Same.refl _)
      obtain ⟨L3, r3, pm3⟩ := put (Same.refl F') rp'
      have er0 := I0.er.keep (H' := upd H' a (.ins C dx (putF f v vs))) (Same.refl F') fun b hb => upd_ne fun z => a0 (by rw [← z]; exact hb)
      have hh : (e2.set i (holeS md))[i]? = some (holeS md) := List.getElem?_set_self (getElem?_lt ei)
      obtain ⟨L4, er4, pm4⟩ := er0.fill hm hh e1 r3
      rw [List.set_set] at er4
      have pm5 : L4.Perm (Lp ++ L2) := by
        refine pm4.trans ((pm3.append_right L0).trans ?_)
        rw [List.append_assoc]
        exact pm.symm.append_left Lp
      refine ⟨_, e1, a, C, dx, vs, rfl, h1, g2, g3 f (List.mem_of_getElem? hf), h3, q' σ _ F' L4 ⟨keep I'.fh fa.1, keep I'.gh fa.2, I'.rg, er4, pm5.nodup_iff.2 ndp, fun b hb => ?_⟩ (Same.refl _) NewF.refl⟩
      rcases List.mem_append.1 (pm5.mem_iff.1 hb) with z | z
      · exact frp b z
      · exact I2.fr b z
    split at q'
    · rename_i t' ds ei
      split at q'
      · rename_i et; subst et
        split at q'
        · rename_i hk; exact core (.inr rfl) ei hk q'
        · exact q'.elim
      · exact q'.elim
    · rename_i t' ds ei
      split at q'
      · rename_i et; subst et
        split at q'
        · rename_i hk; exact core (.inl rfl) ei hk q'
        · exact q'.elim
      · exact q'.elim
    · exact q'.elim

/-! ### o.f[k] = v, a dict within an object -/
def gPutP (i : Nat) (p : List (ObT × Nat)) (mi : DEnv → Option D) : D → DEnv → Option DEnv := fun d env => match getPl i p env with
  | some dd => match mi env with
    | some key => match putD1 d key dd with
      | some dd' => putPl i p dd' env
      | none => none
    | none => none
  | none => none
theorem mg_putP {i : Nat} {p : List (ObT × Nat)} {o ix : Expr} {mi : DEnv → Option D} (hu : X.A.units + 64 < cLine) (pl : PLc X o i p) (hi : MEV X R P ix mi)
    (ha : ∀ v, assign (.Subscript o ix pos) X.env v = (do
      let ov ← holding [v] (eval o X.env)
      let iv ← holding [v, ov] (eval ix X.env)
      standAt pos
      holding [v, ov, iv] (setItem ov iv v)
      release [v, ov, iv] []) := by intro _; rfl) : MG X R P (.Subscript o ix pos) (gPutP i p mi) := by
  intro G H F σ env env' L v d k I r e q
  refine wg_of (pg_sub pe_w pe_w (set_dict (units1 hu)) ha) ?_
  unfold gPutP at e
  cases eg : getPl i p env with
  | none => rw [eg] at e; cases e
  | some dd =>
    rw [eg] at e
    dsimp only at e
    cases ek : mi env with
    | none => rw [ek] at e; cases e
    | some key =>
      rw [ek] at e
      dsimp only at e
      cases ep : putD1 d key dd with
      | none => rw [ep] at e; cases e
      | some dd' =>
        rw [ep] at e
        dsimp only at e
        obtain ⟨v0, a, e1, wk, ro, put⟩ := I.mutP eg (by cases dd <;> first | rfl | cases ep)
        have slot : ∃ m d, env[i]? = some (.v m d) ∧ getO p d = some dd := by
          unfold getPl at eg
          split at eg
          · rename_i d ei; exact ⟨_, d, ei, eg⟩
          · rename_i d ei; exact ⟨_, d, ei, eg⟩
          · cases eg
        obtain ⟨m, d0, ei, eo⟩ := slot
        refine pl I ei eo fun v0' v' e0 wk' => ?_
        rw [e1] at e0; cases e0
        have := wk'.uniq wk
        subst this
        refine hi G H F σ env L key _ I ek fun y rk => ?_
        unfold putD1 at ep
        split at ep
        · rename_i kvs
          cases e3 : key1 key with
          | none => rw [e3] at ep; cases ep
          | some kk =>
            rw [e3, Option.bind_some] at ep
            split at ep
            · rename_i hsz
              cases ep
              cases ro with
              | dK h hi =>
                obtain ⟨env2, L3, q1, I3⟩ := put _ _ (.dK upd_same (put_rep kk r hi))
                rw [e] at q1; cases q1
                exact ⟨a, _, rfl, .inl ⟨_, kk, h, key1_v rk e3, by rw [hi.len]; exact hsz, rfl⟩, NOk.now I3 q⟩
            · cases ep
        · rename_i kvs
          cases e3 : keyT key with
          | none => rw [e3] at ep; cases ep
          | some kk =>
            rw [e3, Option.bind_some] at ep
            split at ep
            · rename_i hsz
              cases ep
              cases ro with
              | dT h hi =>
                obtain ⟨b, eb, hb⟩ := keyT_v rk e3
                obtain ⟨env2, L3, q1, I3⟩ := put _ _ (.dT upd_same (put_rep kk r hi))
                rw [e] at q1; cases q1
                exact ⟨a, _, rfl, .inr ⟨_, kk, b, h, eb, hb, by rw [hi.len]; exact hsz, rfl⟩, NOk.now I3 q⟩
            · cases ep
        · cases ep
theorem mt_extendR : MtR X "list.extend" (fun x vs H Q => ∃ l b xs zs, x = .ref l ∧ vs = [.ref b] ∧ H l = some (.lst xs) ∧ Rd H b (.lst zs) ∧ xs.length + zs.length ≤ sizeLine ∧ Q .non (upd H l (.lst (xs ++ zs)))) := by
  intro pins s σ H x vs v us Q I rx rv h
  obtain ⟨l, b, xs, zs, rfl, rfl, hH, hB, hz, q⟩ := h
  cases rx
  obtain ⟨u, rfl, ru⟩ := rv.one
  cases ru
  obtain ⟨z, its, n, r, hl, e⟩ := I.lstM hH
  obtain ⟨z2, its2, n2, r2, hl2, e2⟩ := lstR I hB
  have hsz : its.toArray.size + its2.toArray.size ≤ sizeLine := by rw [List.size_toArray, List.size_toArray]; omega
  have hlong : ¬ (!its.toArray.isEmpty && Builtin.List.listTooLong (its.toArray.size + its2.toArray.size)) = true := by
    rw [notLongL hsz, Bool.and_false]
    exact Bool.false_ne_true
  refine call_meets PySem.F.slot_list_extend ⟨_, e, rfl⟩ PySem.F.entry_list_extend (PySem.F.args_list_extend_2 _ _)
    (AutoSeq1.list_extend_list_list_0 l its.toArray n b its2.toArray n2 hlong (by rw [List.size_toArray]; omega) (by omega)) ⟨e, e2, ?_⟩
  refine ⟨.non, _, I.lset (its' := its ++ its2) hH e (by simp) (r.append r2) ?_, rfl, q⟩
  rw [List.length_append]
  omega
theorem lmv_extend : LMutV X.K (fun x vs H Q => ∃ l b xs zs, x = .ref l ∧ vs = [.ref b] ∧ H l = some (.lst xs) ∧ Rd H b (.lst zs) ∧ xs.length + zs.length ≤ sizeLine ∧ Q .non (upd H l (.lst (xs ++ zs)))) gExtend := fun a xs vs ds as rd ys F H Q fh h hi ha e k => by
  unfold gExtend at e
  split at e
  · split at e
    · rename_i y hl
      cases e
      cases ha with
      | cons h1 t1 =>
        cases t1
        cases h1 with
        | lst hb hj => exact ⟨a, _, xs, _, rfl, rfl, h, hb, by rw [hi.1, hj.1]; exact hl, k _ _ .non (hi.append hj)⟩
    · cases e
  · cases e
end
end DX

namespace DX
open PySem PySem.Spec L2
open PyProof.Rows hiding St

/-! ### dicts walked, listed, copied; get -/
def keyD : Key → D
  | .inl i => .int i
  | .inr s => .str s
def keyTD (k : List Key) : D := .tup (k.map keyD)
/-- the keys of a dict that stands for good -/
def mKeys (m : DEnv → ER) : DEnv → IR := fun env => match m env with
  | .ok (.fz (.dK kvs)) e1 => .ok (kvs.map fun kv => keyD kv.1) e1
  | .ok (.fz (.dT kvs)) e1 => .ok (kvs.map fun kv => keyTD kv.1) e1
  | .raise c e => .raise c e
  | _ => .err
section
variable {K : PySem.W.Frag} {F G H : Hp}
theorem rep_keyD (k : Key) : Rep K F (kV k) (keyD k) := by cases k with
  | inl i => exact .int i
  | inr s => exact .str s
theorem reps_keyD : ∀ ks : List Key, Reps K F (ks.map kV) (ks.map keyD)
  | [] => .nil
  | k :: ks => .cons (rep_keyD k) (reps_keyD ks)
theorem RepKs.fst {κ : Type} {vs : List (κ × V)} {ds : List (κ × D)} (h : RepKs K F vs ds) {i : Nat} {k : κ} {v : V} (e : vs[i]? = some (k, v)) : ∃ d, ds[i]? = some (k, d) ∧ Rep K F v d := by
  have hl := congrArg List.length h.1
  simp only [List.length_map] at hl
  have hi : i < vs.length := (List.getElem?_eq_some_iff.1 e).1
  have e2 := List.getElem?_eq_getElem (l := ds) (i := i) (by omega)
  have := congrArg (·[i]?) h.1
  simp only [List.getElem?_map, e, e2, Option.map_some, Option.some.injEq] at this
  refine ⟨ds[i].2, ?_, h.2 i _ _ e e2⟩
  rw [e2, this]
/-- a tuple that stands in the heap is laid down -/
theorem lay_tup {q : Addr} {vs : List V} (fh : Same F H) (h : H q = some (.tup vs)) : Same F (upd F q (.tup vs)) ∧ Same (upd F q (.tup vs)) H ∧ NewF H F (upd F q (.tup vs)) := by
  refine ⟨fun b o e => ?_, fun b o e => ?_, fun b e => ?_⟩
  · by_cases hb : b = q
    · subst hb; rw [upd_same]; have := fh _ _ e; rw [h] at this; exact this
    · rw [upd_ne hb]; exact e
  · by_cases hb : b = q
    · subst hb; rw [upd_same] at e; cases e; exact h
    · rw [upd_ne hb] at e; exact fh _ _ e
  · by_cases hb : b = q
    · subst hb; exact .inr (.inr ⟨vs, h⟩)
    · rw [upd_ne hb] at e; exact .inl e
theorem rep_keyT {q : Addr} {k : List Key} : Rep K (upd F q (.tup (k.map kV))) (.ref q) (keyTD k) := by
  have r := reps_keyD (K := K) (F := upd F q (.tup (k.map kV))) k
  exact .tup (.inl (.inl upd_same)) (.inl upd_same) r.1 r.2
theorem walks_keys {a : Addr} {o : Obj} {vs : List (Key × V)} {kvs : List (Key × D)} (hF : F a = some (.frz o (.dK vs))) (hi : RepKs K F vs kvs) : Walks K (Itk a o vs) (kvs.map fun kv => keyD kv.1) G F where
  go := fun i H hl gh fh => ⟨fh _ _ hF, by have := congrArg List.length hi.1; simp at this hl; omega⟩
  stop := fun i H hl gh fh => ⟨fh _ _ hF, by have := congrArg List.length hi.1; simp at this hl; omega⟩
  yld := fun i H F1 x H' d gh f1 fh y e => by
    obtain ⟨rfl, k, v, e1, rfl⟩ := y
    obtain ⟨d', e2, _⟩ := hi.fst e1
    rw [List.getElem?_map, e2] at e
    cases e
    exact ⟨F1, Same.refl _, Same.refl _, fh, NewF.refl, rep_keyD k⟩
theorem walks_keysT {a : Addr} {o : Obj} {vs : List (List Key × V)} {kvs : List (List Key × D)} (hF : F a = some (.frz o (.dT vs))) (hi : RepKs K F vs kvs) : Walks K (Itkt a o vs) (kvs.map fun kv => keyTD kv.1) G F where
  go := fun i H hl gh fh => ⟨fh _ _ hF, by have := congrArg List.length hi.1; simp at this hl; omega⟩
  stop := fun i H hl gh fh => ⟨fh _ _ hF, by have := congrArg List.length hi.1; simp at this hl; omega⟩
  yld := fun i H F1 x H' d gh f1 fh y e => by
    obtain ⟨rfl, k, v, q, e1, rfl, hq⟩ := y
    obtain ⟨d', e2, _⟩ := hi.fst e1
    rw [List.getElem?_map, e2] at e
    cases e
    obtain ⟨s1, s2, s3⟩ := lay_tup fh hq
    exact ⟨_, Same.refl _, s1, s2, s3, rep_keyT⟩
end
section
variable {X : Cx} {W : WX} {R : Hp} {P : List (Option V)} {pos : Pos} {tg iter a b : Expr} {ma : DEnv → ER} {va vb : DEnv → Option D}
theorem mi_keys {m : DEnv → ER} (hi : ME X W R P iter m) : MI X W R P tg iter (mKeys m) := by
  refine ⟨_, pi_keys pe_w, fun G H F σ env L k I q => ?_⟩
  refine me_run hi I ?_
  unfold mKeys at q
  cases em : m env with
  | err => rw [em] at q; exact q
  | raise c e => rw [em] at q; exact q
  | ok rv e1 =>
    rw [em] at q
    intro v H' F' L' Lr I' s n r nd fr
    cases rv with
    | fz d =>
      obtain ⟨_, r⟩ := r
      cases r with
      | dK h hl hi => obtain ⟨o, h⟩ := h; exact ⟨_, o, rfl, .inl ⟨_, I'.fh _ _ h, q _ H' F' L' I' s n (walks_keys h ⟨hl, hi⟩)⟩⟩
      | dT h hl hi => obtain ⟨o, h⟩ := h; exact ⟨_, o, rfl, .inr ⟨_, I'.fh _ _ h, q _ H' F' L' I' s n (walks_keysT h ⟨hl, hi⟩)⟩⟩
      | _ => exact q.elim
    | _ => exact q.elim
theorem me_dinX (hu : X.A.units + 64 < cLine) (ha : ME X W R P a ma) (hb : MEV X R P b vb) (hm : behindInMarks .In b = false := by rfl) : ME X W R P (.Compare a [.In] [b] pos) (dPrimX (gDIn false) [ma] [vb]) := fun G H F σ env L Q I h =>
  w_of (pe_cmp (pc_din (units1 hu) pe_w pe_w) hm) (tW_mono (twoX ha hb I h) fun x H1 h => tW_mono h fun y H2 h => din_imp h)
theorem mt_dinX (hu : X.A.units + 64 < cLine) (ha : ME X W R P a ma) (hb : MEV X R P b vb) (hm : behindInMarks .In b = false := by rfl) : MT X W R P (.Compare a [.In] [b] pos) (dTst (dPrimX (gDIn false) [ma] [vb])) := fun G H F σ env L Q I h =>
  wt_of (pt_cmp (pc_din (units1 hu) pe_w pe_w) hm) (tW_mono (twoX ha hb I (tst_post h)) fun x H1 h => tW_mono h fun y H2 h => din_imp h)
theorem me_dninX (hu : X.A.units + 64 < cLine) (ha : ME X W R P a ma) (hb : MEV X R P b vb) (hm : behindInMarks .NotIn b = false := by rfl) : ME X W R P (.Compare a [.NotIn] [b] pos) (dPrimX (gDIn true) [ma] [vb]) := fun G H F σ env L Q I h =>
  w_of (pe_cmp (pc_dnotin (units1 hu) pe_w pe_w) hm) (tW_mono (twoX ha hb I h) fun x H1 h => tW_mono h fun y H2 h => din_imp h)
theorem mt_dninX (hu : X.A.units + 64 < cLine) (ha : ME X W R P a ma) (hb : MEV X R P b vb) (hm : behindInMarks .NotIn b = false := by rfl) : MT X W R P (.Compare a [.NotIn] [b] pos) (dTst (dPrimX (gDIn true) [ma] [vb])) := fun G H F σ env L Q I h =>
  wt_of (pt_cmp (pc_dnotin (units1 hu) pe_w pe_w) hm) (tW_mono (twoX ha hb I (tst_post h)) fun x H1 h => tW_mono h fun y H2 h => din_imp h)
theorem me_dgetV (hu : X.A.units + 64 < cLine) (ha : MEV X R P a va) (hb : MEV X R P b vb) (hs : NoSl b := by exact fun _ _ => rfl) : ME X W R P (.Subscript a b pos) (dPrimX gDGet [] [va, vb]) := fun G H F σ env L Q I h =>
  w_of (pe_dget (Nat.lt_of_le_of_lt (Nat.add_le_add_left (by decide) _) hu) pe_w pe_w hs) (tW_mono (twoV ha hb I h) fun x H1 h => tW_mono h fun y H2 h => dget_imp h)
/-- len of a dict -/
def gLenD : List D → Option Val
  | [.dK kvs] => some (.fz (.int ((kvs.length : Nat) : Int)))
  | [.dT kvs] => some (.fz (.int ((kvs.length : Nat) : Int)))
  | _ => none
theorem RepKs.length {κ : Type} {K : PySem.W.Frag} {F : Hp} {vs : List (κ × V)} {ds : List (κ × D)} (h : RepKs K F vs ds) : vs.length = ds.length := by
  have := congrArg List.length h.1; simpa using this
theorem call_lenDR : CallR X (.builtin "len") (fun xs H Q => ∃ (p : Addr) (kvs : List (Key × V)), xs = [.ref p] ∧ Rd H p (.dK kvs) ∧ Q (.int ((kvs.length : Nat) : Int)) H) := by
  intro pins s σ H xs us Q I r h
  obtain ⟨p, kvs, rfl, hd, q⟩ := h
  cases r with
  | cons r1 rn => cases rn; cases r1; exact d_len I hd fun t s' I' => ⟨.int ((kvs.length : Nat) : Int), H, I', ⟨t, rfl⟩, q⟩
theorem callLenD : CallR X (.builtin "len") (rG X.K gLenD) := by
  intro pins s σ H xs us Q I r h
  obtain ⟨σ', F, ds, rv, fh, hh, e, k⟩ := h
  unfold gLenD at e
  split at e
  · rename_i kvs
    cases e
    obtain ⟨x, rfl, hx⟩ := one hh
    cases hx with
    | dK ha hi => exact call_lenDR pins s σ H _ us Q I r ⟨_, _, rfl, ha, by rw [RepKs.length hi]; exact k.atom (X := X) fh (.int _)⟩
  · rename_i kvs
    cases e
    obtain ⟨x, rfl, hx⟩ := one hh
    cases hx with
    | @dT a vs _ ha hi =>
      have q : Q (.int ((vs.length : Nat) : Int)) H := by rw [RepKs.length hi]; exact k.atom (X := X) fh (.int _)
      obtain ⟨u, rfl, rx⟩ := vals1 r
      obtain rfl : u = .ref a := rx
      obtain ⟨z, hd, ys, rel, dd⟩ := dt_rd I.hok ha
      have hl : vs.length = ys.length := Paired.length rel
      refine call_len_dictH hd dd (by rw [← hl]; rw [sizeLine_eq] at z; omega) ?_
      rw [← hl]
      exact ⟨.int ((vs.length : Nat) : Int), H, I.tok _, ⟨_, rfl⟩, q⟩
  · cases e
/-- list(d): the keys -/
def gListD : List D → Option Val
  | [.dK kvs] => some (.tmp (.lst (kvs.map fun kv => keyD kv.1)))
  | [.dT kvs] => some (.tmp (.lst (kvs.map fun kv => keyTD kv.1)))
  | _ => none
theorem call_list_dKR (hc : X.calm = true) : CallR X (.type "list") (fun xs H Q => ∃ p kvs, xs = [.ref p] ∧ Rd H p (.dK kvs) ∧ ∀ q, H q = none → Q (.ref q) (upd H q (.lst (kvs.map fun kv => kV kv.1)))) := by
  intro pins s σ H xs us Q I r h
  obtain ⟨p, kvs, e, hk, q⟩ := h
  subst e
  obtain ⟨u, eu, rx⟩ := vals1 r
  subst eu
  obtain rfl : u = Value.ref p := rx
  obtain ⟨z, lo, vs, rk, hd⟩ := dk_rd I.hok hk
  obtain ⟨ep, hat⟩ := hd.dictAt
  have hl : kvs.length = vs.length := Paired.length rk
  refine PySem.W.kdl_call (PySem.W.kdl_dict (knd := mixKind X.prog X.w) (kvs := vs) (ep := ep) lo) (I.ok.hd hc) hat (by rw [← hl]; exact z) fun h' tk acc' c' hkeep hS hacc => ?_
  refine ⟨.ref s.heap.objs.size, upd H s.heap.objs.size (.lst (kvs.map fun kv => kV kv.1)), I.laid hkeep (Nat.le_refl _) (show ObjOk X.prog X.w _ _ _ (.lst (kvs.map fun kv => kV kv.1)) from ⟨?_, acc'.toList, c', ?_, ?_⟩), rfl, q _ (I.hok.fresh (Nat.le_refl _))⟩
  · rw [List.length_map]; exact z
  · have el : acc'.toList.length = acc'.size := by simp
    refine vals_of_at (by rw [List.length_map, el, hacc.1, hl]) fun j x w h1 h2 => ?_
    obtain ⟨k, y, hky, hi⟩ := hacc.2 j w (by rw [← Array.getElem?_toList]; exact h2)
    have e1 : (kvs.map (·.1))[j]? = some k := by
      rw [KV.keys rk, List.getElem?_map, hky] <;> rfl
    have e2 : (kvs.map fun kv => kV kv.1)[j]? = some (kV k) := by
      have e3 : (kvs.map fun kv => kV kv.1) = (kvs.map (·.1)).map kV := by rw [List.map_map] <;> rfl
      rw [e3, List.getElem?_map, e1] <;> rfl
    rw [e2] at h1
    cases h1
    exact keyIs_rel hi
  · rw [Array.toArray_toList]; exact hS
/-- key tuples laid down -/
theorem lay_keys {K : PySem.W.Frag} {H : Hp} : ∀ {vs : List (List Key × V)} {bs : List Addr} {F : Hp}, IsKeys H vs bs → Same F H → ∃ F', Same F F' ∧ Same F' H ∧ NewF H F F' ∧ Reps K F' (bs.map V.ref) (vs.map fun kv => keyTD kv.1)
  | [], _, F, .nil, fh => ⟨F, Same.refl F, fh, NewF.refl, .nil⟩
  | kv :: vs, b :: bs, F, .cons h t, fh => by
    obtain ⟨s1, s2, s3⟩ := lay_tup fh h
    obtain ⟨F', t1, t2, t3, r⟩ := lay_keys (K := K) t s2
    exact ⟨F', s1.trans t1, t2, s3.trans t3, .cons (rep_keyT.mono t1) r⟩
theorem keysK_rep {K : PySem.W.Frag} {F : Hp} {vs : List (Key × V)} {kvs : List (Key × D)} (h : RepKs K F vs kvs) : Reps K F (vs.map fun kv => kV kv.1) (kvs.map fun kv => keyD kv.1) := by
  have e1 : (vs.map fun kv => kV kv.1) = (vs.map (·.1)).map kV := by simp
  have e2 : (kvs.map fun kv => keyD kv.1) = (kvs.map (·.1)).map keyD := by simp
  rw [e1, e2, h.1]
  exact reps_keyD _
theorem keysT_eq {K : PySem.W.Frag} {F : Hp} {vs : List (List Key × V)} {kvs : List (List Key × D)} (h : RepKs K F vs kvs) : (vs.map fun kv => keyTD kv.1) = kvs.map fun kv => keyTD kv.1 := by
  have e1 : (vs.map fun kv => keyTD kv.1) = (vs.map (·.1)).map keyTD := by simp
  have e2 : (kvs.map fun kv => keyTD kv.1) = (kvs.map (·.1)).map keyTD := by simp
  rw [e1, e2, h.1]
theorem callListD (hc : X.calm = true) : CallR X (.type "list") (rG X.K gListD) := by
  intro pins s σ H xs us Q I r h
  obtain ⟨σ', F, ds, rv, fh, hh, e, k⟩ := h
  unfold gListD at e
  split at e
  · rename_i kvs
    cases e
    obtain ⟨x, rfl, hx⟩ := one hh
    cases hx with
    | dK ha hi => exact call_list_dKR hc pins s σ H _ us Q I r ⟨_, _, rfl, ha, fun q n => k.own (X := X) fh n (.lst upd_same (keysK_rep hi))⟩
  · rename_i kvs
    cases e
    obtain ⟨x, rfl, hx⟩ := one hh
    cases hx with
    | dT ha hi =>
      refine call_list_dT hc pins s σ H _ us Q I r ⟨_, _, rfl, ha, fun p bs n ik => ?_⟩
      obtain ⟨F', s1, s2, s3, rr⟩ := lay_keys (K := X.K) ik fh
      rw [keysT_eq hi] at rr
      have n2 : F' p = none := s2.free n
      refine k (.ref p) _ F' [p] (same_upd n) s1 (s2.trans (same_upd n)) s3 (.lst upd_same rr) (by simp) fun a ha => ?_
      obtain rfl := List.mem_singleton.1 ha
      exact ⟨n, n2⟩
  · cases e
/-- dict(d): a copy of a dict with keys that are no tuples -/
def gDict : List D → Option Val
  | [.dK kvs] => some (.tmp (.dK kvs))
  | _ => none
theorem callDict (hc : X.calm = true) : CallR X (.type "dict") (rG X.K gDict) := by
  intro pins s σ H xs us Q I r h
  obtain ⟨σ', F, ds, rv, fh, hh, e, k⟩ := h
  unfold gDict at e
  split at e
  · rename_i kvs
    cases e
    obtain ⟨x, rfl, hx⟩ := one hh
    cases hx with
    | dK ha hi =>
      obtain ⟨u, rfl, rx⟩ := vals1 r
      cases rx
      exact d_copyOf I ha fun p s' n I' => ⟨.ref p, _, I', rfl, k.own (X := X) fh n (.dK upd_same hi)⟩
  · cases e
/-- d.get(k, x), x an atom -/
def gGet2 : List D → Option Val
  | [.dK kvs, y, z] => if flatD z then (key1 y).map fun k => .fz ((valD kvs k).getD z) else none
  | [.dT kvs, y, z] => if flatD z then (keyT y).map fun k => .fz ((valD kvs k).getD z) else none
  | _ => none
end
end DX

namespace DX
open PySem PySem.Spec L2
open PyProof.Rows hiding St

def isDct : D → Bool
  | .dK _ => true
  | .dT _ => true
  | _ => false
def dGet2 (i : Nat) (m1 m2 : DEnv → ER) : DEnv → ER := fun env => match env[i]? with
  | some (.v _ d) => if isDct d then (mArgs [m1, m2] env).bind fun rvs e1 => match rdVs e1 (.br i :: rvs) with
    | some ds => match gGet2 ds with
      | some rv => .ok rv e1
      | none => .err
    | none => .err else .err
  | _ => .err
section
variable {X : Cx} {W : WX} {R : Hp} {P : List (Option V)} {pos : Pos}
theorem rd3 {K : PySem.W.Frag} {H F : Hp} {x y z : V} {ds : List D} (h : RepHs K H F [x, y, z] ds) : ∃ dx dy dz, ds = [dx, dy, dz] ∧ RepH K H F x dx ∧ RepH K H F y dy ∧ RepH K H F z dz := by
  cases h with | cons a t => cases t with | cons b t => cases t with | cons c t => cases t; exact ⟨_, _, _, rfl, a, b, c⟩
/-- an atom or what is laid down already -/
theorem me_get2 {i : Nat} {x : Str} {xp apos cpos : Pos} {e f : Expr} {m1 m2 : DEnv → ER} (hu : X.A.units + 64 < cLine) (h1 : ME X W R P e m1) (h2 : ME X W R P f m2) (hN : X.N[i]? = some x := by rfl) (hv : Vis X.env.scope x := by first | exact Or.inl rfl | exact Or.inr (Or.inl rfl) | exact Or.inr (Or.inr rfl))
    (hd : (x == ("__debug__" : Str)) = false := by decide) (hcd : (x == ("__classdict__" : Str)) = false := by decide) (m : M2 X (.Name x xp) "get" apos e f cpos := by exact ⟨rfl, rfl, rfl, rfl, rfl⟩) :
    ME X W R P (.Call (.Attribute (.Name x xp) "get" apos) [e, f] [] cpos) (dGet2 i m1 m2) := by
  intro G H F σ env L Q I q
  unfold dGet2 at q
  split at q
  · rename_i md d ei
    split at q
    · rename_i hdct
      refine w_of (pe_dget2 (units1 hu) (pe_var hN hv hd hcd) pe_w pe_w m) ?_
      obtain ⟨v, e1, r1⟩ := I.er.get (I.rg.trans I.gh) I.fh ei
      have hv2 : ∃ a, v = .ref a ∧ IsD H a := by
        cases d with
        | dK kvs => cases r1 _ rfl with | dK h hi => exact ⟨_, rfl, .inl ⟨_, h⟩⟩
        | dT kvs => cases r1 _ rfl with | dT h hi => exact ⟨_, rfl, .inr ⟨_, h⟩⟩
        | _ => cases hdct
      obtain ⟨a, rfl, isd⟩ := hv2
      refine ⟨_, e1, a, rfl, isd, ?_⟩
      have z := run_args (k := fun vs H3 => ∃ y z, vs = [y, z] ∧ ∃ o, DGet H3 a y o ∧ Q (o.getD z) H3) (.cons h1 (.cons h2 .nil)) I ?_
      · exact tW_mono (Q := fun y H2 => tW X f σ H2 _) z fun y H2 h => tW_mono h fun z H3 ⟨y', z', e0, o, g, q⟩ => by cases e0; exact ⟨o, g, q⟩
      cases em : mArgs [m1, m2] env with
      | err => rw [em] at q; exact q
      | raise c env' => rw [em] at q; exact q
      | ok rvs env' =>
        rw [em] at q
        dsimp only [ER.bind, AR.bind] at q
        intro vs H' F' L' Lr I' s n hs nd fr
        cases e2 : rdVs env' (.br i :: rvs) with
        | none => rw [e2] at q; exact q.elim
        | some ds =>
          rw [e2] at q
          dsimp only at q
          cases e3 : gGet2 ds with
          | none => rw [e3] at q; exact q.elim
          | some rv =>
            rw [e3] at q
            have hs2 : HeldR X.K H' F' σ (.ref a :: vs) (.br i :: rvs) ([] ++ Lr) := .cons ⟨rfl, e1⟩ hs
            have rr := rdVs_ok I' hs2 e2
            have fin : ∀ {d : D} {v : V}, rv = .fz d → Rep X.K F' v d → Q v H' := fun e r => by
              subst e
              exact POk.now (PostV.later (r := .ok (.fz _) env') s n q) I' r
            obtain ⟨dx, dy, dz, rfl⟩ : ∃ dx dy dz, ds = [dx, dy, dz] := by
              unfold gGet2 at e3
              split at e3
              · exact ⟨_, _, _, rfl⟩
              · exact ⟨_, _, _, rfl⟩
              · cases e3
            obtain ⟨vy, vz, rfl, hx, hy, hz⟩ : ∃ vy vz, vs = [vy, vz] ∧ RepH X.K H' F' (.ref a) dx ∧ RepH X.K H' F' vy dy ∧ RepH X.K H' F' vz dz := by
              cases rr with
              | cons hx t => cases t with
                | cons hy t => cases t with
                  | cons hz t => cases t; exact ⟨_, _, rfl, hx, hy, hz⟩
            refine ⟨vy, vz, rfl, ?_⟩
            have zr : flatD dz = true → Rep X.K F' vz dz := fun fz => by
              cases hz <;> first | exact .non | exact .bl _ | exact .int _ | exact .str _ | cases fz
            unfold gGet2 at e3
            split at e3
            · rename_i kvs y0 z0 he
              cases he
              split at e3
              · rename_i fz
                cases ek : key1 dy with
                | none => rw [ek] at e3; cases e3
                | some kk =>
                  rw [ek] at e3; cases e3
                  cases hx with
                  | dK ha hi =>
                    refine ⟨_, .inl ⟨_, kk, ha, key1_v hy ek, rfl⟩, fin rfl ?_⟩
                    cases ev : valD kvs kk with
                    | none => rw [(val_rep kk hi).2 ev]; exact zr fz
                    | some d => obtain ⟨v, e4, r⟩ := (val_rep kk hi).1 d ev; rw [e4]; exact r
              · cases e3
            · rename_i kvs y0 z0 he
              cases he
              split at e3
              · rename_i fz
                cases ek : keyT dy with
                | none => rw [ek] at e3; cases e3
                | some kk =>
                  rw [ek] at e3; cases e3
                  cases hx with
                  | dT ha hi =>
                    obtain ⟨b, eb, hb⟩ := keyT_v hy ek
                    refine ⟨_, .inr ⟨_, kk, b, ha, eb, hb, rfl⟩, fin rfl ?_⟩
                    cases ev : valD kvs kk with
                    | none => rw [(val_rep kk hi).2 ev]; exact zr fz
                    | some d => obtain ⟨v, e4, r⟩ := (val_rep kk hi).1 d ev; rw [e4]; exact r
              · cases e3
            · cases e3
    · exact q.elim
  · exact q.elim
end
end DX

namespace DX
open PySem PySem.Spec L2
open PyProof.Rows hiding St

/-! ### == of dicts -/
section
variable {prog : Program} {w : World} {κ : Type} [DecidableEq κ] {knd : HeapKind prog w κ} {A : Around} {s : Shared} {E : Value → Shared → Prop}
inductive HitsH (A : Around) (s : Shared) (xb : List (κ × Addr × Value)) : List (κ × Addr × Value) → Bool → Prop
  | nil : HitsH A s xb [] true
  | miss {k : κ} {p : Addr × Value} {r : List (κ × Addr × Value)} : atKey xb k = none → HitsH A s xb ((k, p) :: r) false
  | hit {k : κ} {p y : Addr × Value} {r : List (κ × Addr × Value)} {e b : Bool} : atKey xb k = some y → SeqAt.EqAt A s p.2 y.2 e → HitsH A s xb r b → HitsH A s xb ((k, p) :: r) (e && b)
theorem HitsH.inv {xb : List (κ × Addr × Value)} {k : κ} {p : Addr × Value} {r : List (κ × Addr × Value)} {b : Bool} (h : HitsH A s xb ((k, p) :: r) b) :
    (atKey xb k = none ∧ b = false) ∨ ∃ y e b', atKey xb k = some y ∧ SeqAt.EqAt A s p.2 y.2 e ∧ HitsH A s xb r b' ∧ b = (e && b') := by
  cases h with
  | miss hn => exact .inl ⟨hn, rfl⟩
  | hit hy he hr => exact .inr ⟨_, _, _, hy, he, hr, rfl⟩
theorem samePairsH {nm : String} {a b : Addr} {xa xb : List (κ × Addr × Value)} {r : Bool} {Q : Bool → Shared → Prop} (hu : knd.room A) (ha : (a == sysModules) = false) (hb : (b == sysModules) = false)
    (da : s.heap.DictOfH knd a xa) (db : s.heap.DictOfH knd b xb) (hits : xa.length = xb.length → HitsH A s xb xa r) (h : Q (xa.length == xb.length && r) s) :
    wpAny (model prog w) A (Builtin.Dict.samePairs nm a b) Q E s := by
  obtain ⟨oa, es, ep, hoa, _, hda, hea, hia, hna⟩ := da
  obtain ⟨ob, es', ep', hob, _, hdb, heb, hib, hnb⟩ := db
  have hla : xa.length = es.size := (size_of_entries hea).symm
  have hlb : xb.length = es'.size := (size_of_entries heb).symm
  rw [hla, hlb] at h
  unfold Builtin.Dict.samePairs Builtin.Dict.showsAll
  rw [if_neg (show ¬ (a == sysModules) = true by rw [ha]; exact Bool.false_ne_true), if_neg (show ¬ (b == sysModules) = true by rw [hb]; exact Bool.false_ne_true)]
  refine wpAny_bind (wpAny_pure (wpAny_bind (wpAny_pure ?_)))
  refine wpAny_bind (wpAny_dictEntries hoa hda ?_)
  dsimp only
  refine wpAny_bind (wpAny_dictEntries hob hdb ?_)
  by_cases hsz : es.size = es'.size
  case neg =>
    rw [if_pos (by simpa using hsz)]
    have hbf : (es.size == es'.size) = false := by simpa using hsz
    rw [hbf, Bool.false_and] at h
    exact wpAny_bind (wpAny_rule (wpAny_pure h))
  case pos =>
    have h' : Q r s := by simpa [hsz] using h
    have hits' := hits (by rw [hla, hlb]; exact hsz)
    rw [if_neg (by rw [hsz]; simp)]
    refine wpAny_bind (wpAny_dictEpoch hoa hda ?_)
    refine wpAny_bind ?_
    rw [Std.Legacy.Range.forIn_eq_forIn_range']
    simp only [Std.Legacy.Range.size, Nat.sub_zero, Nat.add_sub_cancel, Nat.div_one]
    refine wpAny_forIn_list _
      (fun rest q s' => s' = s ∧ q = (none, ()) ∧ ∃ i, rest = List.range' i (es.size - i) ∧ i ≤ es.size ∧ HitsH A s xb (xa.drop i) r)
      _ ?_ ?_ _ _ ⟨rfl, rfl, 0, by simp, Nat.zero_le _, hits'⟩
    · rintro x rest q s' ⟨rfl, rfl, i, hr, hi, hpre⟩
      have hlt : i < es.size := by
        rcases Nat.lt_or_ge i es.size with h | h
        · exact h
        · rw [Nat.sub_eq_zero_of_le h] at hr; simp at hr
      obtain ⟨rfl, hrest⟩ : x = i ∧ rest = List.range' (i + 1) (es.size - (i + 1)) := by
        have e : es.size - i = (es.size - (i + 1)) + 1 := by omega
        rw [e, List.range'_succ] at hr
        injection hr with h1 h2
        exact ⟨h1, h2⟩
      refine wpAny_bind (wpAny_dictEntries hoa hda ?_)
      have hlt' : x < xa.length := by rw [hla]; exact hlt
      obtain ⟨k, p, hkv⟩ : ∃ k p, xa[x] = (k, p) := ⟨_, _, rfl⟩
      have hdrop : xa.drop x = (k, p) :: xa.drop (x + 1) := by rw [← hkv]; exact List.drop_eq_getElem_cons hlt'
      rw [entry_at hea x, List.getElem?_eq_getElem hlt', hkv]
      have hkey : knd.is s'.heap k p.1 := by
        have := hia (k, p) (by rw [← hkv]; exact List.getElem_mem hlt')
        exact this
      rw [hdrop] at hpre
      show wpAny _ _ (holding [.ref p.1, p.2] _ >>= _) _ _ _
      refine wpAny_bind (wpAny_holding (wpAny_bind (wpAny_dictFind_heap hu hkey hob hdb heb hib hnb ?_ ?_)))
      · intro hno
        have hn : atKey xb k = none := atKey_none_of_get hno
        rcases hpre.inv with ⟨_, er⟩ | ⟨y, _, _, hy, _⟩
        · rw [er] at h'
          refine wpAny_pure ?_
          show wpAny _ _ (if (!false) = true then _ else _) _ _ _
          rw [if_pos (by decide)]
          exact wpAny_pure (wpAny_pure h')
        · rw [hn] at hy; exact nomatch hy
      · intro j p' hj
        have hv' : atKey xb k = some p' := atKey_of_get hnb hj
        refine wpAny_bind (wpAny_dictEntries hob hdb ?_)
        rw [entry_at heb j, hj]
        rcases hpre.inv with ⟨hn, _⟩ | ⟨y, e, b', hy, he, hrr, er⟩
        · rw [hv'] at hn; exact nomatch hn
        · have ey : p' = y := Option.some.inj (hv'.symm.trans hy)
          rw [← ey] at he
          refine wpAny_holding (he prog w _ _ ?_)
          cases e with
          | false =>
            rw [er, Bool.false_and] at h'
            show wpAny _ _ (if (!false) = true then _ else _) _ _ _
            rw [if_pos (by decide)]
            exact wpAny_pure (wpAny_pure h')
          | true =>
            rw [Bool.true_and] at er
            rw [← er] at hrr
            show wpAny _ _ (if (!true) = true then _ else _) _ _ _
            rw [if_neg (by decide)]
            refine wpAny_bind (wpAny_dictEpoch hoa hda ?_)
            rw [if_neg (by simp)]
            exact wpAny_pure ⟨rfl, rfl, x + 1, hrest, hlt, hrr⟩
    · rintro q s' ⟨rfl, rfl, i, hr, hi, hpre⟩
      have hin : i = es.size := by
        rcases Nat.lt_or_ge i es.size with h | h
        · have e : es.size - i = (es.size - (i + 1)) + 1 := by omega
          rw [e, List.range'_succ] at hr; exact nomatch hr
        · exact Nat.le_antisymm hi h
      refine wpAny_pure ?_
      rw [hin, ← hla, List.drop_length] at hpre
      cases hpre
      exact h'
theorem keqH_eq {a b : Addr} {xa xb : List (κ × Addr × Value)} {r : Bool} {Q : Value → Shared → Prop} (hr : knd.room A.in1) (ha : (a == sysModules) = false) (hb : (b == sysModules) = false)
    (da : s.heap.DictOfH knd a xa) (db : s.heap.DictOfH knd b xb) (hu : A.units < cLine) (hits : xa.length = xb.length → HitsH A.in1 s xb xa r) (h : Q (.bool (xa.length == xb.length && r)) s) :
    wpAny (model prog w) A (compareOp .Eq (.ref a) (.ref b)) Q E s := by
  refine wpAny_richCompare_same_room (op := .Eq) da.typeIs db.typeIs PySem.F.slot_dict_eq (wpAny_call_entry PySem.F.slot_dict_eq da.typeIs PySem.F.entry_dict_eq ?_ (PySem.F.args_dict_eq_2 _ _)) hu
  show wpAny _ _ (Builtin.Dict.dictSlotArgs "__eq__" ⟨[.ref a, .ref b], []⟩ >>= _) _ _ s
  refine wpAny_bind ?_
  unfold Builtin.Dict.dictSlotArgs
  refine wpAny_bind (wpAny_notOrdered_dict da.typeIs ?_)
  show wpAny _ _ (pure (Value.ref a, Value.ref b)) _ _ s
  refine wpAny_pure ?_
  refine wpAny_bind (wpAny_isInstance (T := "dict") db.typeIs PySem.F.sub_dict_dict ?_)
  simp only [Bool.not_true, Bool.false_eq_true, if_false]
  refine wpAny_bind (wpAny_pure (wpAny_bind (wpAny_pure ?_)))
  refine wpAny_bind (samePairsH hr ha hb da db hits ?_)
  refine wpAny_pure ⟨_, rfl, ?_, ?_⟩
  · exact fun x => nomatch x
  · simpa using h
theorem keqH_ne {a b : Addr} {xa xb : List (κ × Addr × Value)} {r : Bool} {Q : Value → Shared → Prop} (hr : knd.room A.in1) (ha : (a == sysModules) = false) (hb : (b == sysModules) = false)
    (da : s.heap.DictOfH knd a xa) (db : s.heap.DictOfH knd b xb) (hu : A.units < cLine) (hits : xa.length = xb.length → HitsH A.in1 s xb xa r) (h : Q (.bool (!(xa.length == xb.length && r))) s) :
    wpAny (model prog w) A (compareOp .NotEq (.ref a) (.ref b)) Q E s := by
  refine wpAny_richCompare_same_room (op := .NotEq) da.typeIs db.typeIs PySem.F.slot_dict_ne (wpAny_call_entry PySem.F.slot_dict_ne da.typeIs PySem.F.entry_dict_ne ?_ (PySem.F.args_dict_ne_2 _ _)) hu
  show wpAny _ _ (Builtin.Dict.dictSlotArgs "__ne__" ⟨[.ref a, .ref b], []⟩ >>= _) _ _ s
  refine wpAny_bind ?_
  unfold Builtin.Dict.dictSlotArgs
  refine wpAny_bind (wpAny_notOrdered_dict da.typeIs ?_)
  show wpAny _ _ (pure (Value.ref a, Value.ref b)) _ _ s
  refine wpAny_pure ?_
  refine wpAny_bind (wpAny_isInstance (T := "dict") db.typeIs PySem.F.sub_dict_dict ?_)
  simp only [Bool.not_true, Bool.false_eq_true, if_false]
  refine wpAny_bind (wpAny_pure (wpAny_bind (wpAny_pure ?_)))
  refine wpAny_bind (samePairsH hr ha hb da db hits ?_)
  refine wpAny_pure ⟨_, rfl, ?_, ?_⟩
  · exact fun x => nomatch x
  · simpa using h
end
/-- the pairs of one dict in another one -/
def deqKV {κ : Type} [DecidableEq κ] (kb : List (κ × D)) : List (κ × D) → Option Bool
  | [] => some true
  | (k, v) :: r => match valD kb k with
    | none => some false
    | some y => match deq v y with
      | some e => match deqKV kb r with
        | some b => some (e && b)
        | none => none
      | none => none
def deqKVs {κ : Type} [DecidableEq κ] (ka kb : List (κ × D)) : Option Bool := if ka.length = kb.length then deqKV kb ka else some false
def gEqD : List D → Option Val
  | [.dK a, .dK b] => (deqKVs a b).map fun r => .fz (.bl r)
  | [.dT a, .dT b] => (deqKVs a b).map fun r => .fz (.bl r)
  | _ => none
def gNeD : List D → Option Val
  | [.dK a, .dK b] => (deqKVs a b).map fun r => .fz (.bl (!r))
  | [.dT a, .dT b] => (deqKVs a b).map fun r => .fz (.bl (!r))
  | _ => none
section
variable {X : Cx} {pins : List (Addr × Obj)} {σ : St} {H F : Hp} {s : Shared}
theorem eqAt_d (I : Inv X pins σ H s) (fh : Same F H) {A : Around} (hu : A.units + 20 < cLine) {v v' : V} {u u' : Value} {d d' : D} {b : Bool} (h : Rep X.K F v d) (h' : Rep X.K F v' d') (r : RelV v u) (r' : RelV v' u') (e : deq d d' = some b) : SeqAt.EqAt A s u u' b :=
  eqAt_rep I fh (n := 20) hu h h' r r' e
theorem hitsK (I : Inv X pins σ H s) (fh : Same F H) {A : Around} (hu : A.units + 20 < cLine) {vb : List (Key × V)} {wb : List (Key × Value)} {kb : List (Key × D)} (rb : KV vb wb) (hb : RepKs X.K F vb kb) : ∀ {va : List (Key × V)} {wa : List (Key × Value)} {ka : List (Key × D)} {b : Bool}, KV va wa → RepKs X.K F va ka → deqKV kb ka = some b → PySem.W.KeqHits A s wb wa b
  | [], _, ka, b, .nil, h, e => by cases h.inv0; cases e; exact .nil
  | (k, v) :: va, (k', u) :: wa, ka, b, .cons h1 t, h, e => by
    obtain ⟨q, ka', rfl, e0, r, h'⟩ := h.inv
    obtain ⟨kq, dq⟩ := q
    obtain ⟨hk, ru⟩ := h1
    simp only at e0 hk r ru
    subst e0; subst hk
    unfold deqKV at e
    have rv := rb.val k
    cases ev : valD kb k with
    | none =>
      rw [ev] at e
      cases e
      have en : valV vb k = none := (val_rep k hb).2 ev
      rw [en] at rv
      cases ew : valueAt wb k with
      | none => exact .miss ew
      | some y => rw [ew] at rv; exact rv.elim
    | some y =>
      rw [ev] at e
      dsimp only at e
      obtain ⟨vy, e1, ry⟩ := (val_rep k hb).1 y ev
      rw [e1] at rv
      cases ew : valueAt wb k with
      | none => rw [ew] at rv; exact rv.elim
      | some uy =>
        rw [ew] at rv
        cases ed : deq dq y with
        | none => rw [ed] at e; cases e
        | some eb =>
          rw [ed] at e
          dsimp only at e
          cases er : deqKV kb ka' with
          | none => rw [er] at e; cases e
          | some b' =>
            rw [er] at e; cases e
            exact .hit ew (eqAt_d I fh hu r ry ru rv ed) (hitsK I fh hu rb hb t h' er)
theorem hitsT (I : Inv X pins σ H s) (fh : Same F H) {A : Around} (hu : A.units + 20 < cLine) {vb : List (List Key × V)} {wb : List (List Key × Addr × Value)} {kb : List (List Key × D)} (rb : KT H vb wb) (hb : RepKs X.K F vb kb) : ∀ {va : List (List Key × V)} {wa : List (List Key × Addr × Value)} {ka : List (List Key × D)} {b : Bool}, KT H va wa → RepKs X.K F va ka → deqKV kb ka = some b → HitsH A s wb wa b
  | [], _, ka, b, .nil, h, e => by cases h.inv0; cases e; exact .nil
  | (k, v) :: va, (k', q0, u) :: wa, ka, b, .cons h1 t, h, e => by
    obtain ⟨q, ka', rfl, e0, r, h'⟩ := h.inv
    obtain ⟨kq, dq⟩ := q
    obtain ⟨hk, _, ru⟩ := h1
    simp only at e0 hk r ru
    subst e0; subst hk
    unfold deqKV at e
    have rv := KT.val rb k
    cases ev : valD kb k with
    | none =>
      rw [ev] at e
      cases e
      have en : valV vb k = none := (val_rep k hb).2 ev
      rw [en] at rv
      cases ew : atKey wb k with
      | none => exact .miss ew
      | some y => rw [ew] at rv; exact rv.elim
    | some y =>
      rw [ev] at e
      dsimp only at e
      obtain ⟨vy, e1, ry⟩ := (val_rep k hb).1 y ev
      rw [e1] at rv
      cases ew : atKey wb k with
      | none => rw [ew] at rv; exact rv.elim
      | some uy =>
        rw [ew] at rv
        cases ed : deq dq y with
        | none => rw [ed] at e; cases e
        | some eb =>
          rw [ed] at e
          dsimp only at e
          cases er : deqKV kb ka' with
          | none => rw [er] at e; cases e
          | some b' =>
            rw [er] at e; cases e
            exact .hit ew (eqAt_d I fh hu r ry ru rv ed) (hitsT I fh hu rb hb t h' er)
end
section
variable {X : Cx} {W : WX} {R : Hp} {P : List (Option V)} {a b : Expr} {ma mb : DEnv → ER} {pos : Pos}
theorem opd_eqD (hu : X.A.units + 64 < cLine) : OpR X (compareOp .Eq) (r2G X.K gEqD) := by
  intro pins s σ H x y v u Q I rx ry ⟨σ', F, ds, rv, fh, h, e, k⟩
  obtain ⟨dx, dy, rfl, hx, hy⟩ := rd2 h
  unfold gEqD at e
  split at e
  · rename_i ka kb he
    cases he
    cases hx with
    | dK ha hi => cases hy with
      | dK hb hj =>
        cases rx; cases ry
        obtain ⟨z1, y1, wa, ra, da⟩ := dk_rd I.hok ha
        obtain ⟨z2, y2, wb, rb, db⟩ := dk_rd I.hok hb
        unfold deqKVs at e
        have l1 : wa.length = ka.length := by rw [← ra.length, RepKs.length hi]
        have l2 : wb.length = kb.length := by rw [← rb.length, RepKs.length hj]
        split at e
        · rename_i hl
          cases ed : deqKV kb ka with
          | none => rw [ed] at e; cases e
          | some b =>
            rw [ed] at e; cases e
            refine PySem.W.keq_eq y1 y2 da db (by omega) (fun _ => hitsK I fh (by show X.A.units + 1 + 20 < cLine; omega) rb hj ra hi ed) ⟨.bl b, H, I, ?_, k.atom (X := X) fh (.bl _)⟩
            rw [l1, l2, hl]; simp; rfl
        · rename_i hl
          cases e
          refine PySem.W.keq_eq (r := false) y1 y2 da db (by omega) (fun q => absurd (by omega) hl) ⟨.bl false, H, I, ?_, k.atom (X := X) fh (.bl _)⟩
          simp; rfl
  · rename_i ka kb he
    cases he
    cases hx with
    | dT ha hi => cases hy with
      | dT hb hj =>
        cases rx; cases ry
        obtain ⟨z1, y1, wa, ra, da⟩ := dt_rd I.hok ha
        obtain ⟨z2, y2, wb, rb, db⟩ := dt_rd I.hok hb
        unfold deqKVs at e
        have l1 : wa.length = ka.length := by rw [← Paired.length ra, RepKs.length hi]
        have l2 : wb.length = kb.length := by rw [← Paired.length rb, RepKs.length hj]
        split at e
        · rename_i hl
          cases ed : deqKV kb ka with
          | none => rw [ed] at e; cases e
          | some b =>
            rw [ed] at e; cases e
            refine keqH_eq (tupleKind_room_in1 (units1 hu)) y1 y2 da db (by omega) (fun _ => hitsT I fh (by show X.A.units + 1 + 20 < cLine; omega) rb hj ra hi ed) ⟨.bl b, H, I, ?_, k.atom (X := X) fh (.bl _)⟩
            rw [l1, l2, hl]; simp; rfl
        · rename_i hl
          cases e
          refine keqH_eq (r := false) (tupleKind_room_in1 (units1 hu)) y1 y2 da db (by omega) (fun q => absurd (by omega) hl) ⟨.bl false, H, I, ?_, k.atom (X := X) fh (.bl _)⟩
          simp; rfl
  · cases e
theorem opd_neD (hu : X.A.units + 64 < cLine) : OpR X (compareOp .NotEq) (r2G X.K gNeD) := by
  intro pins s σ H x y v u Q I rx ry ⟨σ', F, ds, rv, fh, h, e, k⟩
  obtain ⟨dx, dy, rfl, hx, hy⟩ := rd2 h
  unfold gNeD at e
  split at e
  · rename_i ka kb he
    cases he
    cases hx with
    | dK ha hi => cases hy with
      | dK hb hj =>
        cases rx; cases ry
        obtain ⟨z1, y1, wa, ra, da⟩ := dk_rd I.hok ha
        obtain ⟨z2, y2, wb, rb, db⟩ := dk_rd I.hok hb
        unfold deqKVs at e
        have l1 : wa.length = ka.length := by rw [← ra.length, RepKs.length hi]
        have l2 : wb.length = kb.length := by rw [← rb.length, RepKs.length hj]
        split at e
        · rename_i hl
          cases ed : deqKV kb ka with
          | none => rw [ed] at e; cases e
          | some b =>
            rw [ed] at e; cases e
            refine PySem.W.keq_ne y1 y2 da db (by omega) (fun _ => hitsK I fh (by show X.A.units + 1 + 20 < cLine; omega) rb hj ra hi ed) ⟨.bl (!b), H, I, ?_, k.atom (X := X) fh (.bl _)⟩
            rw [l1, l2, hl]; simp; rfl
        · rename_i hl
          cases e
          refine PySem.W.keq_ne (r := false) y1 y2 da db (by omega) (fun q => absurd (by omega) hl) ⟨.bl (!false), H, I, ?_, k.atom (X := X) fh (.bl _)⟩
          simp; rfl
  · rename_i ka kb he
    cases he
    cases hx with
    | dT ha hi => cases hy with
      | dT hb hj =>
        cases rx; cases ry
        obtain ⟨z1, y1, wa, ra, da⟩ := dt_rd I.hok ha
        obtain ⟨z2, y2, wb, rb, db⟩ := dt_rd I.hok hb
        unfold deqKVs at e
        have l1 : wa.length = ka.length := by rw [← Paired.length ra, RepKs.length hi]
        have l2 : wb.length = kb.length := by rw [← Paired.length rb, RepKs.length hj]
        split at e
        · rename_i hl
          cases ed : deqKV kb ka with
          | none => rw [ed] at e; cases e
          | some b =>
            rw [ed] at e; cases e
            refine keqH_ne (tupleKind_room_in1 (units1 hu)) y1 y2 da db (by omega) (fun _ => hitsT I fh (by show X.A.units + 1 + 20 < cLine; omega) rb hj ra hi ed) ⟨.bl (!b), H, I, ?_, k.atom (X := X) fh (.bl _)⟩
            rw [l1, l2, hl]; simp; rfl
        · rename_i hl
          cases e
          refine keqH_ne (r := false) (tupleKind_room_in1 (units1 hu)) y1 y2 da db (by omega) (fun q => absurd (by omega) hl) ⟨.bl (!false), H, I, ?_, k.atom (X := X) fh (.bl _)⟩
          simp; rfl
  · cases e
end
end DX

namespace DX
open PySem PySem.Spec L2
open PyProof.Rows hiding St

/-! ### x in l, by == of data of any depth -/
def anyD (x : D) : List D → Option Bool
  | [] => some false
  | y :: ys => match deq y x with
    | some b => match anyD x ys with
      | some c => some (b || c)
      | none => none
    | none => none
def gInDN (neg : Bool) : List D → Option Val
  | [x, .lst ys] => (anyD x ys).map fun b => .fz (.bl (if neg then !b else b))
  | [x, .tup ys] => (anyD x ys).map fun b => .fz (.bl (if neg then !b else b))
  | [.str s, .str z] => match s.cps.toList with
    | [c] => some (.fz (.bl (if neg then !decide (c ∈ z.cps.toList) else decide (c ∈ z.cps.toList))))
    | _ => none
  | _ => none
theorem anyD_fn {x : D} : ∀ {ys : List D} {b : Bool}, anyD x ys = some b → (∀ y ∈ ys, ∃ e, deq y x = some e) ∧ b = ys.any fun y => (deq y x).getD false
  | [], b, h => by cases h; exact ⟨fun y hy => (nomatch hy), rfl⟩
  | y :: ys, b, h => by
    unfold anyD at h
    cases e1 : deq y x with
    | none => rw [e1] at h; cases h
    | some e =>
      rw [e1] at h
      dsimp only at h
      cases e2 : anyD x ys with
      | none => rw [e2] at h; cases h
      | some c =>
        rw [e2] at h; cases h
        obtain ⟨h1, h2⟩ := anyD_fn e2
        refine ⟨fun z hz => ?_, ?_⟩
        · rcases List.mem_cons.1 hz with rfl | hz
          · exact ⟨e, e1⟩
          · exact h1 z hz
        · simp [e1, h2]
section
variable {X : Cx} {pins : List (Addr × Obj)} {σ : St} {H F : Hp} {s : Shared}
/-- the frozen part of what is read at the top -/
theorem repH_lift {K : PySem.W.Frag} {v : V} {d : D} (fh : Same F H) (h : RepH K H F v d) : Rep K H v d ∨ (∃ k, d = .dK k) ∨ ∃ k, d = .dT k := by
  cases h with
  | non => exact .inl .non
  | bl b => exact .inl (.bl b)
  | int i => exact .inl (.int i)
  | str s => exact .inl (.str s)
  | tup h hk hi => exact .inl (.tup h hk (hi.mono fh).1 (hi.mono fh).2)
  | scr h => exact .inl (.scr h)
  | lst h hi => exact .inl (.lst h (hi.mono fh).1 (hi.mono fh).2)
  | dK h hi => exact .inr (.inl ⟨_, rfl⟩)
  | dT h hi => exact .inr (.inr ⟨_, rfl⟩)
theorem any_items (I : Inv X pins σ H s) {A : Around} (hu : A.units + 20 < cLine) {x : D} {vx : V} {ux : Value} (hx : Rep X.K H vx x) (rx : RelV vx ux) : ∀ {vs : List V} {its : List Value} {ys : List D}, Vals vs its → Reps X.K H vs ys → (∀ y ∈ ys, ∃ e, deq y x = some e) →
    ∃ f : Value → Bool, (∀ u ∈ its, SeqAt.EqAt A s u ux (f u)) ∧ its.any f = ys.any fun y => (deq y x).getD false := by
  intro vs its ys r h he
  -- each value stands for data
  have lens : its.length = ys.length := by rw [← r.length]; exact h.1
  have at_ : ∀ j (hj : j < its.length), SeqAt.EqAt A s its[j] ux ((deq (ys[j]'(by omega)) x).getD false) := fun j hj => by
    obtain ⟨v, d, h1, h2, h3, h4⟩ := items_rep r h hj
    have hd : d = ys[j]'(by omega) := by rw [List.getElem?_eq_getElem (by omega)] at h2; exact (Option.some.inj h2).symm
    subst hd
    obtain ⟨e, ee⟩ := he _ (List.getElem_mem (by omega : j < ys.length))
    rw [ee]
    exact eqAt_d I (Same.refl H) hu h4 hx h3 rx ee
  classical
  -- equal values have equal outcomes
  refine ⟨fun u => decide (∃ j, ∃ hj : j < its.length, its[j] = u ∧ (deq (ys[j]'(by omega)) x).getD false = true), fun u hu' => ?_, ?_⟩
  · show SeqAt.EqAt A s u ux (decide (∃ j, ∃ hj : j < its.length, its[j] = u ∧ (deq (ys[j]'(by omega)) x).getD false = true))
    obtain ⟨j, hj, ej⟩ := List.getElem_of_mem hu'
    have base := at_ j hj
    rw [ej] at base
    by_cases hb : ∃ j, ∃ hj : j < its.length, its[j] = u ∧ (deq (ys[j]'(by omega)) x).getD false = true
    · obtain ⟨j2, hj2, e2, e3⟩ := hb
      have b2 := at_ j2 hj2
      rw [e2, e3] at b2
      rw [decide_eq_true ⟨j2, hj2, e2, e3⟩]
      exact b2
    · rw [decide_eq_false hb]
      have : (deq (ys[j]'(by omega)) x).getD false = false := by
        cases q : (deq (ys[j]'(by omega)) x).getD false with
        | false => rfl
        | true => exact absurd ⟨j, hj, ej, q⟩ hb
      rw [this] at base
      exact base
  · rw [Bool.eq_iff_iff, List.any_eq_true, List.any_eq_true]
    constructor
    · rintro ⟨u, hu', hd⟩
      obtain ⟨j, hj, _, e3⟩ := of_decide_eq_true hd
      exact ⟨_, List.getElem_mem (by omega : j < ys.length), e3⟩
    · rintro ⟨y, hy, e3⟩
      obtain ⟨j, hj, ej⟩ := List.getElem_of_mem hy
      subst ej
      exact ⟨its[j]'(by omega), List.getElem_mem _, decide_eq_true ⟨j, by omega, rfl, e3⟩⟩
theorem op_inDN (hu : X.A.units + 64 < cLine) : OpR X (compareOp .In) (fun x y H Q => ∃ F dx ys, Same F H ∧ RepH X.K H F x dx ∧ (RepH X.K H F y (.lst ys) ∨ RepH X.K H F y (.tup ys)) ∧ (∀ y ∈ ys, ∃ e, deq y dx = some e) ∧ (ys ≠ [] → (∀ k, dx ≠ .dK k) ∧ ∀ k, dx ≠ .dT k) ∧ Q (.bl (ys.any fun y => (deq y dx).getD false)) H) := by
  intro pins s σ H x y v u Q I rx ry ⟨F, dx, ys, fh, hx, hy, he, hd, q⟩
  have go : ∀ {vs : List V} {its : List Value}, Vals vs its → Reps X.K F vs ys → ∃ f : Value → Bool, (∀ w ∈ its, SeqAt.EqAt X.A.in1 s w v (f w)) ∧ its.any f = ys.any fun y => (deq y dx).getD false := fun {vs its} r h => by
    cases ys with
    | nil =>
      cases vs with
      | nil => cases r; exact ⟨fun _ => false, fun w hw => (nomatch hw), rfl⟩
      | cons => have := h.1; simp at this
    | cons y0 ys =>
      obtain ⟨n1, n2⟩ := hd (by simp)
      have hx' : Rep X.K H x dx := by
        rcases repH_lift fh hx with h | ⟨k, h⟩ | ⟨k, h⟩
        · exact h
        · exact absurd h (n1 k)
        · exact absurd h (n2 k)
      exact any_items I (by show X.A.units + 1 + 20 < cLine; omega) hx' rx r (h.mono fh) he
  rcases hy with hy | hy
  · obtain ⟨a, rfl⟩ : ∃ a, y = .ref a := by cases hy; exact ⟨_, rfl⟩
    cases ry
    obtain ⟨vs, its, r, hr, p, hl⟩ := rep_lst I hy
    obtain ⟨f, h1, h2⟩ := go r hr
    refine SeqAt.in_listAt f p (fun w hw => h1 w (by simpa using hw)) ⟨.bl _, H, I, rfl, ?_⟩
    rw [show its.toArray.any f = its.any f by simp, h2]
    exact q
  · obtain ⟨a, rfl⟩ : ∃ a, y = .ref a := by cases hy; exact ⟨_, rfl⟩
    cases ry
    obtain ⟨vs, its, r, hr, p, hl⟩ := rep_tup I hy
    obtain ⟨f, h1, h2⟩ := go r hr
    refine SeqAt.in_tupleAt f p (fun w hw => h1 w (by simpa using hw)) ⟨.bl _, H, I, rfl, ?_⟩
    rw [show its.toArray.any f = its.any f by simp, h2]
    exact q
theorem op_notInDN (hu : X.A.units + 64 < cLine) : OpR X (compareOp .NotIn) (fun x y H Q => ∃ F dx ys, Same F H ∧ RepH X.K H F x dx ∧ (RepH X.K H F y (.lst ys) ∨ RepH X.K H F y (.tup ys)) ∧ (∀ y ∈ ys, ∃ e, deq y dx = some e) ∧ (ys ≠ [] → (∀ k, dx ≠ .dK k) ∧ ∀ k, dx ≠ .dT k) ∧ Q (.bl (!ys.any fun y => (deq y dx).getD false)) H) := by
  intro pins s σ H x y v u Q I rx ry ⟨F, dx, ys, fh, hx, hy, he, hd, q⟩
  have go : ∀ {vs : List V} {its : List Value}, Vals vs its → Reps X.K F vs ys → ∃ f : Value → Bool, (∀ w ∈ its, SeqAt.EqAt X.A.in1 s w v (f w)) ∧ its.any f = ys.any fun y => (deq y dx).getD false := fun {vs its} r h => by
    cases ys with
    | nil =>
      cases vs with
      | nil => cases r; exact ⟨fun _ => false, fun w hw => (nomatch hw), rfl⟩
      | cons => have := h.1; simp at this
    | cons y0 ys =>
      obtain ⟨n1, n2⟩ := hd (by simp)
      have hx' : Rep X.K H x dx := by
        rcases repH_lift fh hx with h | ⟨k, h⟩ | ⟨k, h⟩
        · exact h
        · exact absurd h (n1 k)
        · exact absurd h (n2 k)
      exact any_items I (by show X.A.units + 1 + 20 < cLine; omega) hx' rx r (h.mono fh) he
  rcases hy with hy | hy
  · obtain ⟨a, rfl⟩ : ∃ a, y = .ref a := by cases hy; exact ⟨_, rfl⟩
    cases ry
    obtain ⟨vs, its, r, hr, p, hl⟩ := rep_lst I hy
    obtain ⟨f, h1, h2⟩ := go r hr
    refine SeqAt.notIn_listAt f p (fun w hw => h1 w (by simpa using hw)) ⟨.bl _, H, I, rfl, ?_⟩
    rw [show its.toArray.any f = its.any f by simp, h2]
    exact q
  · obtain ⟨a, rfl⟩ : ∃ a, y = .ref a := by cases hy; exact ⟨_, rfl⟩
    cases ry
    obtain ⟨vs, its, r, hr, p, hl⟩ := rep_tup I hy
    obtain ⟨f, h1, h2⟩ := go r hr
    refine SeqAt.notIn_tupleAt f p (fun w hw => h1 w (by simpa using hw)) ⟨.bl _, H, I, rfl, ?_⟩
    rw [show its.toArray.any f = its.any f by simp, h2]
    exact q
theorem deq_dct {y : D} : (∀ k, deq y (.dK k) = none) ∧ ∀ k, deq y (.dT k) = none := ⟨fun k => by cases y <;> rfl, fun k => by cases y <;> rfl⟩
theorem opd_inD (hu : X.A.units + 64 < cLine) : OpR X (compareOp .In) (r2G X.K (gInDN false)) := opImp (OpR.or (op_inDN hu) (opd_in (X := X))) fun x y H Q ⟨σ, F, ds, rv, fh, h, e, k⟩ => by
  obtain ⟨dx, dy, rfl, hx, hy⟩ := rd2 h
  unfold gInDN at e
  have ne : ∀ {ys : List D} {b : Bool}, anyD dx ys = some b → ys ≠ [] → (∀ k, dx ≠ .dK k) ∧ ∀ k, dx ≠ .dT k := fun {ys b} ea hn => by
    obtain ⟨h1, _⟩ := anyD_fn ea
    cases ys with
    | nil => exact absurd rfl hn
    | cons y0 ys =>
      obtain ⟨e0, ee⟩ := h1 y0 List.mem_cons_self
      exact ⟨fun k z => (by rw [z, deq_dct.1 k] at ee; cases ee), fun k z => (by rw [z, deq_dct.2 k] at ee; cases ee)⟩
  split at e
  · rename_i x0 ys he
    cases he
    cases ea : anyD dx ys with
    | none => rw [ea] at e; cases e
    | some b =>
      rw [ea] at e; cases e
      obtain ⟨h1, h2⟩ := anyD_fn ea
      exact .inl ⟨F, dx, ys, fh, hx, .inl hy, h1, ne ea, by rw [← h2]; exact k.atom (X := X) fh (.bl _)⟩
  · rename_i x0 ys he
    cases he
    cases ea : anyD dx ys with
    | none => rw [ea] at e; cases e
    | some b =>
      rw [ea] at e; cases e
      obtain ⟨h1, h2⟩ := anyD_fn ea
      exact .inl ⟨F, dx, ys, fh, hx, .inr hy, h1, ne ea, by rw [← h2]; exact k.atom (X := X) fh (.bl _)⟩
  · rename_i s z he
    cases he
    exact .inr ⟨σ, F, [.str s, .str z], rv, fh, h, e, k⟩
  · cases e
theorem opd_notInD (hu : X.A.units + 64 < cLine) : OpR X (compareOp .NotIn) (r2G X.K (gInDN true)) := opImp (OpR.or (op_notInDN hu) (opd_notIn (X := X))) fun x y H Q ⟨σ, F, ds, rv, fh, h, e, k⟩ => by
  obtain ⟨dx, dy, rfl, hx, hy⟩ := rd2 h
  unfold gInDN at e
  have ne : ∀ {ys : List D} {b : Bool}, anyD dx ys = some b → ys ≠ [] → (∀ k, dx ≠ .dK k) ∧ ∀ k, dx ≠ .dT k := fun {ys b} ea hn => by
    obtain ⟨h1, _⟩ := anyD_fn ea
    cases ys with
    | nil => exact absurd rfl hn
    | cons y0 ys =>
      obtain ⟨e0, ee⟩ := h1 y0 List.mem_cons_self
      exact ⟨fun k z => (by rw [z, deq_dct.1 k] at ee; cases ee), fun k z => (by rw [z, deq_dct.2 k] at ee; cases ee)⟩
  split at e
  · rename_i x0 ys he
    cases he
    cases ea : anyD dx ys with
    | none => rw [ea] at e; cases e
    | some b =>
      rw [ea] at e; cases e
      obtain ⟨h1, h2⟩ := anyD_fn ea
      exact .inl ⟨F, dx, ys, fh, hx, .inl hy, h1, ne ea, by rw [← h2]; exact k.atom (X := X) fh (.bl _)⟩
  · rename_i x0 ys he
    cases he
    cases ea : anyD dx ys with
    | none => rw [ea] at e; cases e
    | some b =>
      rw [ea] at e; cases e
      obtain ⟨h1, h2⟩ := anyD_fn ea
      exact .inl ⟨F, dx, ys, fh, hx, .inr hy, h1, ne ea, by rw [← h2]; exact k.atom (X := X) fh (.bl _)⟩
  · rename_i s z he
    cases he
    exact .inr ⟨σ, F, [.str s, .str z], rv, fh, h, e, k⟩
  · cases e
end
end DX

namespace DX
open PySem PySem.Spec L2
open PyProof.Rows hiding St

/-! ### max and min of two texts -/
section
variable {prog : Program} {w : World} {A : Around} {E : Value → Shared → Prop} {s : Shared}
def strAt (a b : Str) (i : Nat) : Str := if i = 0 then a else b
theorem pair_at {a b : Str} {t u : Tok} {i : Nat} {v : Value} (h : (#[Value.str a t, Value.str b u] : Array Value)[i]? = some v) : ∃ k, v = .str (strAt a b i) k := by
  match i, h with
  | 0, h => cases h; exact ⟨t, rfl⟩
  | 1, h => cases h; exact ⟨u, rfl⟩
theorem cmp_gtS {P : Nat → Value → Prop} (f : Nat → Str) (hf : ∀ i v, P i v → ∃ k, v = .str (f i) k) : CmpOf prog w A .Gt P fun i j => decide ((f j).cps.toList < (f i).cps.toList) := fun i j vi vj s Q E hi hj h => by
  obtain ⟨t, rfl⟩ := hf i vi hi
  obtain ⟨u, rfl⟩ := hf j vj hj
  exact PySem.P.gt_str h
theorem cmp_ltS {P : Nat → Value → Prop} (f : Nat → Str) (hf : ∀ i v, P i v → ∃ k, v = .str (f i) k) : CmpOf prog w A .Lt P fun i j => decide ((f i).cps.toList < (f j).cps.toList) := fun i j vi vj s Q E hi hj h => by
  obtain ⟨t, rfl⟩ := hf i vi hi
  obtain ⟨u, rfl⟩ := hf j vj hj
  exact lt_str h
theorem best_two {bt : Nat → Nat → Bool} {a b v : Value} (h : (#[a, b] : Array Value)[argBest bt 1]? = some v) : v = if bt 1 0 = true then b else a := by
  have e : argBest bt 1 = if bt 1 0 = true then 1 else 0 := by simp [argBest]
  rw [e] at h
  by_cases hb : bt 1 0 = true
  · rw [if_pos hb] at h ⊢; simpa using h.symm
  · rw [if_neg hb] at h ⊢; simpa using h.symm
theorem max_two_strs {a b : Str} {t u : Tok} {Q : Value → Shared → Prop} (hh : A.handled = none)
    (h : ∀ h' tk k, (∀ c o, s.heap.get? c = some o → h'.get? c = some o) → Q (.str (if a.cps.toList < b.cps.toList then b else a) k) { s with heap := h', toks := tk }) : wpAny (model prog w) A (call (.builtin "max") [.str a t, .str b u]) Q E s := by
  have hT : (s.heap.push { cls := .type "tuple", data := .seq #[.str a t, .str b u] }).IsTuple s.heap.objs.size #[.str a t, .str b u] := ⟨_, Heap.get?_push_size _ rfl, rfl, 0, rfl⟩
  have hsz : (s.heap.push { cls := .type "tuple", data := .seq #[.str a t, .str b u] }).objs.size = s.heap.objs.size + 1 := Heap.size_push ..
  refine call_max_two (wpAny_pyIter_tuple hT ⟨_, [_, s.heap.objs.size], [_], _, _, _, _, rfl, Walks.tuple (A := A.in1) hh _ s.heap.objs.size (by rw [hsz]; exact Nat.ne_of_lt (Nat.lt_succ_self _)) #[.str a t, .str b u],
    ⟨⟨_, Heap.get?_push_size _ rfl, rfl, rfl⟩, hT.push _⟩, fun c hc => ?_, Nat.succ_pos _, cmp_gtS (strAt a b) (fun i v => pair_at), fun v h' tk hP hk => ?_⟩)
  · show c < ((s.heap.push _).push _).objs.size
    have h1 : ((s.heap.push { cls := .type "tuple", data := .seq #[.str a t, .str b u] }).push { cls := .type "tuple_iterator", data := .fields #[.ref s.heap.objs.size, .int 0 0] }).objs.size = s.heap.objs.size + 2 := by rw [Heap.size_push, hsz]
    rcases List.mem_cons.mp hc with e | e
    · rw [e, Heap.size_push, h1]; exact Nat.lt_succ_self _
    · rcases List.mem_cons.mp e with e | e
      · rw [e, Heap.size_push, hsz]; exact Nat.lt_succ_of_lt (Nat.lt_succ_self _)
      · cases e
  · have hold : ∀ c o, s.heap.get? c = some o → h'.get? c = some o := fun c o e => by
      refine hk c o (fun hm => ?_) (Heap.get?_push_of_some _ (Heap.get?_push_of_some _ e))
      have e1 := List.mem_singleton.1 hm
      have := Heap.lt_size e; rw [e1, hsz] at this; exact absurd this (Nat.not_lt.2 (Nat.le_succ _))
    have hv := best_two hP
    have sA : ∀ k, strAt a b k = if k = 0 then a else b := fun _ => rfl
    by_cases hba : a.cps.toList < b.cps.toList
    · have e : decide ((strAt a b 0).cps.toList < (strAt a b 1).cps.toList) = true := by simpa [strAt] using hba
      rw [if_pos e] at hv
      have := h h' tk u hold
      rw [if_pos hba] at this
      rw [hv]; exact this
    · have e : ¬ decide ((strAt a b 0).cps.toList < (strAt a b 1).cps.toList) = true := by simpa [strAt] using hba
      rw [if_neg e] at hv
      have := h h' tk t hold
      rw [if_neg hba] at this
      rw [hv]; exact this
theorem min_two_strs {a b : Str} {t u : Tok} {Q : Value → Shared → Prop} (hh : A.handled = none)
    (h : ∀ h' tk k, (∀ c o, s.heap.get? c = some o → h'.get? c = some o) → Q (.str (if b.cps.toList < a.cps.toList then b else a) k) { s with heap := h', toks := tk }) : wpAny (model prog w) A (call (.builtin "min") [.str a t, .str b u]) Q E s := by
  have hT : (s.heap.push { cls := .type "tuple", data := .seq #[.str a t, .str b u] }).IsTuple s.heap.objs.size #[.str a t, .str b u] := ⟨_, Heap.get?_push_size _ rfl, rfl, 0, rfl⟩
  have hsz : (s.heap.push { cls := .type "tuple", data := .seq #[.str a t, .str b u] }).objs.size = s.heap.objs.size + 1 := Heap.size_push ..
  refine call_min_two (wpAny_pyIter_tuple hT ⟨_, [_, s.heap.objs.size], [_], _, _, _, _, rfl, Walks.tuple (A := A.in1) hh _ s.heap.objs.size (by rw [hsz]; exact Nat.ne_of_lt (Nat.lt_succ_self _)) #[.str a t, .str b u],
    ⟨⟨_, Heap.get?_push_size _ rfl, rfl, rfl⟩, hT.push _⟩, fun c hc => ?_, Nat.succ_pos _, cmp_ltS (strAt a b) (fun i v => pair_at), fun v h' tk hP hk => ?_⟩)
  · show c < ((s.heap.push _).push _).objs.size
    have h1 : ((s.heap.push { cls := .type "tuple", data := .seq #[.str a t, .str b u] }).push { cls := .type "tuple_iterator", data := .fields #[.ref s.heap.objs.size, .int 0 0] }).objs.size = s.heap.objs.size + 2 := by rw [Heap.size_push, hsz]
    rcases List.mem_cons.mp hc with e | e
    · rw [e, Heap.size_push, h1]; exact Nat.lt_succ_self _
    · rcases List.mem_cons.mp e with e | e
      · rw [e, Heap.size_push, hsz]; exact Nat.lt_succ_of_lt (Nat.lt_succ_self _)
      · cases e
  · have hold : ∀ c o, s.heap.get? c = some o → h'.get? c = some o := fun c o e => by
      refine hk c o (fun hm => ?_) (Heap.get?_push_of_some _ (Heap.get?_push_of_some _ e))
      have e1 := List.mem_singleton.1 hm
      have := Heap.lt_size e; rw [e1, hsz] at this; exact absurd this (Nat.not_lt.2 (Nat.le_succ _))
    have hv := best_two hP
    by_cases hba : b.cps.toList < a.cps.toList
    · have e : decide ((strAt a b 1).cps.toList < (strAt a b 0).cps.toList) = true := by simpa [strAt] using hba
      rw [if_pos e] at hv
      have := h h' tk u hold
      rw [if_pos hba] at this
      rw [hv]; exact this
    · have e : ¬ decide ((strAt a b 1).cps.toList < (strAt a b 0).cps.toList) = true := by simpa [strAt] using hba
      rw [if_neg e] at hv
      have := h h' tk t hold
      rw [if_neg hba] at this
      rw [hv]; exact this
end
def gMaxS : List D → Option Val
  | [.str a, .str b] => some (.fz (.str (if strLt a b then b else a)))
  | _ => none
def gMinS : List D → Option Val
  | [.str a, .str b] => some (.fz (.str (if strLt b a then b else a)))
  | _ => none
section
variable {X : Cx}
theorem callSMax (hc : X.calm = true) : CallR X (.builtin "max") (rG X.K gMaxS) := by
  intro pins s σ H xs us Q I r ⟨σ', F, ds, rv, fh, h, e, k⟩
  unfold gMaxS at e; split at e
  · rename_i a b
    cases e; obtain ⟨x, y, rfl, hx, hy⟩ := twoH h; cases hx; cases hy
    obtain ⟨u, w', rfl, ⟨t, rfl⟩, ⟨t', rfl⟩⟩ := vals2 r
    refine max_two_strs (I.ok.hd hc) fun h' tk k' kp => ⟨.str _, H, I.kept kp, ⟨k', rfl⟩, ?_⟩
    have := k.atom (X := X) fh (.str _)
    simpa using this
  · cases e
theorem callSMin (hc : X.calm = true) : CallR X (.builtin "min") (rG X.K gMinS) := by
  intro pins s σ H xs us Q I r ⟨σ', F, ds, rv, fh, h, e, k⟩
  unfold gMinS at e; split at e
  · rename_i a b
    cases e; obtain ⟨x, y, rfl, hx, hy⟩ := twoH h; cases hx; cases hy
    obtain ⟨u, w', rfl, ⟨t, rfl⟩, ⟨t', rfl⟩⟩ := vals2 r
    refine min_two_strs (I.ok.hd hc) fun h' tk k' kp => ⟨.str _, H, I.kept kp, ⟨k', rfl⟩, ?_⟩
    have := k.atom (X := X) fh (.str _)
    simpa using this
  · cases e
/-- xs.extend(ys), a name's list -/
theorem lm_extend : LMut X.K (fun x vs H Q => ∃ l b xs zs, x = .ref l ∧ vs = [.ref b] ∧ H l = some (.lst xs) ∧ Rd H b (.lst zs) ∧ xs.length + zs.length ≤ sizeLine ∧ Q .non (upd H l (.lst (xs ++ zs)))) gExtend := fun a xs vs ds as rd ys F H Q fh h hi ha e k => by
  unfold gExtend at e
  split at e
  · split at e
    · rename_i y hl
      cases e
      obtain ⟨v, rfl, rv⟩ := ha.one
      cases rv with
      | lst hb hl2 hj => exact ⟨a, _, xs, _, rfl, rfl, h, Rd.mono fh hb, by rw [hi.1, hl2]; exact hl, k _ _ .non (hi.append ⟨hl2, hj⟩)⟩
    · cases e
  · cases e
end
end DX

namespace DX
open PySem PySem.Spec L2
open PyProof.Rows hiding St

/-! ### sorted: whatever reads as data -/
def pyN : Nat → D → PyData
  | _, .bl b => .bool b
  | _, .int i => .int i
  | _, .str s => .str s
  | n + 1, .tup xs => .tuple (xs.map (pyN n))
  | n + 1, .lst xs => .list (xs.map (pyN n))
  | _, _ => .none
def okN : Nat → D → Bool
  | _, .non => true
  | _, .bl _ => true
  | _, .int _ => true
  | _, .str _ => true
  | n + 1, .tup xs => xs.all (okN n)
  | n + 1, .lst xs => xs.all (okN n)
  | _, _ => false
abbrev pyD := pyN 4
def leD (a b : D) : Bool := PySem.W.dataLe false pyD a b
def isTupN : D → Bool
  | .tup (_ :: _) => true
  | _ => false
def notTup : D → Bool
  | .tup _ => false
  | .non => false
  | _ => true
def sortOk (ks : List D) : Bool := ks.all (okN 4) && (ks.all fun x => ks.all fun y => PySem.W.alike (pyD x) (pyD y)) && (ks.all isTupN || ks.all notTup)
def gSortedT : List D → Option Val
  | [.lst xs] => if sortOk xs = true ∧ xs.length ≤ sizeLine then some (.tmp (.lst (xs.mergeSort leD))) else none
  | _ => none
section
variable {X : Cx} {pins : List (Addr × Obj)} {σ : St} {H F : Hp} {s : Shared}
theorem reads_all {n : Nat} (ih : ∀ {v : V} {u : Value} {d : D}, Rep X.K F v d → RelV v u → okN n d = true → ∃ as, Reads s.heap u (pyN n d) as) : ∀ {vs : List V} {us : List Value} {ds : List D}, Vals vs us → Reps X.K F vs ds → ds.all (okN n) = true → ∃ as, ReadsAll s.heap us (ds.map (pyN n)) as
  | [], us, ds, r, h, ok => by
    have hl := r.length
    cases us with
    | cons => simp at hl
    | nil =>
      cases ds with
      | cons => have := h.1; simp at this
      | nil => exact ⟨[], .nil⟩
  | v :: vs, us, ds, r, h, ok => by
    cases us with
    | nil => have := r.length; simp at this
    | cons u us =>
      cases ds with
      | nil => have := h.1; simp at this
      | cons d ds =>
        simp only [List.all_cons, Bool.and_eq_true] at ok
        cases r with
        | cons r0 r1 =>
          obtain ⟨as, h1⟩ := ih (h.2 0 v d rfl rfl) r0 ok.1
          obtain ⟨bs, h2⟩ := reads_all ih r1 (⟨by have := h.1; simpa using this, fun i v x a b => h.2 (i + 1) v x (by simpa using a) (by simpa using b)⟩ : Reps X.K F vs ds) ok.2
          exact ⟨as ++ bs, .cons h1 h2⟩
theorem reads_rep (I : Inv X pins σ H s) (fh : Same F H) : ∀ (n : Nat) {v : V} {u : Value} {d : D}, Rep X.K F v d → RelV v u → okN n d = true → ∃ as, Reads s.heap u (pyN n d) as
  | n, v, u, d, h, r, ok => by
    cases h with
    | non => cases r; exact ⟨[], by cases n <;> exact .none⟩
    | bl b => cases r; exact ⟨[], by cases n <;> exact .bool _⟩
    | int i => obtain ⟨t, rfl⟩ := r; exact ⟨[], by cases n <;> exact .int _ _⟩
    | str z => obtain ⟨t, rfl⟩ := r; exact ⟨[], by cases n <;> exact .str _ _⟩
    | @tup a vs xs hq hk hl hi =>
      obtain rfl : u = Value.ref a := r
      cases n with
      | zero => cases ok
      | succ n =>
        obtain ⟨vs2, its, rv, hs, ht, _⟩ := rep_tup I ((Rep.tup hq hk hl hi : Rep X.K F (.ref a) (.tup xs)).toH fh)
        obtain ⟨as, ra⟩ := reads_all (fun a b c => reads_rep I fh n a b c) rv hs (by simpa [okN] using ok)
        obtain ⟨o, ho, hc, n0, hd⟩ := ht
        exact ⟨as, .tuple ho hc hd (by simpa using ra)⟩
    | @lst a vs xs hr hl hi =>
      obtain rfl : u = Value.ref a := r
      cases n with
      | zero => cases ok
      | succ n =>
        obtain ⟨vs2, its, rv, hs, ht, _⟩ := rep_lst I ((Rep.lst hr hl hi : Rep X.K F (.ref a) (.lst xs)).toH fh)
        obtain ⟨as, ra⟩ := reads_all (fun a b c => reads_rep I fh n a b c) rv hs (by simpa [okN] using ok)
        obtain ⟨o, ho, hc, n0, hd⟩ := ht
        exact ⟨a :: as, .list ho hc hd (by simpa using ra)⟩
    | scr => cases n <;> cases ok
    | dK => cases n <;> cases ok
    | dT => cases n <;> cases ok
theorem sort_prem {ks : List D} (h : sortOk ks = true) : (∀ d ∈ ks, okN 4 d = true) ∧ PySem.W.AllAlike (ks.map pyD) ∧ PySem.W.Sortable (ks.map pyD) := by
  simp only [sortOk, Bool.and_eq_true, Bool.or_eq_true, List.all_eq_true] at h
  obtain ⟨⟨h1, h2⟩, h3⟩ := h
  refine ⟨h1, fun d hd d' hd' => ?_, ?_⟩
  · obtain ⟨x, hx, rfl⟩ := List.mem_map.1 hd
    obtain ⟨y, hy, rfl⟩ := List.mem_map.1 hd'
    exact h2 x hx y hy
  · rcases h3 with h3 | h3
    · refine .inl fun d hd => ?_
      obtain ⟨x, hx, rfl⟩ := List.mem_map.1 hd
      have := h3 x hx
      cases x <;> first | (cases this; done) | skip
      rename_i xs
      cases xs with
      | nil => cases this
      | cons y ys => exact ⟨_, _, rfl⟩
    · refine .inr fun d hd => ?_
      obtain ⟨x, hx, rfl⟩ := List.mem_map.1 hd
      have := h3 x hx
      have o := h1 x hx
      cases x <;> first | (cases this; done) | (cases o; done) | exact ⟨by simp [pyN], by simp [pyN]⟩
theorem zip_each {R : V → Value → Prop} : ∀ {vs : List V} {us : List Value} {ds : List D}, vs.length = us.length → vs.length = ds.length → (∀ (i : Nat) (v : V) (u : Value), vs[i]? = some v → us[i]? = some u → R v u) → PySem.W.EachIs (fun u (p : V × D) => R p.1 u) us (vs.zip ds)
  | [], us, ds, h1, h2, h => by cases us <;> first | (simp at h1; done) | exact .nil
  | v :: vs, us, ds, h1, h2, h => by
    cases us with
    | nil => simp at h1
    | cons u us =>
      cases ds with
      | nil => simp at h2
      | cons d ds => exact .cons (h 0 v u rfl rfl) (zip_each (by simpa using h1) (by simpa using h2) fun i v' u' a b => h (i + 1) v' u' (by simpa using a) (by simpa using b))
theorem each_vals : ∀ {us : List Value} {ps : List (V × D)}, PySem.W.EachIs (fun u (p : V × D) => RelV p.1 u) us ps → Vals (ps.map (·.1)) us
  | _, _, .nil => .nil
  | _, _, .cons h t => .cons h (each_vals t)
theorem reps_zip {K : PySem.W.Frag} {vs : List V} {ds : List D} (h : Reps K F vs ds) : ∀ p ∈ vs.zip ds, Rep K F p.1 p.2 := fun p hp => by
  obtain ⟨i, hi⟩ := List.getElem?_of_mem hp
  rw [List.getElem?_zip_eq_some] at hi
  exact h.2 i _ _ hi.1 hi.2
theorem reps_of_mem {K : PySem.W.Frag} : ∀ {ps : List (V × D)}, (∀ p ∈ ps, Rep K F p.1 p.2) → Reps K F (ps.map (·.1)) (ps.map (·.2))
  | ps, h => ⟨by simp, fun i v x a b => by
    rw [List.getElem?_map] at a b
    cases e : ps[i]? with
    | none => rw [e] at a; cases a
    | some p => rw [e] at a b; cases a; cases b; exact h p (List.mem_of_getElem? e)⟩
theorem mergeSort_snd (le : D → D → Bool) (ps : List (V × D)) : (ps.mergeSort fun a b => le a.2 b.2).map (·.2) = (ps.map (·.2)).mergeSort le := List.map_mergeSort fun _ _ _ _ => rfl
theorem depth_le : ∀ (n : Nat) (d : D), (pyN n d).depth ≤ n
  | 0, d => by cases d <;> simp [pyN, PyData.depth]
  | n + 1, d => by
    have all : ∀ xs : List D, PyData.depthAll (xs.map (pyN n)) ≤ n := fun xs => by
      induction xs with
      | nil => simp [PyData.depthAll]
      | cons x xs ih => simp only [List.map_cons, PyData.depthAll]; have := depth_le n x; omega
    cases d <;> simp [pyN, PyData.depth] <;> (have := all (by assumption); omega)
theorem callSortedT (hu : X.A.units + 64 < cLine) : CallR X (.builtin "sorted") (rG X.K gSortedT) := by
  intro pins s σ H xs us Q I r ⟨σ', F, ds, rv, fh, h, e, k⟩
  unfold gSortedT at e; split at e
  · rename_i ys
    split at e
    · rename_i hok
      cases e
      obtain ⟨x, rfl, hx⟩ := one h
      obtain ⟨u, eu, rx⟩ := vals1 r
      subst eu
      cases hx with
      | @lst a vs _ ha hi =>
        obtain rfl : u = Value.ref a := rx
        obtain ⟨vs2, its, rv, hs, hl, _⟩ := rep_lst I (RepH.lst ha hi : RepH X.K H F (.ref a) (.lst ys))
        obtain ⟨h1, h2, h3⟩ := sort_prem hok.1
        have l1 := rv.length
        have l2 := hs.1
        have em : (vs2.zip ys).map (fun p => pyD p.2) = ys.map pyD := by
          rw [show (fun p : V × D => pyD p.2) = pyD ∘ (fun p : V × D => p.2) from rfl, ← List.map_map]
          congr 1
          exact List.map_snd_zip (by omega)
        have E1 : PySem.W.EachIs (fun u (p : V × D) => RelV p.1 u) its (vs2.zip ys) := zip_each l1 l2 fun i v u a b => by
          obtain ⟨u', hu', q⟩ := rv.get a
          rw [hu'] at b; cases b; exact q
        have E2 : PySem.W.EachIs (fun u (p : V × D) => ∃ as, Reads s.heap u (pyD p.2) as) its (vs2.zip ys) := by
          refine (PySem.W.each_mem E1).mono fun u p ⟨q, hm⟩ => ?_
          have rp := reps_zip hs p hm
          exact reads_rep I fh 4 rp q (h1 _ (List.of_mem_zip hm).2)
        refine PySem.W.sorted_data (enc := fun p : V × D => pyD p.2) hl E1 E2 (by rw [em]; exact h2) (by rw [em]; exact h3) (by rw [List.length_zip]; omega) (fun p _ => by have : (pyD p.2).depth ≤ 4 := depth_le 4 p.2; omega) fun out ho eo => ?_
        obtain ⟨ep, he'⟩ := PyProof.Rows.sortedAll_at s.heap its (List.toArray out)
        have hv := each_vals eo
        have hlen : (((vs2.zip ys).mergeSort (PySem.W.dataLe false fun p : V × D => pyD p.2)).map (·.1)).length ≤ sizeLine := by rw [List.length_map, List.length_mergeSort, List.length_zip]; omega
        refine ⟨.ref _, upd H (s.heap.objs.size + 1) (.lst (((vs2.zip ys).mergeSort (PySem.W.dataLe false fun p : V × D => pyD p.2)).map (·.1))), I.laid (t' := s.toks) (fun _ _ => PyProof.Rows.sortedAll_old) (Nat.le_succ _) ⟨hlen, out, ep, hv, he'⟩, rfl, ?_⟩
        refine k.own (X := X) fh (I.hok.fresh (Nat.le_succ _)) (.lst upd_same ?_)
        have es : ys.mergeSort leD = ((vs2.zip ys).mergeSort (PySem.W.dataLe false fun p : V × D => pyD p.2)).map (·.2) := by
          have q := mergeSort_snd leD (vs2.zip ys)
          rw [List.map_snd_zip (by omega)] at q
          exact q.symm
        rw [es]
        have RR := reps_of_mem (K := X.K) (F := F) (ps := (vs2.zip ys).mergeSort (PySem.W.dataLe false fun p : V × D => pyD p.2)) fun p hp => reps_zip hs p (List.mem_mergeSort.1 hp)
        exact RR
    · cases e
  · cases e
end
end DX

namespace DX
open PySem PySem.Spec L2
open PyProof.Rows hiding St

/-! ### sorted(d), text keys -/
def asStrK : List (Key × D) → Option (List Str)
  | [] => some []
  | (.inr z, _) :: r => (asStrK r).map (z :: ·)
  | _ => none
def gSortedD : List D → Option Val
  | [.dK kvs] => (asStrK kvs).bind fun zs => if zs.length < 64 then some (.tmp (.lst ((sortStr zs).map D.str))) else none
  | _ => none
theorem asStrK_map : ∀ {kvs : List (Key × D)} {zs : List Str}, asStrK kvs = some zs → kvs.map (·.1) = zs.map Sum.inr
  | [], zs, h => by cases h; rfl
  | (k, d) :: r, zs, h => by
    cases k with
    | inl i => cases h
    | inr z =>
      simp only [asStrK] at h
      cases q : asStrK r with
      | none => rw [q] at h; cases h
      | some ys => rw [q] at h; cases h; simp [asStrK_map q]
section
variable {X : Cx}
theorem callSortedD (hc : X.calm = true) : CallR X (.builtin "sorted") (rG X.K gSortedD) := callImp (call_sortedD hc) fun vs H Q ⟨σ, F, ds, rv, fh, h, e, k⟩ => by
  unfold gSortedD at e; split at e
  · rename_i kvs
    obtain ⟨x, rfl, hx⟩ := one h
    cases q : asStrK kvs with
    | none => rw [q] at e; cases e
    | some zs =>
      rw [q] at e
      simp only [Option.bind_some] at e
      split at e
      · rename_i hl
        cases e
        cases hx with
        | @dK a vs _ ha hi =>
          refine ⟨a, vs, zs, rfl, ha, ?_, hl, fun ys p pm so n => ?_⟩
          · exact hi.1.trans (asStrK_map q)
          · rw [sortStr_uniq pm so]
            exact k.own (X := X) fh n (.lst upd_same (reps_strs _ _))
      · cases e
  · cases e
end
end DX

/-! Tuples with owned parts: made, and taken apart again. -/
namespace DX
open PySem PySem.Spec L2
open PyProof.Rows hiding St

def partVs : List Val → DEnv → Option (List D × DEnv)
  | [], e => some ([], e)
  | rv :: rvs, e => match partV rv e with
    | some (x, e1) => match partVs rvs e1 with
      | some (xs, e2) => some (x :: xs, e2)
      | none => none
    | none => none
/-- a tuple whose parts are handed over -/
def dTupO (ms : List (DEnv → ER)) : DEnv → ER := fun env => (mArgs ms env).bind fun rvs e1 => match partVs rvs e1 with
  | some (xs, e2) => if xs.length ≤ sizeLine then .ok (.tmp (.dt xs)) e2 else .err
  | none => .err
section
variable {X : Cx} {W : WX} {R : Hp} {P : List (Option V)} {pos : Pos} {G H F : Hp} {σ : St} {env : DEnv} {L : List Addr}
theorem partV_ok2 {v : V} {rv : Val} {Lr : List Addr} {x : D} {env' : DEnv} (I : FI X.K R P G H F σ env L) (r : RepVal X.K H F σ v rv Lr) (nd : (Lr ++ L).Nodup) (fr : ∀ a ∈ Lr, F a = none ∧ G a = none) (e : partV rv env = some (x, env')) :
    ∃ L' Lp, FI X.K R P G H F σ env' L' ∧ RepX X.K H F true v x Lp ∧ (Lp ++ L').Nodup ∧ (∀ a ∈ Lp, F a = none ∧ G a = none) ∧ ∀ a ∈ Lp ++ L', a ∈ Lr ++ L := by
  unfold partV at e
  cases rv with
  | fz d => cases e; exact ⟨L, [], I, .pf r.2, by simpa using I.nd, (fun a z => nomatch z), fun a ha => List.mem_append_right _ ha⟩
  | tmp d => cases e; exact ⟨L, Lr, I, .po r, nd, fr, fun _ h => h⟩
  | br j =>
    dsimp only at e
    split at e
    · rename_i d ej
      cases e
      obtain ⟨u, e1, r1⟩ := I.er.getFz ej
      rw [r.2] at e1; cases e1
      exact ⟨L, [], I, .pf r1, by simpa using I.nd, (fun a z => nomatch z), fun a ha => List.mem_append_right _ ha⟩
    · rename_i d ej
      cases e
      obtain ⟨u, La, L', e1, ro, pm, I'⟩ := I.take (.inl rfl) ej
      rw [r.2] at e1; cases e1
      exact ⟨L', La, I', .po ro, pm.nodup_iff.1 I.nd, fun a ha => I.fr a (pm.mem_iff.2 (List.mem_append_left _ ha)), fun a ha => List.mem_append_right _ (pm.mem_iff.2 ha)⟩
    · cases e
def Parts (K : PySem.W.Frag) (H F : Hp) (vs : List V) (xs : List D) (Ls : List (List Addr)) : Prop := vs.length = xs.length ∧ Ls.length = vs.length ∧
  ∀ (i : Nat) (v : V) (x : D) (Li : List Addr), vs[i]? = some v → xs[i]? = some x → Ls[i]? = some Li → RepX K H F true v x Li
theorem Parts.nil {K : PySem.W.Frag} {H F : Hp} : Parts K H F [] [] [] := ⟨rfl, rfl, fun i v x Li a => by simp at a⟩
theorem Parts.cons {K : PySem.W.Frag} {H F : Hp} {v : V} {x : D} {Li : List Addr} {vs : List V} {xs : List D} {Ls : List (List Addr)} (r : RepX K H F true v x Li) (t : Parts K H F vs xs Ls) : Parts K H F (v :: vs) (x :: xs) (Li :: Ls) :=
  ⟨by simp [t.1], by simp [t.2.1], fun i v' x' L' a b c => by
    cases i with
    | zero => cases a; cases b; cases c; exact r
    | succ i => exact t.2.2 i v' x' L' (by simpa using a) (by simpa using b) (by simpa using c)⟩
theorem partVs_ok : ∀ {rvs : List Val} {vs : List V} {Lr L : List Addr} {env env' : DEnv} {xs : List D}, FI X.K R P G H F σ env L → HeldR X.K H F σ vs rvs Lr → (Lr ++ L).Nodup → (∀ a ∈ Lr, F a = none ∧ G a = none) → partVs rvs env = some (xs, env') →
    ∃ L' Ls, FI X.K R P G H F σ env' L' ∧ Parts X.K H F vs xs Ls ∧ (Ls.flatten ++ L').Nodup ∧ (∀ a ∈ Ls.flatten, F a = none ∧ G a = none) ∧ ∀ a ∈ Ls.flatten ++ L', a ∈ Lr ++ L
  | [], _, Lr, L, env, env', xs, I, h0, nd, fr, e => by
    cases h0
    cases e
    exact ⟨L, [], I, .nil, by simpa using I.nd, (fun a z => by simp at z), fun a ha => by simpa using ha⟩
  | rv :: rvs, _, _, L, env, env', xs, I, .cons (v := v) (L1 := L1) (vs := vs) (L := L2) h t, nd, fr, e => by
    unfold partVs at e
    cases e1 : partV rv env with
    | none => rw [e1] at e; cases e
    | some p =>
      obtain ⟨x, env1⟩ := p
      rw [e1] at e
      dsimp only at e
      cases e2 : partVs rvs env1 with
      | none => rw [e2] at e; cases e
      | some p2 =>
        obtain ⟨xs2, env2⟩ := p2
        rw [e2] at e
        cases e
        rw [List.append_assoc] at nd
        obtain ⟨m1, m2, m3⟩ := List.nodup_append.mp nd
        have q2 := List.nodup_append.mp m2
        have nd1 : (L1 ++ L).Nodup := List.nodup_append.mpr ⟨m1, q2.2.1, fun a ha b hb => m3 a ha b (List.mem_append_right _ hb)⟩
        obtain ⟨L1', Lp, I1, r1, ndp, frp, sub1⟩ := partV_ok2 I h nd1 (fun a ha => fr a (List.mem_append_left _ ha)) e1
        have dis : ∀ a ∈ L2, ∀ b ∈ Lp ++ L1', a ≠ b := fun a ha b hb z => by
          rcases List.mem_append.1 (sub1 b hb) with y | y
          · exact m3 b y a (List.mem_append_left _ ha) z.symm
          · exact q2.2.2 a ha b y z
        have nd2 : (L2 ++ L1').Nodup := List.nodup_append.mpr ⟨q2.1, I1.nd, fun a ha b hb => dis a ha b (List.mem_append_right _ hb)⟩
        obtain ⟨L2', Ls, I2, ps, nds, frs, sub2⟩ := partVs_ok I1 t nd2 (fun a ha => fr a (List.mem_append_right _ ha)) e2
        have qp := List.nodup_append.mp ndp
        refine ⟨L2', Lp :: Ls, I2, .cons r1 ps, ?_, fun a ha => ?_, fun a ha => ?_⟩
        · rw [List.flatten_cons, List.append_assoc]
          refine List.nodup_append.mpr ⟨qp.1, nds, fun a ha b hb z => ?_⟩
          rcases List.mem_append.1 (sub2 b hb) with y | y
          · exact dis b y a (List.mem_append_left _ ha) z.symm
          · exact qp.2.2 a ha b y z
        · rw [List.flatten_cons] at ha
          exact (List.mem_append.1 ha).elim (frp a) (frs a)
        · rw [List.flatten_cons, List.append_assoc] at ha
          rw [List.append_assoc]
          rcases List.mem_append.1 ha with y | y
          · rcases List.mem_append.1 (sub1 a (List.mem_append_left _ y)) with w | w
            · exact List.mem_append_left _ w
            · exact List.mem_append_right _ (List.mem_append_right _ w)
          · rcases List.mem_append.1 (sub2 a y) with w | w
            · exact List.mem_append_right _ (List.mem_append_left _ w)
            · rcases List.mem_append.1 (sub1 a (List.mem_append_right _ w)) with u | u
              · exact List.mem_append_left _ u
              · exact List.mem_append_right _ (List.mem_append_right _ u)
theorem me_tupO {es : List Expr} {ms : List (DEnv → ER)} {x1 pos} (hm : MEs X W R P es ms) (hp : PA X es (tWa X es)) : ME X W R P (.Tuple es x1 pos) (dTupO ms) := by
  intro G H F σ env L Q I h
  refine w_of (pe_tup hp) ?_
  refine run_args hm I ?_
  unfold dTupO at h
  cases e : mArgs ms env with
  | err => rw [e] at h; exact h
  | raise c env' => rw [e] at h; exact h
  | ok rvs env' =>
    rw [e] at h
    intro vs H' F' L' Lr I' s n hs nd fr
    dsimp only [AR.bind] at h
    cases e2 : partVs rvs env' with
    | none => rw [e2] at h; exact h.elim
    | some p =>
      obtain ⟨xs, env2⟩ := p
      rw [e2] at h
      dsimp only at h
      split at h
      · rename_i hl
        obtain ⟨L2, Ls, I2, ps, nds, frs, _⟩ := partVs_ok I' hs nd fr e2
        refine ⟨by rw [ps.1]; exact hl, fun p np => ?_⟩
        have fp := I2.fh.free np
        have hh : Same H' (upd H' p (.tup vs)) := same_upd np
        have ff : Same F' (upd F' p (.tup vs)) := same_upd fp
        have I3 := I2.ext hh ff (upd_sub I2.fh np) (upd_new np)
        have inH : ∀ a ∈ Ls.flatten, a ≠ p := fun a ha z => by
          subst z
          obtain ⟨i, Li, h1, h2⟩ : ∃ (i : Nat) (Li : List Addr), Ls[i]? = some Li ∧ a ∈ Li := by
            obtain ⟨Li, h1, h2⟩ := List.mem_flatten.1 ha
            obtain ⟨i, hi⟩ := List.getElem?_of_mem h1
            exact ⟨i, Li, hi, h2⟩
          have hi := (List.getElem?_eq_some_iff.1 h1).1
          have hv : i < vs.length := by rw [← ps.2.1]; exact hi
          have hx : i < xs.length := by rw [← ps.1]; exact hv
          obtain ⟨x, hx'⟩ : ∃ x, xs[i]? = some x := ⟨_, List.getElem?_eq_getElem hx⟩
          have r := ps.2.2 i _ x Li (List.getElem?_eq_getElem hv) hx' h1
          cases r with
          | pf r => cases h2
          | po r =>
            obtain ⟨o, e, _⟩ := RepO.there r a h2
            rw [np] at e; cases e
        refine h (.ref p) _ _ L2 Ls.flatten I3 (s.trans ff) (n.trans (I2.newF (upd_new np))) ?_ nds fun a ha => ⟨?_, (frs a ha).2⟩
        · refine RepX.dt upd_same ps.1 ps.2.1 fun i v x Li a b c => ?_
          refine (ps.2.2 i v x Li a b c).keep (fun z hz => upd_ne (inH z (mem_at c hz))) ff
        · rw [upd_ne (inH a ha)]; exact (frs a ha).1
      · exact h.elim
/-! taken apart -/
def slotP : D → Slot
  | .ow d => .v .ow d
  | d => .v .fz d
def freeS : Slot → Bool
  | .un => true
  | .v .fz _ => true
  | .v .ow _ => true
  | _ => false
def setParts : List Nat → List D → DEnv → Option DEnv
  | [], [], e => some e
  | i :: is, x :: xs, e => match e[i]? with
    | some s => if freeS s = true then setParts is xs (e.set i (slotP x)) else none
    | none => none
  | _, _, _ => none
/-- a, b = a tuple with owned parts -/
def dAsgO (is : List Nat) (m : DEnv → ER) : DEnv → FR := fun env => (m env).thn fun rv e => match rv with
  | .tmp (.dt xs) => match setParts is xs e with
    | some e2 => .next e2
    | none => .err
  | _ => .err
def MN (X : Cx) (e : Expr) (i : Nat) : Prop := ∀ (v : V) (σ : St) (H : Hp) (Q : St → Hp → Prop), Q (σ.set i (some v)) H → tWg X e v σ H Q
inductive MNs (X : Cx) : List Expr → List Nat → Prop
  | nil : MNs X [] []
  | cons {e : Expr} {i : Nat} {es : List Expr} {is : List Nat} (h : MN X e i) (t : MNs X es is) : MNs X (e :: es) (i :: is)
theorem mn_name {i : Nat} {x : Str} (hN : X.N.Nodup) (hi : X.N[i]? = some x := by rfl) (hx : Loc X.env.scope x := by first | exact .inl rfl | exact .inr rfl) (hf : X.fn x = true ∨ X.env.scope.names.lookup x = some .local := by first | exact .inl rfl | exact .inr rfl | assumption) :
    MN X (.Name x pos) i := fun v σ H Q q => wg_of (pg_name hN hi hx hf) q
theorem part_set {v : V} {x : D} {Li : List Addr} {i : Nat} (I : FI X.K R P G H F σ env L) (r : RepX X.K H F true v x Li) (nd : (Li ++ L).Nodup) (fr : ∀ a ∈ Li, F a = none ∧ G a = none) (hi : i < env.length) :
    ∃ L', FI X.K R P G H F (σ.set i (some v)) (env.set i (slotP x)) L' ∧ ∀ a ∈ L', a ∈ Li ∨ a ∈ L := by
  cases r with
  | pf r =>
    have e : slotP x = .v .fz x := by cases r <;> rfl
    rw [e]
    obtain ⟨L', I', sub⟩ := I.putFz r hi
    exact ⟨L', I', fun a ha => .inr (sub a ha)⟩
  | @po _ d _ r =>
    obtain ⟨L', e, m, n⟩ := I.er.set (Lr := Li) (o := some v) (s := .v .ow d) (fun _ _ _ _ t => .ow r t) hi
    exact ⟨L', ⟨I.fh, I.gh, I.rg, e, n nd, fun a ha => (m a ha).elim (fr a) (I.fr a)⟩, m⟩
theorem parts_ok {es : List Expr} {is : List Nat} (h : MNs X es is) : ∀ {σ : St} {env env' : DEnv} {L : List Addr} {vs : List V} {xs : List D} {Ls : List (List Addr)} {k : St → Hp → Prop}, FI X.K R P G H F σ env L → Parts X.K H F vs xs Ls → (Ls.flatten ++ L).Nodup → (∀ a ∈ Ls.flatten, F a = none ∧ G a = none) →
    setParts is xs env = some env' → NOk X R P G F env' k → tWgs X es vs σ H k ∧ vs.length = es.length := by
  induction h with
  | nil =>
    intro σ env env' L vs xs Ls k I ps nd fr e q
    cases xs with
    | nil => cases e; cases vs with
      | nil => exact ⟨⟨rfl, NOk.now I q⟩, rfl⟩
      | cons v vs => have := ps.1; simp at this
    | cons d ds => cases e
  | @cons e0 i es is h0 hr ih =>
    intro σ env env' L vs xs Ls k I ps nd fr e q
    cases xs with
    | nil => cases e
    | cons x xs =>
      cases vs with
      | nil => have := ps.1; simp at this
      | cons v vs =>
        cases Ls with
        | nil => have := ps.2.1; simp at this
        | cons Li Ls =>
          unfold setParts at e
          cases ei : env[i]? with
          | none => rw [ei] at e; cases e
          | some s =>
            rw [ei] at e
            dsimp only at e
            split at e
            · have r0 := ps.2.2 0 v x Li rfl rfl rfl
              have rr : Parts X.K H F vs xs Ls := ⟨by have := ps.1; simpa using this, by have := ps.2.1; simpa using this, fun i v x Li a b c => ps.2.2 (i + 1) v x Li (by simpa using a) (by simpa using b) (by simpa using c)⟩
              rw [List.flatten_cons, List.append_assoc] at nd
              obtain ⟨m1, m2, m3⟩ := List.nodup_append.mp nd
              have q2 := List.nodup_append.mp m2
              obtain ⟨L', I', sub⟩ := part_set I r0 (List.nodup_append.mpr ⟨m1, q2.2.1, fun a ha b hb => m3 a ha b (List.mem_append_right _ hb)⟩) (fun a ha => fr a (by rw [List.flatten_cons]; exact List.mem_append_left _ ha)) (getElem?_lt ei)
              have nd' : (Ls.flatten ++ L').Nodup := List.nodup_append.mpr ⟨q2.1, I'.nd, fun a ha b hb z => (sub b hb).elim (fun y => m3 b y a (List.mem_append_left _ ha) z.symm) fun y => q2.2.2 a ha b y z⟩
              obtain ⟨t, l⟩ := ih I' rr nd' (fun a ha => fr a (by rw [List.flatten_cons]; exact List.mem_append_right _ ha)) e q
              exact ⟨⟨v, vs, rfl, h0 v σ H _ t⟩, by simp [l]⟩
            · cases e
theorem ms_asgO {es : List Expr} {k : Nat} {p2 : Pos} {e : Expr} {m : DEnv → ER} {is : List Nat} (hc : X.calm = true) (h : ME X W R P e m) (hg : MNs X es is) (hp : PGs X es (tWgs X es)) (hn : (assignEach es X.env).length = es.length := by rfl) (hst : (assignEach es X.env).findIdx? (·.1) = none := by rfl)
    (hs : swapsWithSole [.Tuple es k p2] e pos.line X.env = pure false := by rfl) (hw : swappedStores [.Tuple es k p2] e X.env = pure none := by rfl) (h1 : (assignEach [.Tuple es k p2] X.env).map (·.2) = [assign (.Tuple es k p2) X.env] := by rfl) : MS X W R P (.Assign [.Tuple es k p2] e pos) (dAsgO is m) := by
  intro G H F σ env L D I q
  refine ws_of (ps_asg pe_w pg_w hs hw h1) ?_
  refine me_thn h I q fun rv env' v H' F' L' Lr I' s n r nd fr q' => ?_
  cases rv with
  | fz d => exact q'.elim
  | br i => exact q'.elim
  | tmp d =>
    cases r with
    | @dt a vs xs Ls ha hk hl hi =>
      dsimp only at q'
      cases et : setParts is xs env' with
      | none => rw [et] at q'; exact q'.elim
      | some e2 =>
        rw [et] at q'
        have pk := parts_ok hg I' ⟨hk, hl, hi⟩ nd fr et q'
        exact wg_of (pg_tup hc hp hn hst) ⟨_, _, rfl, SqT.mono I'.fh (.inl (.inl ha)), pk.2, pk.1⟩
    | _ => exact q'.elim
end
end DX

namespace DX
open PySem PySem.Spec L2
open PyProof.Rows hiding St

/-! ### a comprehension over a list that is one's own and stays so -/
def putH (i : Nat) (m : Mode) (xs : List D) : ER → ER
  | .ok rv e => match m, e[i]? with
    | .ow, some .un => .ok rv (e.set i (.v .ow (.lst xs)))
    | .io, some .pin => .ok rv (e.set i (.v .io (.lst xs)))
    | _, _ => .err
  | _ => .err
def dLcH (i : Nat) (t : D → DEnv → Option DEnv) (own : List Nat) (tt : DEnv → TR) (me : DEnv → ER) : DEnv → ER := fun env => match env[i]? with
  | some (.v .ow (.lst xs)) => putH i .ow xs (lcL t own tt me xs (forget own (env.set i .un)) [])
  | some (.v .io (.lst xs)) => putH i .io xs (lcL t own tt me xs (forget own (env.set i .pin)) [])
  | _ => .err
section
variable {X : Cx} {W : WX} {R : Hp} {P : List (Option V)} {pos : Pos} {tg iter : Expr} {G H F : Hp} {σ : St} {env : DEnv} {L : List Addr}
theorem hold_post {i : Nat} {m : Mode} {xs : List D} {v : V} {La : List Addr} {r : ER} {Q : VK} (hm : m = .ow ∨ m = .io) (rg : Same R G) (si : σ[i]? = some (some v)) (ro : RepO X.K H F v (.lst xs) La) (fr : ∀ a ∈ La, F a = none ∧ G a = none) (nd : La.Nodup)
    (q : PostV X W R P G F σ (putH i m xs r) Q) : PostV X W R P (addG G H La) F σ r Q := by
  cases r with
  | err => exact q
  | raise c e => exact q.elim
  | ok rv e =>
    intro v' H' F' L' Lr I s n rr ndr frr
    have gg : Same G (addG G H La) := addG_same fun a h => (fr a h).2
    have nn : ∀ a ∈ La, addG G H La a ≠ none := fun a ha => by
      rw [addG_in ha]; obtain ⟨o, e, _⟩ := ro.there a ha; rw [e]; simp
    have I2 := I.less gg rg
    have ro' : RepO X.K H' F' v (.lst xs) La := ro.keep (fun a ha => by
      obtain ⟨o, e, _⟩ := ro.there a ha
      rw [e]; exact I.gh _ _ ((addG_in ha).trans e)) s
    have fin : e[i]? = some (holeS m) → PostV X W R P G F σ (.ok rv (e.set i (.v m (.lst xs)))) Q → Q v' H' := fun hole q => by
      obtain ⟨L2, er, p⟩ := I2.er.fill hm hole si ro'
      have dj : ∀ a ∈ La, a ∉ L' := fun a ha z => nn a ha (I.fr a z).2
      have dr : ∀ a ∈ La, a ∉ Lr := fun a ha z => nn a ha (frr a z).2
      have nd3 := List.nodup_append.1 ndr
      have fa : ∀ a ∈ La, F' a = none ∧ G a = none := fun a ha => ⟨by
        obtain ⟨o, e, nt⟩ := ro.there a ha
        exact n.out ((addG_in ha).trans e) nt (fr a ha).1, (fr a ha).2⟩
      have nd2 : (La ++ L').Nodup := List.nodup_append.2 ⟨nd, I.nd, fun a ha b hb z => dj a ha (z ▸ hb)⟩
      refine q v' H' F' L2 Lr ⟨I2.fh, I2.gh, I2.rg, er, p.nodup_iff.2 nd2, fun a ha => ?_⟩ s (n.less gg) rr ?_ fun a ha => ⟨(frr a ha).1, gg.free (frr a ha).2⟩
      · rcases List.mem_append.1 (p.mem_iff.1 ha) with z | z
        · exact fa a z
        · exact I2.fr a z
      · refine List.nodup_append.2 ⟨nd3.1, p.nodup_iff.2 nd2, fun a ha b hb z => ?_⟩
        subst z
        rcases List.mem_append.1 (p.mem_iff.1 hb) with z | z
        · exact dr a z ha
        · exact nd3.2.2 a ha a z rfl
    rcases hm with rfl | rfl
    · simp only [putH] at q
      cases h2 : e[i]? with
      | none => rw [h2] at q; exact q.elim
      | some s => cases s with
        | un => rw [h2] at q; exact fin h2 q
        | pin => rw [h2] at q; exact q.elim
        | v _ _ => rw [h2] at q; exact q.elim
    · simp only [putH] at q
      cases h2 : e[i]? with
      | none => rw [h2] at q; exact q.elim
      | some s => cases s with
        | un => rw [h2] at q; exact q.elim
        | pin => rw [h2] at q; exact fin h2 q
        | v _ _ => rw [h2] at q; exact q.elim
theorem lc_hold {scope : Scope} {own : List (Str × Nat)} {elt : Expr} {ttw : TT} {i : Nat} {t : D → DEnv → Option DEnv} {tt : DEnv → TR} {me : DEnv → ER} {Q : VK} (hi : ME X W R P iter (dVar i))
    (hg : Blk X scope fun Y => MGo Y R P (own.map (·.2)) tg t) (he : Blk X scope fun Y => ME Y W0 R P elt me)
    (ht : ∀ (G H F : Hp) (σ : St) (env : DEnv) (L : List Addr) (Q : Bool → Hp → Prop), FI X.K R P G H F σ env L → PostT X W0 R P G F σ (tt env) Q → ttw σ H Q)
    (I : FI X.K R P G H F σ env L) (q : PostV X W R P G F σ (dLcH i t (own.map (·.2)) tt me env) Q) : tLc (iList X.K (tW X iter)) (aLc X scope tg elt).1 ttw (aLc X scope tg elt).2 (own.map (·.2)) σ H Q := by
  have go : ∀ {m : Mode} {xs : List D}, (m = .ow ∨ m = .io) → env[i]? = some (.v m (.lst xs)) → PostV X W R P G F σ (putH i m xs (lcL t (own.map (·.2)) tt me xs (forget (own.map (·.2)) (env.set i (holeS m))) [])) Q →
      tLc (iList X.K (tW X iter)) (aLc X scope tg elt).1 ttw (aLc X scope tg elt).2 (own.map (·.2)) σ H Q := fun {m xs} hm e q => by
    refine me_run hi I ?_
    have ev : dVar i env = .ok (.br i) env := by
      unfold dVar; rw [e]
      rcases hm with rfl | rfl <;> rfl
    rw [ev]
    intro v H' F' L' Lr I' s n r nd fr
    obtain ⟨u, La, L2, e1, ro, p, I2⟩ := I'.take hm e
    have ev : v = u := by
      have := r.2; rw [e1] at this; simpa using this.symm
    subst ev
    have ndp := p.nodup_iff.1 I'.nd
    have frp : ∀ a ∈ La, F' a = none ∧ G a = none := fun a ha => I'.fr a (p.mem_iff.2 (List.mem_append_left _ ha))
    have q2 := hold_post hm I'.rg e1 ro frp (List.nodup_append.1 ndp).1 (PostV.later s n q)
    have I3 := I2.held ndp frp
    cases ro with
    | lst h hr =>
      rename_i a vs
      have hl : ∀ K : Hp, Same (addG G H' [a]) K → Same F' K → SqL X.K K a vs := fun K gk _ => .inl (.inl (gk _ _ ((addG_in (by simp)).trans h)))
      refine ⟨a, rfl, ⟨vs, .inl (.inl h)⟩, ?_⟩
      intro D hD
      obtain ⟨L3, I4⟩ := I3.forget (dead := own.map (·.2))
      exact lc_go (g := (aLc X scope tg elt).1) (tw := ttw) (te := (aLc X scope tg elt).2) (fun G H F σ σ0 env env' L v d k hw I r e q s0 H0 C cl fp => hg s0 H0 C cl fp G H F σ σ0 env env' L v d k hw I r e q) ht
        (fun G H F σ env L Q I q s0 H0 C cl fp => he s0 H0 C cl fp G H F σ env L Q I q) (walks_list hl hr) I4 q2 D hD
  unfold dLcH at q
  split at q
  · rename_i xs e; exact go (.inl rfl) e q
  · rename_i xs e; exact go (.inr rfl) e q
  · exact q.elim
theorem me_lcH {elt : Expr} {scope : Scope} {own : List (Str × Nat)} {i : Nat} {t : D → DEnv → Option DEnv} {me : DEnv → ER} (hc : X.calm = true) (hN : X.N.Nodup) (hi : ME X W R P iter (dVar i)) (ok : BlkOk X.N X.env.scope scope own)
    (hg : Blk X scope fun Y => MGo Y R P (own.map (·.2)) tg t) (he : Blk X scope fun Y => ME Y W0 R P elt me) (hs : ∀ x, foldedSetIterable iter X.env x = pure x := by intro _; rfl) :
    ME X W R P (.ListComp elt [⟨tg, iter, [], 0⟩] scope pos) (dLcH i t (own.map (·.2)) dYes me) := by
  intro G H F σ env L Q I q
  exact w_of (pe_lc (g := (aLc X scope tg elt).1) (tt := tYes) (te := (aLc X scope tg elt).2) hc hN (pi_list pe_w) ok (fun s H C cl fp => ⟨fun pins s1 σ H1 v u Q I r h => h s H C cl fp pins s1 u I r⟩) (fun _ _ _ _ _ => pts_nil) (fun s H C cl fp => ⟨fun pins s1 σ H1 Q I h => h s H C cl fp pins s1 I⟩) hs)
    (lc_hold hi hg he tt_yes I q)
theorem me_lcHIf {elt c : Expr} {scope : Scope} {own : List (Str × Nat)} {i : Nat} {t : D → DEnv → Option DEnv} {tt : DEnv → TR} {me : DEnv → ER} (hc : X.calm = true) (hN : X.N.Nodup) (hi : ME X W R P iter (dVar i)) (ok : BlkOk X.N X.env.scope scope own)
    (hg : Blk X scope fun Y => MGo Y R P (own.map (·.2)) tg t) (ht : Blk X scope fun Y => MT Y W0 R P c tt) (he : Blk X scope fun Y => ME Y W0 R P elt me) (hs : ∀ x, foldedSetIterable iter X.env x = pure x := by intro _; rfl) :
    ME X W R P (.ListComp elt [⟨tg, iter, [c], 0⟩] scope pos) (dLcH i t (own.map (·.2)) tt me) := by
  intro G H F σ env L Q I q
  exact w_of (pe_lc (g := (aLc X scope tg elt).1) (tt := fun σ H Q => Blk X scope fun Y => tWt Y c σ H Q) (te := (aLc X scope tg elt).2) hc hN (pi_list pe_w) ok (fun s H C cl fp => ⟨fun pins s1 σ H1 v u Q I r h => h s H C cl fp pins s1 u I r⟩)
      (fun s H C cl fp => pts_one ⟨fun pins s1 σ H1 Q I h => h s H C cl fp pins s1 I⟩) (fun s H C cl fp => ⟨fun pins s1 σ H1 Q I h => h s H C cl fp pins s1 I⟩) hs)
    (lc_hold hi hg he (fun G H F σ env L Q I q s0 H0 C cl fp => ht s0 H0 C cl fp G H F σ env L Q I q) I q)
theorem ms_setLcH {i j : Nat} {y : Str} {py spos : Pos} {elt : Expr} {scope : Scope} {own : List (Str × Nat)} {t : D → DEnv → Option DEnv} {me : DEnv → ER} (hc : X.calm = true) (hN : X.N.Nodup) (hi : ME X W R P iter (dVar j)) (ok : BlkOk X.N X.env.scope scope own)
    (hg : Blk X scope fun Y => MGo Y R P (own.map (·.2)) tg t) (he : Blk X scope fun Y => ME Y W0 R P elt me) (hy : X.N[i]? = some y := by rfl) (hyl : X.env.scope.names.lookup y = some .local := by rfl)
    (hsw : swapsWith (.ListComp elt [⟨tg, iter, [], 0⟩] scope pos) (some (.Name y py)) spos.line X.env = pure true := by rfl) (hs : ∀ x, foldedSetIterable iter X.env x = pure x := by intro _; rfl) :
    MS X W R P (.Assign [.Name y py] (.ListComp elt [⟨tg, iter, [], 0⟩] scope pos) spos) (dSet i (dLcH j t (own.map (·.2)) dYes me)) := by
  intro G H F σ env L D I q
  exact ws_of (ps_setLc (g := (aLc X scope tg elt).1) (tt := tYes) (te := (aLc X scope tg elt).2) hc hN hy hyl hsw (pi_list pe_w) ok (fun s H C cl fp => ⟨fun pins s1 σ H1 v u Q I r h => h s H C cl fp pins s1 u I r⟩) (fun _ _ _ _ _ => pts_nil) (fun s H C cl fp => ⟨fun pins s1 σ H1 Q I h => h s H C cl fp pins s1 I⟩) hs)
    (lc_hold hi hg he tt_yes I (set_post q))
theorem ms_setLcHIf {i j : Nat} {y : Str} {py spos : Pos} {elt c : Expr} {scope : Scope} {own : List (Str × Nat)} {t : D → DEnv → Option DEnv} {tt : DEnv → TR} {me : DEnv → ER} (hc : X.calm = true) (hN : X.N.Nodup) (hi : ME X W R P iter (dVar j)) (ok : BlkOk X.N X.env.scope scope own)
    (hg : Blk X scope fun Y => MGo Y R P (own.map (·.2)) tg t) (ht : Blk X scope fun Y => MT Y W0 R P c tt) (he : Blk X scope fun Y => ME Y W0 R P elt me) (hy : X.N[i]? = some y := by rfl) (hyl : X.env.scope.names.lookup y = some .local := by rfl)
    (hsw : swapsWith (.ListComp elt [⟨tg, iter, [c], 0⟩] scope pos) (some (.Name y py)) spos.line X.env = pure true := by rfl) (hs : ∀ x, foldedSetIterable iter X.env x = pure x := by intro _; rfl) :
    MS X W R P (.Assign [.Name y py] (.ListComp elt [⟨tg, iter, [c], 0⟩] scope pos) spos) (dSet i (dLcH j t (own.map (·.2)) tt me)) := by
  intro G H F σ env L D I q
  exact ws_of (ps_setLc (g := (aLc X scope tg elt).1) (tt := fun σ H Q => Blk X scope fun Y => tWt Y c σ H Q) (te := (aLc X scope tg elt).2) hc hN hy hyl hsw (pi_list pe_w) ok (fun s H C cl fp => ⟨fun pins s1 σ H1 v u Q I r h => h s H C cl fp pins s1 u I r⟩)
      (fun s H C cl fp => pts_one ⟨fun pins s1 σ H1 Q I h => h s H C cl fp pins s1 I⟩) (fun s H C cl fp => ⟨fun pins s1 σ H1 Q I h => h s H C cl fp pins s1 I⟩) hs)
    (lc_hold hi hg he (fun G H F σ env L Q I q s0 H0 C cl fp => ht s0 H0 C cl fp G H F σ env L Q I q) I (set_post q))
end
end DX

namespace DX
open PySem PySem.Spec L2
open PyProof.Rows hiding St

/-! ### methods of texts -/
def dSm (g : Str → List D → Option Val) (mb : DEnv → ER) (ms : List (DEnv → ER)) : DEnv → ER := fun env => match mb env with
  | .ok (.fz (.str a)) e1 => dPrim (g a) ms e1
  | .raise c e => .raise c e
  | _ => .err
section
variable {X : Cx} {W : WX} {R : Hp} {P : List (Option V)}
theorem me_sm {b e : Expr} {es : List Expr} {mb : DEnv → ER} {ms : List (DEnv → ER)} {g : Str → List D → Option Val} {r : V → List V → Hp → VK → Prop} {id : String} {name : Str} {apos cpos : Pos} (slot : PySem.Slot "str" name id) (hty : typeOf (.builtin id) = pure (.type "method_descriptor")) (hm : MtR X id r)
    (hr : ∀ a vs H Q, rG X.K (g a) vs H Q → r (.str a) vs H Q) (hb : ME X W R P b mb) (hs : MEs X W R P (e :: es) ms) (ha : PA X (e :: es) (tWa X (e :: es)))
    (hbase : attributeBase b name X.env (eval b X.env) = eval b X.env := by rfl)
    (hfew : ((backTo cpos (starEach (e :: es) X.env)).all (fun x => !x.1) && (backToKw cpos (keywordEach [] X.env)).all (fun x => x.1.isSome)
      && decide ((e :: es).length + ([] : List Keyword).length + (if ([] : List Keyword).isEmpty then 0 else 1) < 30)) = true := by rfl)
    (hline : (apos.endLine == cpos.line) = true := by rfl) (hst : starEach (e :: es) X.env = (false, eval e X.env) :: starEach es X.env := by rfl) (hplain : (backTo cpos (starEach es X.env)).any (·.1) = false := by rfl) :
    ME X W R P (.Call (.Attribute b name apos) (e :: es) [] cpos) (dSm g mb ms) := by
  intro G H F σ env L Q I q
  refine w_of (pe_bm PySem.F.plainAttrs_str slot hty hm pe_w ha hbase hfew hline hst hplain) ?_
  refine me_run hb I ?_
  unfold dSm at q
  cases em : mb env with
  | err => rw [em] at q; exact q
  | raise c e => rw [em] at q; exact q
  | ok rv e1 =>
    rw [em] at q
    intro v H' F' L' Lr I' s n r nd fr
    cases rv with
    | fz d =>
      cases d with
      | str a =>
        obtain ⟨_, r⟩ := r
        cases r
        exact ⟨rfl, tWa_mono (run_prim hs I' (PostV.later s n q)) fun vs H1 ⟨F', ds, rv, a, b, c, d⟩ => hr _ vs H1 Q ⟨σ, F', ds, rv, a, b, c, d⟩⟩
      | _ => exact q.elim
    | _ => exact q.elim
theorem me_sm0 {b : Expr} {mb : DEnv → ER} {g : Str → List D → Option Val} {r : V → List V → Hp → VK → Prop} {id : String} {name : Str} {apos cpos : Pos} (slot : PySem.Slot "str" name id) (hty : typeOf (.builtin id) = pure (.type "method_descriptor")) (hm : MtR X id r)
    (hr : ∀ a H Q, rG X.K (g a) [] H Q → r (.str a) [] H Q) (hb : ME X W R P b mb)
    (hbase : attributeBase b name X.env (eval b X.env) = eval b X.env := by rfl) (hline : (apos.endLine == cpos.line) = true := by rfl) :
    ME X W R P (.Call (.Attribute b name apos) [] [] cpos) (dSm g mb []) := by
  intro G H F σ env L Q I q
  refine w_of (pe_bm0 PySem.F.plainAttrs_str slot hty hm pe_w hbase hline) ?_
  refine me_run hb I ?_
  unfold dSm at q
  cases em : mb env with
  | err => rw [em] at q; exact q
  | raise c e => rw [em] at q; exact q
  | ok rv e1 =>
    rw [em] at q
    intro v H' F' L' Lr I' s n r nd fr
    cases rv with
    | fz d =>
      cases d with
      | str a =>
        obtain ⟨_, r⟩ := r
        cases r
        have q := run_prim (X := X) (W := W) (R := R) (P := P) (es := []) (g := g a) .nil I' (PostV.later s n q)
        obtain ⟨F', ds, rv, a, b, c, d⟩ := q
        exact ⟨rfl, hr _ H' Q ⟨σ, F', ds, rv, a, b, c, d⟩⟩
      | _ => exact q.elim
    | _ => exact q.elim
def gJoin (a : Str) : List D → Option Val
  | [.lst xs] => (asStrs xs).bind fun ys => if (ys.map (·.length)).sum + ys.length * a.length ≤ 16777216 then some (.fz (.str (Txt.join a ys))) else none
  | _ => none
theorem join_imp {a : Str} {vs : List V} {H : Hp} {Q : VK} (h : rG X.K (gJoin a) vs H Q) : ∃ a' p, ∃ ys : List Str, V.str a = .str a' ∧ vs = [.ref p] ∧ (SqL X.K H p (ys.map V.str) ∨ SqT X.K H p (ys.map V.str)) ∧
    (ys.map (·.length)).sum + ys.length * a'.length ≤ 16777216 ∧ Q (.str (Txt.join a' ys)) H := by
  obtain ⟨σ, F, ds, rv, fh, h, e, k⟩ := h
  unfold gJoin at e; split at e
  · rename_i xs
    obtain ⟨x, rfl, hx⟩ := one h
    cases q : asStrs xs with
    | none => rw [q] at e; cases e
    | some zs =>
      rw [q] at e
      simp only [Option.bind_some] at e
      split at e
      · rename_i hl
        cases e
        have e2 := asStrs_map q
        subst e2
        cases hx with
        | @lst a' vs _ ha hi =>
          have ev := reps_str zs vs hi
          subst ev
          exact ⟨a, a', zs, rfl, rfl, .inl (.inl ha), hl, k.atom fh (.str _)⟩
      · cases e
  · cases e
theorem me_join {b e : Expr} {mb me' : DEnv → ER} {apos cpos : Pos} (hb : ME X W R P b mb) (he : ME X W R P e me')
    (hbase : attributeBase b "join" X.env (eval b X.env) = eval b X.env := by rfl)
    (hfew : ((backTo cpos (starEach [e] X.env)).all (fun x => !x.1) && (backToKw cpos (keywordEach [] X.env)).all (fun x => x.1.isSome)
      && decide ([e].length + ([] : List Keyword).length + (if ([] : List Keyword).isEmpty then 0 else 1) < 30)) = true := by rfl)
    (hline : (apos.endLine == cpos.line) = true := by rfl) (hst : starEach [e] X.env = (false, eval e X.env) :: starEach [] X.env := by rfl) :
    ME X W R P (.Call (.Attribute b "join" apos) [e] [] cpos) (dSm gJoin mb [me']) :=
  me_sm PySem.F.slot_str_join PySem.F.type_str_join mt_join (fun _ _ _ _ h => join_imp h) hb (.cons he .nil) (pa_cons pe_w pa_nil hst) hbase hfew hline hst
def gUpper (a : Str) : List D → Option Val
  | [] => if a.length ≤ 5592405 then some (.fz (.str (Txt.upper a))) else none
  | _ => none
theorem me_upper {b : Expr} {mb : DEnv → ER} {apos cpos : Pos} (hb : ME X W R P b mb)
    (hbase : attributeBase b "upper" X.env (eval b X.env) = eval b X.env := by rfl) (hline : (apos.endLine == cpos.line) = true := by rfl) :
    ME X W R P (.Call (.Attribute b "upper" apos) [] [] cpos) (dSm gUpper mb []) :=
  me_sm0 PySem.F.slot_str_upper PySem.F.type_str_upper mt_upper (fun a H Q ⟨σ, F, ds, rv, fh, h, e, k⟩ => by
    cases h
    unfold gUpper at e
    dsimp only at e
    by_cases hl : a.length ≤ 5592405
    · rw [if_pos hl] at e
      cases e
      exact ⟨a, rfl, rfl, hl, k.atom fh (.str _)⟩
    · rw [if_neg hl] at e
      cases e) hb hbase hline

/-! ### two lists side by side -/
theorem itL_ok2 {G H F : Hp} {σ : St} {env env' : DEnv} {L Lr : List Addr} {v : V} {rv : Val} {xs : List D} (I : FI X.K R P G H F σ env L) (r : RepVal X.K H F σ v rv Lr) (nd : (Lr ++ L).Nodup) (fr : ∀ a ∈ Lr, F a = none ∧ G a = none) (e : itL env rv = some (xs, env')) :
    ∃ a vs F' L', v = .ref a ∧ FI X.K R P G H F' σ env' L' ∧ Same F F' ∧ NewF G F F' ∧ Reps X.K F' vs xs ∧ (∀ H, Same G H → Same F' H → SqL X.K H a vs) ∧ (∀ a ∈ L', a ∈ L) ∧ ∀ a, F' a ≠ none → F a ≠ none ∨ a ∈ Lr ∨ a ∈ L := by
  unfold itL at e
  have second : (match frzV env rv with | some (.lst xs, e) => some (xs, e) | _ => none) = some (xs, env') → ∃ a vs F' L', v = .ref a ∧ FI X.K R P G H F' σ env' L' ∧ Same F F' ∧ NewF G F F' ∧ Reps X.K F' vs xs ∧ (∀ H, Same G H → Same F' H → SqL X.K H a vs) ∧ (∀ a ∈ L', a ∈ L) ∧ ∀ a, F' a ≠ none → F a ≠ none ∨ a ∈ Lr ∨ a ∈ L := by
    intro e
    cases q : frzV env rv with
    | none => rw [q] at e; cases e
    | some p =>
      obtain ⟨d, e1⟩ := p
      rw [q] at e
      cases d with
      | lst ys =>
        cases e
        obtain ⟨F', L', I', ff, nf, r', m1, m2⟩ := frzV_ok I r nd fr q
        cases r' with
        | lst h hl hi => exact ⟨_, _, F', L', rfl, I', ff, nf, ⟨hl, hi⟩, fun H _ fh => .inl (Rd.mono fh h), m1, m2⟩
      | _ => cases e
  cases q : rdMode env rv with
  | none => rw [q] at e; exact second e
  | some d =>
    rw [q] at e
    cases d with
    | lst ys =>
      cases e
      cases rv with
      | br j =>
        simp only [rdMode] at q
        have ej : env[j]? = some (.v .rd (.lst xs)) := by
          split at q
          · rename_i h; cases q; exact h
          · cases q
        have rr := (rd_slot I.er ej r.2).toR (Same.refl R) rfl
        cases rr with
        | lst h hi => exact ⟨_, _, F, L, rfl, I, Same.refl F, NewF.refl, hi, fun H gh _ => .inl (Rd.mono (I.rg.trans gh) h), fun _ h => h, fun _ h => .inl h⟩
      | _ => cases q
    | _ => exact second e
def zipL (xs ys : List D) : List D := (List.range (min xs.length ys.length)).map fun i => D.tup [xs.getD i .non, ys.getD i .non]
def mZipLL (ma mb : DEnv → ER) : DEnv → IR := fun env => match mArgs [ma, mb] env with
  | .ok [r1, r2] e => match itL e r1 with
    | some (xs, e1) => match itL e1 r2 with
      | some (ys, e2) => .ok (zipL xs ys) e2
      | none => .err
    | none => .err
  | .raise c e => .raise c e
  | _ => .err
theorem walks_zip {K : PySem.W.Frag} {G F : Hp} {a b : Addr} {us vs : List V} {xs ys : List D} (ha : ∀ H, Same G H → Same F H → SqL K H a us) (hb : ∀ H, Same G H → Same F H → SqL K H b vs) (hr : Reps K F us xs) (hs : Reps K F vs ys) : Walks K (Itz K a b) (zipL xs ys) G F where
  go := fun i H hi gh fh => by
    simp only [zipL, List.length_map, List.length_range] at hi
    have h1 : i < us.length := by rw [hr.1]; omega
    have h2 : i < vs.length := by rw [hs.1]; omega
    exact ⟨us, vs, us[i], vs[i], ha H gh fh, hb H gh fh, List.getElem?_eq_getElem h1, List.getElem?_eq_getElem h2⟩
  stop := fun i H hi gh fh => by
    simp only [zipL, List.length_map, List.length_range] at hi
    refine ⟨us, vs, ha H gh fh, hb H gh fh, ?_⟩
    rw [hr.1, hs.1]; omega
  yld := fun i H F1 x H' d gh f1 fh y e => by
    obtain ⟨T, v, w, rfl, n, rfl, y1, y2⟩ := y
    have ev := y1 us (ha H gh (f1.trans fh))
    have ew := y2 vs (hb H gh (f1.trans fh))
    have hi : i < min xs.length ys.length := by
      have := (List.getElem?_eq_some_iff.1 e).1
      simpa [zipL] using this
    have h1 : i < xs.length := by omega
    have h2 : i < ys.length := by omega
    have ed : d = D.tup [xs[i], ys[i]] := by
      simp only [zipL, List.getElem?_map, List.getElem?_range hi, Option.map_some] at e
      cases e
      simp [List.getD_eq_getElem?_getD, List.getElem?_eq_getElem h1, List.getElem?_eq_getElem h2]
    subst ed
    have hv := (hr.2 i v xs[i] ev (List.getElem?_eq_getElem h1)).mono f1
    have hw := (hs.2 i w ys[i] ew (List.getElem?_eq_getElem h2)).mono f1
    have nF : F1 T = none := fh.free n
    refine ⟨upd F1 T (.tup [v, w]), same_upd n, same_upd nF, ?_, fun b q => ?_, .tup (.inl (.inl upd_same)) (.inl upd_same) rfl ?_⟩
    · intro b o q
      by_cases hb : b = T
      · subst hb; rw [upd_same] at q; rw [upd_same]; exact q
      · rw [upd_ne hb] at q; rw [upd_ne hb]; exact fh b o q
    · by_cases hb : b = T
      · subst hb; exact .inr (.inl n)
      · rw [upd_ne hb] at q; exact .inl q
    · intro j u x h1 h2
      match j with
      | 0 => cases h1; cases h2; exact hv.mono (same_upd nF)
      | 1 => cases h1; cases h2; exact hw.mono (same_upd nF)
      | j + 2 => simp at h1
theorem mi_zipLL {a b : Expr} {ma mb : DEnv → ER} {elts : List Expr} {kk : Nat} {p pos' tpos : Pos} (hm : X.mg "zip" = none) (h1 : ME X W R P a ma) (h2 : ME X W R P b mb) (hg : Gl X "zip" := by rfl)
    (hs : starEach [a, b] X.env = (false, eval a X.env) :: starEach [b] X.env := by rfl) (hs2 : starEach [b] X.env = (false, eval b X.env) :: starEach [] X.env := by rfl) (hpl : (backTo pos' (starEach [b] X.env)).any (·.1) = false := by rfl) :
    MI X W R P (.Tuple elts kk tpos) (.Call (.Name "zip" p) [a, b] [] pos') (mZipLL ma mb) := by
  refine ⟨_, pi_zip hg hm (pa_cons pe_w (pa_cons pe_w pa_nil hs2) hs) hs hpl, fun G H F σ env L k I q => ?_⟩
  show tWa X [a, b] σ H fun vs H1 => _
  refine run_args (.cons h1 (.cons h2 .nil)) I ?_
  unfold mZipLL at q
  cases em : mArgs [ma, mb] env with
  | err => rw [em] at q; exact q
  | raise c e => rw [em] at q; exact q
  | ok rvs e =>
    rw [em] at q
    intro vs H' F' L' Lr I' s n hh nd fr
    match rvs, hh, q with
    | [r1, r2], .cons (v := v1) (L1 := L1) g1 (.cons (v := v2) (L1 := L2) g2 .nil), q =>
      dsimp only at q
      simp only [List.append_nil] at nd fr
      have nd' := List.nodup_append.1 nd
      have nd1 := List.nodup_append.1 nd'.1
      cases e1 : itL e r1 with
      | none => rw [e1] at q; exact q.elim
      | some p =>
        obtain ⟨xs, e2⟩ := p
        rw [e1] at q
        dsimp only at q
        obtain ⟨a1, us, F2, L3, rfl, I2, ff, nf, hr, hl, m1, m2⟩ := itL_ok2 I' g1 (List.nodup_append.2 ⟨nd1.1, nd'.2.1, fun a ha b hb => nd'.2.2 a (List.mem_append_left _ ha) b hb⟩) (fun a ha => fr a (List.mem_append_left _ ha)) e1
        cases e3 : itL e2 r2 with
        | none => rw [e3] at q; exact q.elim
        | some p =>
          obtain ⟨ys, e4⟩ := p
          rw [e3] at q
          dsimp only at q
          have g2' := RepVal.keep g2 ff fun a _ => rfl
          obtain ⟨a2, ws, F3, L4, rfl, I3, ff2, nf2, hr2, hl2, _, _⟩ := itL_ok2 I2 g2' (List.nodup_append.2 ⟨nd1.2.1, I2.nd, fun a ha b hb => nd'.2.2 a (List.mem_append_right _ ha) b (m1 b hb)⟩) (fun a ha => ⟨by
            have f0 := fr a (List.mem_append_right _ ha)
            cases h : F2 a with
            | none => rfl
            | some o =>
              rcases m2 a (by rw [h]; simp) with z | z | z
              · exact absurd f0.1 z
              · exact absurd rfl (nd1.2.2 a z a ha)
              · exact absurd rfl (nd'.2.2 a (List.mem_append_right _ ha) a z), (fr a (List.mem_append_right _ ha)).2⟩) e3
          have hl' : ∀ H, Same G H → Same F3 H → SqL X.K H a1 us := fun H gh fh => hl H gh (ff2.trans fh)
          exact ⟨a1, a2, us, ws, rfl, hl' H' I3.gh I3.fh, hl2 H' I3.gh I3.fh, q _ H' F3 L4 I3 (s.trans (ff.trans ff2)) (n.trans (nf.trans nf2)) (walks_zip hl' hl2 (hr.mono ff2) hr2)⟩
end
/-! ### an item of a tuple or list, looked at -/
def vIx (m : DEnv → Option D) (k : Int) : DEnv → Option D := fun env => (m env).bind fun d => match d with
  | .lst xs => atI xs k
  | .tup xs => atI xs k
  | _ => none
theorem mev_ix {X : Cx} {R : Hp} {P : List (Option V)} {a : Expr} {m : DEnv → Option D} {k : Int} {j : Nat} {p pos : Pos} (ha : MEV X R P a m) (hs : PlainIx (.Constant (.int k) j p) := by exact fun _ _ => rfl) : MEV X R P (.Subscript a (.Constant (.int k) j p) pos) (vIx m k) := by
  intro G H F σ env L d Q I ev q
  unfold vIx at ev
  refine w_of (pe_ix ix_seq pe_w pe_w hs) ?_
  cases em : m env with
  | none => rw [em] at ev; cases ev
  | some d0 =>
    rw [em] at ev
    simp only [Option.bind_some] at ev
    refine ha G H F σ env L d0 _ I em fun v hv => w_of pe_int ?_
    cases hv with
    | lst h hi =>
      obtain ⟨u, q1, q2⟩ := atI_rep hi ev
      exact .inl ⟨_, _, _, _, rfl, rfl, .inl h, q1, q u (q2.toH I.fh)⟩
    | tup h hk hi =>
      obtain ⟨u, q1, q2⟩ := atI_rep hi ev
      exact .inr (.inl ⟨_, _, _, _, rfl, rfl, h, q1, q u (q2.toH I.fh)⟩)
    | _ => cases ev
end DX

namespace DX
open PySem PySem.Spec L2
open PyProof.Rows hiding St

/-! ### sorted(xs, key=f): f a def of one argument that raises nothing; its keys may hold lists -/
def keyOf (f : List D → FnR) (d : D) : Option D := match f [d] with
  | .ok (.fz k) _ => some k
  | .ok (.tmp k) _ => frzD k
  | _ => none
def keysOf (f : List D → FnR) : List D → Option (List D)
  | [] => some []
  | x :: xs => (keyOf f x).bind fun k => (keysOf f xs).map (k :: ·)
def leK (p q : D × D) : Bool := leD p.2 q.2
def gSortK (f : List D → FnR) : List D → Option Val
  | [.lst xs] => match keysOf f xs with
    | some ks => if sortOk ks = true ∧ xs.length ≤ sizeLine then some (.tmp (.lst (((xs.zip ks).mergeSort leK).map (·.1)))) else none
    | none => none
  | _ => none
theorem keysOf_len {f : List D → FnR} : ∀ {xs ks : List D}, keysOf f xs = some ks → xs.length = ks.length
  | [], ks, h => by cases h; rfl
  | x :: xs, ks, h => by
    simp only [keysOf] at h
    cases e : keyOf f x with
    | none => rw [e] at h; cases h
    | some k =>
      rw [e] at h
      cases e2 : keysOf f xs with
      | none => rw [e2] at h; cases h
      | some k2 => rw [e2] at h; cases h; simp [keysOf_len e2]
theorem keysOf_at {f : List D → FnR} : ∀ {xs ks : List D}, keysOf f xs = some ks → ∀ p ∈ xs.zip ks, keyOf f p.1 = some p.2
  | [], ks, h, p, hp => by simp at hp
  | x :: xs, ks, h, p, hp => by
    simp only [keysOf] at h
    cases e : keyOf f x with
    | none => rw [e] at h; cases h
    | some k =>
      rw [e] at h
      cases e2 : keysOf f xs with
      | none => rw [e2] at h; cases h
      | some k2 =>
        rw [e2] at h; cases h
        rcases List.mem_cons.1 (by simpa using hp) with rfl | hp
        · exact e
        · exact keysOf_at e2 p hp
section
variable {X : Cx} {pins : List (Addr × Obj)} {σ : St} {H H' F F' : Hp} {s s' : Shared} {k : Nat} {f : Addr} {fd : FuncData} {x : Str} {fn : List D → FnR}
theorem key_turn (FO : FnOk X.prog X.w X.K X.mg X.base (L2.CX X.prog X.w) k f fd [x] (spF X.K X.mg [.va] fn)) (hr : Room k X.A.in1.in1) (hb : Binds X.K fd [x] []) {v : V} {u : Value} {d kd : D}
    (I : Inv X pins σ H s) (fh : Same F H) (r : RelV v u) (rp : Rep X.K F v d) (e : keyOf fn d = some kd) {E : Value → Shared → Prop} :
    wpAny (model X.prog X.w) X.A.in1.in1 (call (.ref f) [u]) (EP X pins σ fun v2 H2 => Same H H2 ∧ ∃ F2, Same F F2 ∧ Same F2 H2 ∧ Rep X.K F2 v2 kd) E s := by
  have b := hb s [u] I.kIn rfl
  have sp : spF X.K X.mg [.va] fn [v] H (fun v2 H2 => Same H H2 ∧ ∃ F2, Same F F2 ∧ Same F2 H2 ∧ Rep X.K F2 v2 kd) (fun _ _ _ => False) := by
    refine ⟨H, H, F, [d], [], rfl, rfl, ⟨fh, Same.refl _, Same.refl _, .fz rp .nil, List.nodup_nil, fun a h => nomatch h⟩, ?_⟩
    unfold keyOf at e
    unfold PostF
    cases q : fn [d] with
    | err => rw [q] at e; cases e
    | raise c os => rw [q] at e; cases e
    | ok rv os =>
      rw [q] at e
      intro v2 H2 F2 L2 Lr J s n r nd fr
      cases rv with
      | br i => cases e
      | fz k0 => cases e; exact ⟨J.gh, F2, s, J.fh, r.2⟩
      | tmp k0 =>
        have ek := frzD_eq e
        subst ek
        obtain ⟨F3, a1, a2, _, a4⟩ := RepO.freeze J.fh e r fun a ha => (fr a ha).1
        exact ⟨J.gh, F3, s.trans a1, a2, a4⟩
  refine wpAny_call (codeAny_mono (FO.run _ X.stack s H ⟨[u], []⟩ [u] [v] _ _ hr I.env0.in1.in1 b (.cons r .nil) sp) fun r s2 hq => ?_)
  cases r with
  | error e => obtain ⟨_, _, _, _, _, _, _, _, _, _, _, _, h⟩ := hq; exact h.elim
  | ok fl =>
    cases fl with
    | ret u => exact I.after hq
    | next => exact hq.elim
    | brk => exact hq.elim
    | cont => exact hq.elim
theorem fp_at {a : Addr} (f : FpOk X pins H a) (n : H' a = none) : FpOk X pins H' a := ⟨n, f.2⟩
theorem fp_pin {a : Addr} {pl : List (Addr × Obj)} (f : FpOk X pins H a) (n : ∀ p ∈ pl, p.1 ≠ a) : FpOk X (pins ++ pl) H a := by
  obtain ⟨f1, f2, f3, f4, f5, f6⟩ := f
  refine ⟨f1, f2, f3, f4, f5, fun p hp => ?_⟩
  rcases List.mem_append.1 hp with hp | hp
  · exact f6 p (List.mem_append_left _ hp)
  · rcases List.mem_append.1 hp with hp | hp
    · exact f6 p (List.mem_append_right _ hp)
    · exact n p hp
theorem each_app {α β : Type} {R : α → β → Prop} : ∀ {as : List α} {bs : List β} {a : α} {b : β}, PySem.W.EachIs R as bs → R a b → PySem.W.EachIs R (as ++ [a]) (bs ++ [b])
  | _, _, _, _, .nil, h => .cons h .nil
  | _, _, _, _, .cons h t, h' => .cons h (each_app t h')
theorem each_at {α β : Type} {R : α → β → Prop} : ∀ {as : List α} {bs : List β}, PySem.W.EachIs R as bs → ∀ {i : Nat} {a : α}, as[i]? = some a → ∃ b, bs[i]? = some b ∧ R a b
  | _, _, .nil, i, a, e => by simp at e
  | _, _, .cons h t, i, a, e => by
    cases i with
    | zero => cases e; exact ⟨_, rfl, h⟩
    | succ i => exact each_at t (by simpa using e)
theorem each_map2 {α β γ : Type} {R : α → γ → Prop} {g : β → γ} : ∀ {as : List α} {bs : List β}, PySem.W.EachIs (fun a b => R a (g b)) as bs → PySem.W.EachIs R as (bs.map g)
  | _, _, .nil => .nil
  | _, _, .cons h t => .cons h (each_map2 t)
/-- the turns: each item's key is asked and kept, then the items are put in order -/
theorem sort_turns (FO : FnOk X.prog X.w X.K X.mg X.base (L2.CX X.prog X.w) k f fd [x] (spF X.K X.mg [.va] fn)) (hr : Room k X.A.in1.in1) (hb : Binds X.K fd [x] []) {a kS : Addr} (hne : kS ≠ a) {Pq : PySem.Fin → Shared → Prop} {E : Value → Shared → Prop}
    {us : List Value} {ps : List (V × D × D)} (e : PySem.W.EachIs (fun u (p : V × D × D) => RelV p.1 u) us ps) (hp : ∀ p ∈ ps, Rep X.K F p.1 p.2.1 ∧ keyOf fn p.2.1 = some p.2.2) (hok : sortOk (ps.map (·.2.2)) = true) (hz : ps.length ≤ sizeLine) (hu : X.A.units + 64 < cLine)
    {e1 : Nat} (I : Inv X pins σ H s) (fh : Same F H) (oa : s.heap.get? a = some (seqObj "list" #[] e1)) (os : s.heap.get? kS = some (seqObj "list" #[] 0)) (fa : FpOk X pins H a) (fk : FpOk X pins H kS)
    (h : ∀ s2 H2 out c, Inv X pins σ H2 s2 → Same H H2 → FpOk X pins H2 a → s2.heap.get? a = some (seqObj "list" (List.toArray out) c) → PySem.W.EachIs (fun u (p : V × D × D) => RelV p.1 u) out (ps.mergeSort fun p q => leD p.2.2 q.2.2) → Pq (.done (.ret .none)) s2) :
    wpAny (model X.prog X.w) X.A.in1.in1 (ksk_rest a (.ref f) false us.toArray e1 (.ref kS)) Pq E s := by
  unfold ksk_rest
  refine wpAny_bind (wpAny_rule (wpAny_bind ?_))
  rw [List.forIn_toArray]
  have hl := e.length
  refine ksk_fold (fun i s' => ∃ H2 F2 kA ee, Inv X pins σ H2 s' ∧ Same H H2 ∧ Same F F2 ∧ Same F2 H2 ∧ s'.heap.get? a = some (seqObj "list" #[] e1) ∧ s'.heap.get? kS = some (seqObj "list" kA ee) ∧ H2 a = none ∧ H2 kS = none ∧
    PySem.W.EachIs (fun u d => ∃ v, RelV v u ∧ Rep X.K F2 v d) kA.toList ((ps.map (·.2.2)).take i)) us 0 s ⟨H, F, #[], 0, I, Same.refl _, Same.refl _, fh, oa, os, fa.1, fk.1, by rw [List.take_zero]; exact .nil⟩ ?step ?done
  case step =>
    intro j u s1 hj hI
    obtain ⟨H2, F2, kA, ee, I2, hh, ff, fh2, oa2, os2, na, nk, hk⟩ := hI
    simp only [Nat.zero_add] at hk ⊢
    obtain ⟨p, hpj, rp⟩ := each_at e hj
    obtain ⟨rep, ky⟩ := hp p (List.mem_of_getElem? hpj)
    have hjl : j < ps.length := (List.getElem?_eq_some_iff.1 hpj).1
    have hkl : kA.size = j := by
      have := hk.length
      rw [Array.length_toList, List.length_take, List.length_map] at this
      omega
    have nc : ∀ {xs : Array Value} {n : Nat}, ∀ v, (seqObj "list" xs n).data ≠ .cell v := fun {xs n} v z => by cases z
    have I3 := I2.pinned (fp := [a, kS]) (fun b hb => by
      rcases List.mem_cons.1 hb with rfl | hb
      · exact fp_at fa na
      · rw [List.mem_singleton.1 hb]; exact fp_at fk nk) (fun b hb => by
      rcases List.mem_cons.1 hb with rfl | hb
      · exact ⟨_, oa2, nc⟩
      · rw [List.mem_singleton.1 hb]; exact ⟨_, os2, nc⟩)
    refine wpAny_bind (wpAny_attempt (wpAny_mono (key_turn (E := fun _ _ => False) FO hr hb I3 fh2 rp (rep.mono ff) ky) (fun u4 s4 hq => ?_) fun _ _ hF => hF.elim))
    obtain ⟨v4, H4, I4, r4, hh4, F4, ff4, fh4, rp4⟩ := hq
    have pa := I4.pin (a, seqObj "list" #[] e1) (List.mem_append_right _ (List.mem_append_right _ (mem_pinsAt (by simp) oa2)))
    have pk := I4.pin (kS, seqObj "list" kA ee) (List.mem_append_right _ (List.mem_append_right _ (mem_pinsAt (by simp) os2)))
    have I5 := I4.unpinned
    dsimp only at pa pk ⊢
    refine wpAny_bind (listUpdate_at pk.1 rfl ?_ (by omega) (by rw [Array.size_push]; omega))
    have so := Heap.SameBut.update s4.heap kS (Obj.mapSeq (·.push u4))
    refine wpAny_pure ⟨rfl, H4, F4, kA.push u4, _, I5.turnedL (ch := [kS]) (t' := s4.toks) (fun b o hb q => (so.2 b fun z => hb (by simp [z])).trans q) (fun b hb => by rw [List.mem_singleton.1 hb]; exact fp_at fk pk.2.1), hh.trans hh4, ff.trans ff4, fh4, (so.2 a hne.symm).trans pa.1, get?_update_seq pk.1 (·.push u4), pa.2.1, pk.2.1, ?_⟩
    have et : (ps.map (·.2.2)).take (j + 1) = (ps.map (·.2.2)).take j ++ [p.2.2] := by
      rw [List.take_add_one, List.getElem?_map, hpj]; rfl
    rw [et, Array.toList_push]
    exact each_app (hk.mono fun u d ⟨v, r, q⟩ => ⟨v, r, q.mono ff4⟩) ⟨v4, r4, rp4⟩
  case done =>
    intro s1 hI
    obtain ⟨H2, F2, kA, ee, I2, hh, ff, fh2, oa2, os2, na, nk, hk⟩ := hI
    rw [List.take_of_length_le (by rw [List.length_map]; omega)] at hk
    have hkl : kA.size = us.length := by
      have := hk.length
      rw [Array.length_toList, List.length_map] at this
      omega
    obtain ⟨h1, h2, h3⟩ := sort_prem hok
    have em : (ps.map (·.2.2)).map pyD = ps.map fun p => pyD p.2.2 := by rw [List.map_map]; rfl
    have hk' : PySem.W.EachIs (fun v d => ∃ as, Reads s1.heap v d as) kA.toList ((ps.map (·.2.2)).map pyD) :=
      each_map2 ((PySem.W.each_mem hk).mono fun u d ⟨⟨v, r, q⟩, hm⟩ => reads_rep I2 fh2 4 q r (h1 _ hm))
    obtain ⟨G, g1, g2⟩ := restrict s1.heap fun b => !(b == kS)
    have gk : G.get? kS = none := g2 kS (by simp)
    have go : ∀ b, b ≠ kS → G.get? b = s1.heap.get? b := fun b hb => g1 b (by simp [hb])
    have un : ∀ d, d ∈ (ps.map (·.2.2)).map pyD → X.A.in1.in1.units + d.depth < cLine := fun d hd => by
      obtain ⟨y, _, rfl⟩ := List.mem_map.1 hd
      have : (pyD y).depth ≤ 4 := depth_le 4 y
      show X.A.units + 1 + 1 + _ < _
      omega
    refine wpAny_bind (listItems_at os2 rfl ?_)
    refine PySem.W.keyH_end (κ := PySem.W.dataKind s1.heap ((ps.map (·.2.2)).map pyD)) (h₁ := G) (fun b o hb q => ?_) gk os2 oa2 hne (PySem.W.SortsAt.data hk' h2 h3 un) hkl (by omega) fun h' tk c kp ho => ?_
    · by_cases z : b = kS
      · rw [z, gk] at q; cases q
      · rw [go b z] at q; exact q
    · have oo := PySem.W.keyedOut_each (β := V × D × D) (rev := false) (bs := ps) (vs := us) (fun p => pyD p.2.2) ⟨s1.heap, kA.toList, by rw [← em]; exact h2, rfl, by rw [← em]; exact hk'⟩ e
      rw [em] at ho
      exact h _ H2 _ c (I2.turnedL (ch := [kS, a]) (t' := tk) (fun b o hb q => kp b o (fun z => hb (by simp [z])) ((go b fun z => hb (by simp [z])).trans q)) (fun b hb => by
        rcases List.mem_cons.1 hb with rfl | hb
        · exact fp_at fk nk
        · rw [List.mem_singleton.1 hb]; exact fp_at fa na)) hh (fp_at fa na) ho oo
def rSortK (X : Cx) (f : Addr) (fn : List D → FnR) : List V → List V → Hp → VK → Prop := fun vs zs H Q => zs = [V.ref f] ∧ rG X.K (gSortK fn) vs H Q
theorem callSortK (FO : FnOk X.prog X.w X.K X.mg X.base (L2.CX X.prog X.w) k f fd [x] (spF X.K X.mg [.va] fn)) (hr : Room (k + 2) X.A) (hb : Binds X.K fd [x] []) : CallRK X (.builtin "sorted") [Str.ofString "key"] (rSortK X f fn) := by
  intro pins s σ H vs zs us ws Q I r rz h
  obtain ⟨rfl, σ', F, ds, rv, fh, h, e, kk⟩ := h
  obtain ⟨w1, rfl, e1⟩ := vals1 rz
  obtain rfl : w1 = Value.ref f := e1
  unfold gSortK at e; split at e
  · rename_i ys
    split at e
    · rename_i ks hks
      split at e
      · rename_i hok
        cases e
        obtain ⟨x0, rfl, hx⟩ := one h
        obtain ⟨u, eu, rx⟩ := vals1 r
        subst eu
        cases hx with
        | @lst l vs _ ha hi =>
          obtain rfl : u = Value.ref l := rx
          obtain ⟨vs2, its, rv, hs, hl, _⟩ := rep_lst I (RepH.lst ha hi : RepH X.K H F (.ref l) (.lst ys))
          have l1 := rv.length
          have l2 := hs.1
          have l3 := keysOf_len hks
          have hlen : (vs2.zip (ys.zip ks)).length = its.length := by rw [List.length_zip, List.length_zip]; omega
          have l4 := hok.2
          have lz : its.length ≤ sizeLine := by omega
          have E1 : PySem.W.EachIs (fun u (p : V × D × D) => RelV p.1 u) its (vs2.zip (ys.zip ks)) := by
            have := zip_each (R := RelV) (ds := (ys.zip ks).map fun p => D.tup [p.1, p.2]) l1 (by rw [List.length_map, List.length_zip]; omega) fun i v u a b => by
              obtain ⟨u', hu', q⟩ := rv.get a
              rw [hu'] at b; cases b; exact q
            clear this
            have go : ∀ {vs : List V} {us : List Value} {zs : List (D × D)}, Vals vs us → vs.length = zs.length → PySem.W.EachIs (fun u (p : V × D × D) => RelV p.1 u) us (vs.zip zs) := by
              intro vs
              induction vs with
              | nil => intro us zs r h; cases r; exact .nil
              | cons v vs ih =>
                intro us zs r h
                cases zs with
                | nil => simp at h
                | cons z zs =>
                  cases r with
                  | cons r0 r1 => exact .cons r0 (ih r1 (by simpa using h))
            exact go rv (by rw [List.length_zip]; omega)
          have hp : ∀ p ∈ vs2.zip (ys.zip ks), Rep X.K F p.1 p.2.1 ∧ keyOf fn p.2.1 = some p.2.2 := fun p hp => by
            refine ⟨?_, keysOf_at hks _ (List.of_mem_zip hp).2⟩
            obtain ⟨i, hi⟩ := List.getElem?_of_mem hp
            rw [List.getElem?_zip_eq_some] at hi
            obtain ⟨i1, i2⟩ := hi
            rw [List.getElem?_zip_eq_some] at i2
            exact hs.2 i _ _ i1 i2.1
          have em : (vs2.zip (ys.zip ks)).map (·.2.2) = ks := by
            rw [show (fun p : V × D × D => p.2.2) = (fun p : D × D => p.2) ∘ (fun p : V × D × D => p.2) from rfl, ← List.map_map, List.map_snd_zip (by rw [List.length_zip]; omega), List.map_snd_zip (by omega)]
          -- the copy, its items out of it
          have k0 : ∀ b u, s.heap.get? b = some u → (PySem.W.sortingHeap (PySem.W.copyHeap s.heap its) (s.heap.objs.size + 1) its).get? b = some u := fun b u q =>
            PySem.W.sortingHeap_old (Nat.ne_of_lt (Nat.lt_succ_of_lt (Heap.lt_size q))) (PySem.W.copyHeap_old q)
          refine PySem.W.sorted_of_sort hl lz (PyProof.Rows.ksk_s1 _ _) (fun _ => PyProof.Rows.ksk_l1 _ _) fun E' => ?_
          show wpAny (model X.prog X.w) X.A.in1.in1 (Builtin.«list.sort» ⟨[.ref (s.heap.objs.size + 1)], [(Str.ofString "key", .ref f)]⟩) _ _ _
          rw [PyProof.Rows.ksk_t1]
          have oc := PySem.W.copyHeap_at s.heap its
          have hsz : (PySem.W.copyHeap s.heap its).objs.size = s.heap.objs.size + 2 := by
            unfold PySem.W.copyHeap
            rw [size_push', Heap.size_update, size_push']
          unfold ksk_tree
          refine wpAny_bind (listItems_at oc rfl (wpAny_bind (listUpdate_at oc rfl ?_ (by simpa using lz) (Nat.zero_le _))))
          have o2 := get?_update_seq oc fun _ => (#[] : Array Value)
          refine wpAny_bind (seqEpoch_at o2 rfl (wpAny_bind (wpAny_newTuple ?_ (by simpa using lz))))
          refine wpAny_bind (wpAny_newList (wpAny_holding ?_) (Nat.zero_le _))
          have ia : (PySem.W.sortingHeap (PySem.W.copyHeap s.heap its) (s.heap.objs.size + 1) its).get? (s.heap.objs.size + 1) = some (seqObj "list" #[] _) := Heap.get?_push_of_some _ (Heap.get?_push_of_some _ o2)
          have hs3 : ((((PySem.W.copyHeap s.heap its).update (s.heap.objs.size + 1) (Obj.mapSeq fun _ => (#[] : Array Value))).push (seqObj "tuple" its.toArray 0))).objs.size = s.heap.objs.size + 3 := by
            rw [size_push', Heap.size_update, hsz]
          have is : (PySem.W.sortingHeap (PySem.W.copyHeap s.heap its) (s.heap.objs.size + 1) its).get? (s.heap.objs.size + 3) = some (seqObj "list" #[] 0) := by
            rw [← hs3]; exact Heap.get?_push_size _ rfl
          refine sort_turns (kS := _) (ps := vs2.zip (ys.zip ks)) (s := { s with heap := PySem.W.sortingHeap (PySem.W.copyHeap s.heap its) (s.heap.objs.size + 1) its }) FO (hr := ⟨hr.hd, by have := hr.dp; show X.A.depth + 3 * k + 5 < _; omega, by have := hr.un; show X.A.units + 1 + 1 + 16 * k + 200 < _; omega⟩) hb ?ne E1 hp (by rw [em]; exact hok.1) (by omega) hr.units (I.kept (t' := s.toks) k0) fh ia ?os (I.fpOk (by omega) (I.hok.fresh (by omega))) ?fk fun s2 H2 out c I2 hh fa oo eo => ⟨rfl, ?_⟩
          case ne => rw [hs3]; exact Nat.ne_of_gt (Nat.lt_succ_of_lt (Nat.lt_succ_self _))
          case os => show Heap.get? _ _ = _; rw [hs3]; exact is
          case fk => rw [hs3]; exact I.fpOk (by omega) (I.hok.fresh (by omega))
          have ol : out.length = its.length := by
            have := eo.length
            rw [List.length_mergeSort] at this; omega
          have hv := each_vals (ps := (((vs2.zip (ys.zip ks)).mergeSort fun p q => leD p.2.2 q.2.2).map fun p => (p.1, p.2.1))) (each_map2 (R := fun u (p : V × D) => RelV p.1 u) (g := fun p : V × D × D => (p.1, p.2.1)) eo)
          have ep : (((vs2.zip (ys.zip ks)).mergeSort fun p q => leD p.2.2 q.2.2).map fun p => (p.1, p.2.1)).map (·.2) = ((ys.zip ks).mergeSort leK).map (·.1) := by
            have := List.map_mergeSort (r := fun (p q : V × D × D) => leD p.2.2 q.2.2) (s := leK) (f := fun p : V × D × D => p.2) (l := vs2.zip (ys.zip ks)) (fun _ _ _ _ => rfl)
            rw [List.map_snd_zip (by rw [List.length_zip]; omega)] at this
            rw [← this, List.map_map, List.map_map]; rfl
          refine ⟨.ref _, upd H2 (s.heap.objs.size + 1) (.lst ((((vs2.zip (ys.zip ks)).mergeSort fun p q => leD p.2.2 q.2.2).map fun p => (p.1, p.2.1)).map (·.1))), I2.take (t' := s2.toks) (fun _ _ _ q => q) fa ⟨by simp only [List.length_map, List.length_mergeSort]; omega, out, c, hv, oo⟩, rfl, ?_⟩
          have hn : H (s.heap.objs.size + 1) = none := I.hok.fresh (by omega)
          refine kk _ _ F [s.heap.objs.size + 1] (hh.trans (same_upd fa.1)) (Same.refl F) (fh.trans (hh.trans (same_upd fa.1))) NewF.refl (.lst upd_same ?_) (by simp) fun a ha => by
            rw [List.mem_singleton.1 ha]; exact ⟨hn, fh.free hn⟩
          rw [← ep]
          exact reps_of_mem fun p hp' => by
            obtain ⟨q, hq, rfl⟩ := List.mem_map.1 hp'
            exact (hp q (List.mem_mergeSort.1 hq)).1
      · cases e
    · cases e
  · cases e
end
def dSortK (f : List D → FnR) (m : DEnv → ER) : DEnv → ER := dPrim (gSortK f) [m]
theorem me_sortK {X : Cx} {W : WX} {R : Hp} {P : List (Option V)} {k : Nat} {f : Addr} {fd : FuncData} {x y : Str} {fn : List D → FnR} {p p2 kpos pos : Pos} {e : Expr} {m : DEnv → ER}
    (FO : FnOk X.prog X.w X.K X.mg X.base (L2.CX X.prog X.w) k f fd [x] (spF X.K X.mg [.va] fn)) (hr : Room (k + 2) X.A) (hm : X.mg y = some (.ref f)) (hb : Binds X.K fd [x] []) (hs : X.mg "sorted" = none) (he : ME X W R P e m)
    (hg : Gl X "sorted" := by rfl) (hgy : Gl X y := by rfl) (hdb : (y == ("__debug__" : Str)) = false := by decide)
    (hst : starEach [e] X.env = (false, eval e X.env) :: starEach [] X.env := by rfl)
    (h1 : backTo pos (starEach [e] X.env) = (false, eval e X.env) :: backTo pos (starEach [] X.env) := by rfl) (h2 : (backTo pos (starEach [e] X.env)).any (·.1) = false := by rfl)
    (h3 : (backToKw pos (keywordEach [⟨some "key", .Name y p2, kpos⟩] X.env)).all (·.1.isSome) = true := by rfl) (h4 : (backToKw pos (keywordEach [⟨some "key", .Name y p2, kpos⟩] X.env)).any (·.1.isNone) = false := by rfl)
    (h5 : (backToKw pos (keywordEach [⟨some "key", .Name y p2, kpos⟩] X.env)).filterMap (·.1) = [Str.ofString "key"] := by rfl) :
    ME X W R P (.Call (.Name "sorted" p) [e] [⟨some "key", .Name y p2, kpos⟩] pos) (dSortK fn m) := by
  intro G H F σ env L Q I h
  refine w_of (pe_callBK (callSortK FO hr hb) hg hs (by decide +kernel) (pa_cons pe_w pa_nil hst) (pk_cons (pe_glob (v := .ref f) hgy hm rfl hdb) pk_nil) (by decide) (by decide) h1 h2 h3 h4 h5) ?_
  exact tW_mono (Q := fun x H1 => ∃ F' ds rv, _) (run_prim (.cons he .nil) I h) fun x H1 ⟨F', ds, rv, a, b, c, d⟩ => ⟨rfl, σ, F', ds, rv, a, b, c, d⟩
end DX

namespace DX
open PySem PySem.Spec L2
open PyProof.Rows hiding St

/-! ### where a sign stands in a text -/
def gSIndex (a : Str) : List D → Option Val
  | [.str b] => match Builtin.Str.occurrences a b 0 a.length 1 with
    | i :: _ => some (.fz (.int (i : Nat)))
    | [] => none
  | _ => none
section
variable {X : Cx} {W : WX} {R : Hp} {P : List (Option V)}
theorem me_sindex {b e : Expr} {mb me' : DEnv → ER} {apos cpos : Pos} (hb : ME X W R P b mb) (he : ME X W R P e me')
    (hbase : attributeBase b "index" X.env (eval b X.env) = eval b X.env := by rfl)
    (hfew : ((backTo cpos (starEach [e] X.env)).all (fun x => !x.1) && (backToKw cpos (keywordEach [] X.env)).all (fun x => x.1.isSome)
      && decide ([e].length + ([] : List Keyword).length + (if ([] : List Keyword).isEmpty then 0 else 1) < 30)) = true := by rfl)
    (hline : (apos.endLine == cpos.line) = true := by rfl) (hst : starEach [e] X.env = (false, eval e X.env) :: starEach [] X.env := by rfl) :
    ME X W R P (.Call (.Attribute b "index" apos) [e] [] cpos) (dSm gSIndex mb [me']) :=
  me_sm PySem.F.slot_str_index PySem.F.type_str_index mt_sindex (fun a vs H Q ⟨σ, F, ds, rv, fh, h, e, k⟩ => by
    unfold gSIndex at e; split at e
    · rename_i z
      obtain ⟨x, rfl, hx⟩ := one h
      cases hx
      split at e
      · rename_i i rest ho
        cases e
        exact ⟨a, z, i, rest, rfl, rfl, ho, k.atom fh (.int _)⟩
      · cases e
    · cases e) hb (.cons he .nil) (pa_cons pe_w pa_nil hst) hbase hfew hline hst
end
end DX

namespace DX
open PySem PySem.Spec L2
open PyProof.Rows hiding St

/-! ### before and behind: lists, tuples -/
def cmpOk (a b : D) : Bool := okN 4 a && okN 4 b && PySem.W.alike (pyD a) (pyD b) && (match a with | .non => false | _ => true)
def gLtD : List D → Option Val
  | [a, b] => if cmpOk a b = true then some (.fz (.bl (PySem.W.dataLt (pyD a) (pyD b)))) else none
  | _ => none
def gGtD : List D → Option Val
  | [a, b] => if cmpOk a b = true then some (.fz (.bl (PySem.W.dataLt (pyD b) (pyD a)))) else none
  | _ => none
section
variable {X : Cx} {pins : List (Addr × Obj)} {σ : St} {H F : Hp} {s : Shared}
theorem reads_repH (I : Inv X pins σ H s) (fh : Same F H) {v : V} {u : Value} {d : D} (h : RepH X.K H F v d) (r : RelV v u) (ok : okN 4 d = true) : ∃ as, Reads s.heap u (pyD d) as := by
  cases h with
  | non => cases r; exact ⟨[], .none⟩
  | bl b => cases r; exact ⟨[], .bool _⟩
  | int i => obtain ⟨t, rfl⟩ := r; exact ⟨[], .int _ _⟩
  | str z => obtain ⟨t, rfl⟩ := r; exact ⟨[], .str _ _⟩
  | tup h hk hi =>
    rename_i a vs xs
    obtain rfl : u = Value.ref a := r
    obtain ⟨vs2, its, rv, hs, ht, _⟩ := rep_tup I (RepH.tup h hk hi : RepH X.K H F (.ref a) (.tup xs))
    obtain ⟨as, ra⟩ := reads_all (n := 3) (fun a b c => reads_rep I fh 3 a b c) rv hs (by simpa [okN] using ok)
    obtain ⟨o, ho, hc, n0, hd⟩ := ht
    exact ⟨as, .tuple ho hc hd (by simpa using ra)⟩
  | lst h hi =>
    rename_i a vs xs
    obtain rfl : u = Value.ref a := r
    obtain ⟨vs2, its, rv, hs, ht, _⟩ := rep_lst I (RepH.lst h hi : RepH X.K H F (.ref a) (.lst xs))
    obtain ⟨as, ra⟩ := reads_all (n := 3) (fun a b c => reads_rep I fh 3 a b c) rv hs (by simpa [okN] using ok)
    obtain ⟨o, ho, hc, n0, hd⟩ := ht
    exact ⟨a :: as, .list ho hc hd (by simpa using ra)⟩
  | scr => cases ok
  | dK => cases ok
  | dT => cases ok
theorem cmp_parts {a b : D} (h : cmpOk a b = true) : okN 4 a = true ∧ okN 4 b = true ∧ PySem.W.alike (pyD a) (pyD b) = true ∧ pyD a ≠ .none := by
  simp only [cmpOk, Bool.and_eq_true] at h
  obtain ⟨⟨⟨h1, h2⟩, h3⟩, h4⟩ := h
  refine ⟨h1, h2, h3, fun e => ?_⟩
  cases a <;> first | (cases h4; done) | (cases h1; done) | (simp [pyD, pyN] at e)
theorem cmp_room {a b : D} (hu : X.A.units + 64 < cLine) : X.A.units + min (pyD a).depth (pyD b).depth < cLine := by
  have : (pyD a).depth ≤ 4 := depth_le 4 a
  omega
theorem opd_ltD (hu : X.A.units + 64 < cLine) : OpR X (compareOp .Lt) (r2G X.K gLtD) := by
  intro pins s σ H x y v u Q I rx ry ⟨σ', F, ds, rv, fh, h, e, k⟩
  obtain ⟨dx, dy, rfl, hx, hy⟩ := rd2 h
  unfold gLtD at e
  dsimp only at e
  by_cases c : cmpOk dx dy = true
  · rw [if_pos c] at e
    cases e
    obtain ⟨c1, c2, c3, c4⟩ := cmp_parts c
    obtain ⟨as, ra⟩ := reads_repH I fh hx rx c1
    obtain ⟨bs, rb⟩ := reads_repH I fh hy ry c2
    exact PySem.W.lt_data ra rb c3 c4 (cmp_room hu) ⟨.bl _, H, I, rfl, k.atom fh (.bl _)⟩
  · rw [if_neg c] at e; cases e
theorem opd_gtD (hu : X.A.units + 64 < cLine) : OpR X (compareOp .Gt) (r2G X.K gGtD) := by
  intro pins s σ H x y v u Q I rx ry ⟨σ', F, ds, rv, fh, h, e, k⟩
  obtain ⟨dx, dy, rfl, hx, hy⟩ := rd2 h
  unfold gGtD at e
  dsimp only at e
  by_cases c : cmpOk dx dy = true
  · rw [if_pos c] at e
    cases e
    obtain ⟨c1, c2, c3, c4⟩ := cmp_parts c
    obtain ⟨as, ra⟩ := reads_repH I fh hx rx c1
    obtain ⟨bs, rb⟩ := reads_repH I fh hy ry c2
    exact PySem.W.gt_data ra rb c3 c4 (cmp_room hu) ⟨.bl _, H, I, rfl, k.atom fh (.bl _)⟩
  · rw [if_neg c] at e; cases e
end
end DX

/-! Lists whose items are their own: made, and walked so that an item may change in its turn. -/
namespace DX
open PySem PySem.Spec L2
open PyProof.Rows hiding St

def pinP : List (Option V) → Nat → V → List (Option V)
  | P, 0, v => some v :: P.tail
  | P, i + 1, v => P.head?.getD none :: pinP P.tail i v
section
variable {K : PySem.W.Frag} {R H F : Hp}
theorem EnvR.unIO {x : V} {d : D} {La : List Addr} (r : RepO K H F x d La) : ∀ {P : List (Option V)} {σ : St} {env : DEnv} {L : List Addr}, EnvR K R H F P σ env L → ∀ {j : Nat}, env[j]? = some .un → ∃ L', EnvR K R H F (pinP P j x) (σ.set j (some x)) (env.set j (.v .io d)) L' ∧ L'.Perm (La ++ L) := by
  intro P σ env L h
  have hd : ∀ {P : List (Option V)} {v : V} {Q : List (Option V)}, P.head? = some (some v) → (P.head?.getD none :: Q).head? = some (some v) := fun e => by rw [e]; rfl
  have sw : ∀ {A B C : List Addr}, (A ++ (B ++ C)).Perm (B ++ (A ++ C)) := fun {A B C} => by
    rw [← List.append_assoc, ← List.append_assoc]; exact List.perm_append_comm.append_right C
  induction h with
  | nil => intro j e; simp at e
  | @un P o _ _ _ t ih => intro j e; cases j with
    | zero => exact ⟨_, .io rfl r t, List.Perm.refl _⟩
    | succ j => obtain ⟨L', t', p⟩ := ih (j := j) (by simpa using e); exact ⟨L', .un (o := o) t', p⟩
  | @pin P v _ _ _ p0 t ih => intro j e; cases j with
    | zero => simp at e
    | succ j => obtain ⟨L', t', p⟩ := ih (j := j) (by simpa using e); exact ⟨L', .pin (show (_ :: _ : List (Option V)).head? = _ from hd (Q := pinP _ j x) p0) t', p⟩
  | fz r0 t ih => intro j e; cases j with
    | zero => simp at e
    | succ j => obtain ⟨L', t', p⟩ := ih (j := j) (by simpa using e); exact ⟨L', .fz r0 t', p⟩
  | rd r0 t ih => intro j e; cases j with
    | zero => simp at e
    | succ j => obtain ⟨L', t', p⟩ := ih (j := j) (by simpa using e); exact ⟨L', .rd r0 t', p⟩
  | ow r0 t ih => intro j e; cases j with
    | zero => simp at e
    | succ j => obtain ⟨L', t', p⟩ := ih (j := j) (by simpa using e); exact ⟨_, .ow r0 t', (p.append_left _).trans sw⟩
  | io p0 r0 t ih => intro j e; cases j with
    | zero => simp at e
    | succ j => obtain ⟨L', t', p⟩ := ih (j := j) (by simpa using e); exact ⟨_, .io (show (_ :: _ : List (Option V)).head? = _ from hd (Q := pinP _ j x) p0) r0 t', (p.append_left _).trans sw⟩
theorem EnvR.unPin {x : V} : ∀ {P : List (Option V)} {σ : St} {env : DEnv} {L : List Addr}, EnvR K R H F P σ env L → ∀ {j : Nat}, env[j]? = some .un → σ[j]? = some (some x) → EnvR K R H F (pinP P j x) σ (env.set j .pin) L := by
  intro P σ env L h
  have hd : ∀ {P : List (Option V)} {v : V} {Q : List (Option V)}, P.head? = some (some v) → (P.head?.getD none :: Q).head? = some (some v) := fun e => by rw [e]; rfl
  induction h with
  | nil => intro j e; simp at e
  | @un P o _ _ _ t ih => intro j e es; cases j with
    | zero => simp at es; subst es; exact .pin rfl t
    | succ j => exact .un (o := o) (ih (j := j) (by simpa using e) (by simpa using es))
  | pin p0 t ih => intro j e es; cases j with
    | zero => simp at e
    | succ j => exact .pin (show (_ :: _ : List (Option V)).head? = _ from hd (Q := pinP _ j x) p0) (ih (j := j) (by simpa using e) (by simpa using es))
  | fz r0 t ih => intro j e es; cases j with
    | zero => simp at e
    | succ j => exact .fz r0 (ih (j := j) (by simpa using e) (by simpa using es))
  | rd r0 t ih => intro j e es; cases j with
    | zero => simp at e
    | succ j => exact .rd r0 (ih (j := j) (by simpa using e) (by simpa using es))
  | ow r0 t ih => intro j e es; cases j with
    | zero => simp at e
    | succ j => exact .ow r0 (ih (j := j) (by simpa using e) (by simpa using es))
  | io p0 r0 t ih => intro j e es; cases j with
    | zero => simp at e
    | succ j => exact .io (show (_ :: _ : List (Option V)).head? = _ from hd (Q := pinP _ j x) p0) r0 (ih (j := j) (by simpa using e) (by simpa using es))
theorem hd_off {P Q : List (Option V)} {v : V} (e : (P.head?.getD none :: Q).head? = some (some v)) : P.head? = some (some v) := by
  simp only [List.head?_cons, Option.some.injEq] at e
  cases q : P.head? with
  | none => rw [q] at e; cases e
  | some o => rw [q] at e; simp at e; rw [e]
theorem EnvR.offIO {x : V} {d : D} : ∀ {j : Nat} {P : List (Option V)} {σ : St} {env : DEnv} {L : List Addr}, EnvR K R H F (pinP P j x) σ env L → env[j]? = some (.v .io d) → ∃ La L', σ[j]? = some (some x) ∧ RepO K H F x d La ∧ L.Perm (La ++ L') ∧ EnvR K R H F P σ (env.set j .un) L'
  | 0, P, σ, env, L, h, e => by
    cases h with
    | nil => simp at e
    | un t => simp at e
    | pin p t => simp at e
    | fz r t => simp at e
    | rd r t => simp at e
    | ow r t => simp at e
    | io p r t =>
      simp at e
      subst e
      simp [pinP] at p
      subst p
      exact ⟨_, _, rfl, r, List.Perm.refl _, .un t⟩
  | j + 1, P, σ, env, L, h, e => by
    have sw : ∀ {A B C : List Addr}, (A ++ (B ++ C)).Perm (B ++ (A ++ C)) := fun {A B C} => by
      rw [← List.append_assoc, ← List.append_assoc]; exact List.perm_append_comm.append_right C
    cases h with
    | nil => simp at e
    | un t => obtain ⟨La, L', a, b, c, t'⟩ := EnvR.offIO (j := j) (P := P.tail) t (by simpa using e); exact ⟨La, L', a, b, c, .un t'⟩
    | pin p t => obtain ⟨La, L', a, b, c, t'⟩ := EnvR.offIO (j := j) (P := P.tail) t (by simpa using e); exact ⟨La, L', a, b, c, .pin (hd_off (Q := pinP P.tail j x) p) t'⟩
    | fz r t => obtain ⟨La, L', a, b, c, t'⟩ := EnvR.offIO (j := j) (P := P.tail) t (by simpa using e); exact ⟨La, L', a, b, c, .fz r t'⟩
    | rd r t => obtain ⟨La, L', a, b, c, t'⟩ := EnvR.offIO (j := j) (P := P.tail) t (by simpa using e); exact ⟨La, L', a, b, c, .rd r t'⟩
    | ow r t => obtain ⟨La, L', a, b, c, t'⟩ := EnvR.offIO (j := j) (P := P.tail) t (by simpa using e); exact ⟨La, _, a, b, (c.append_left _).trans sw, .ow r t'⟩
    | io p r t => obtain ⟨La, L', a, b, c, t'⟩ := EnvR.offIO (j := j) (P := P.tail) t (by simpa using e); exact ⟨La, _, a, b, (c.append_left _).trans sw, .io (hd_off (Q := pinP P.tail j x) p) r t'⟩
theorem EnvR.offPin {x : V} : ∀ {j : Nat} {P : List (Option V)} {σ : St} {env : DEnv} {L : List Addr}, EnvR K R H F (pinP P j x) σ env L → env[j]? = some .pin → σ[j]? = some (some x) ∧ EnvR K R H F P σ (env.set j .un) L
  | 0, P, σ, env, L, h, e => by
    cases h with
    | nil => simp at e
    | un t => simp at e
    | pin p t =>
      simp [pinP] at p
      subst p
      exact ⟨rfl, .un t⟩
    | fz r t => simp at e
    | rd r t => simp at e
    | ow r t => simp at e
    | io p r t => simp at e
  | j + 1, P, σ, env, L, h, e => by
    cases h with
    | nil => simp at e
    | un t => obtain ⟨a, t'⟩ := EnvR.offPin (j := j) (P := P.tail) t (by simpa using e); exact ⟨a, .un t'⟩
    | pin p t => obtain ⟨a, t'⟩ := EnvR.offPin (j := j) (P := P.tail) t (by simpa using e); exact ⟨a, .pin (hd_off (Q := pinP P.tail j x) p) t'⟩
    | fz r t => obtain ⟨a, t'⟩ := EnvR.offPin (j := j) (P := P.tail) t (by simpa using e); exact ⟨a, .fz r t'⟩
    | rd r t => obtain ⟨a, t'⟩ := EnvR.offPin (j := j) (P := P.tail) t (by simpa using e); exact ⟨a, .rd r t'⟩
    | ow r t => obtain ⟨a, t'⟩ := EnvR.offPin (j := j) (P := P.tail) t (by simpa using e); exact ⟨a, .ow r t'⟩
    | io p r t => obtain ⟨a, t'⟩ := EnvR.offPin (j := j) (P := P.tail) t (by simpa using e); exact ⟨a, .io (hd_off (Q := pinP P.tail j x) p) r t'⟩
end
/-- the walk: an item that is owned goes out into a slot and back -/
def forO (j : Nat) (dead : List Nat) (body : DEnv → FR) (fin : List D → DEnv → FR) (un : DEnv → Option DEnv) : List D → List D → DEnv → FR
  | done, [], env => fin done (forget dead env)
  | done, x :: xs, env => match (forget dead env)[j]? with
    | none => .err
    | some s => if freeS s = true then match x with
      | .ow d => match body ((forget dead env).set j (.v .io d)) with
        | .next e2 => match e2[j]? with
          | some (.v .io d2) => forO j dead body fin un (done ++ [.ow d2]) xs (e2.set j .un)
          | _ => .err
        | .cnt e2 => match e2[j]? with
          | some (.v .io d2) => forO j dead body fin un (done ++ [.ow d2]) xs (e2.set j .un)
          | _ => .err
        | .ret v e2 => match e2[j]? with
          | some (.v .io _) => match un (e2.set j .un) with
            | some e3 => .ret v e3
            | none => .err
          | _ => .err
        | _ => .err
      | x => match body ((forget dead env).set j (.v .fz x)) with
        | .next e2 => forO j dead body fin un (done ++ [x]) xs e2
        | .cnt e2 => forO j dead body fin un (done ++ [x]) xs e2
        | .ret v e2 => match un e2 with
          | some e3 => .ret v e3
          | none => .err
        | _ => .err
      else .err
theorem flat_set {Ls : List (List Addr)} {Li : List Addr} : ∀ {i : Nat}, Ls[i]? = some Li → ∀ A : List Addr, (Ls.set i A).flatten.Perm (A ++ (Ls.set i []).flatten) ∧ Ls.flatten.Perm (Li ++ (Ls.set i []).flatten) := by
  have sw : ∀ {A B C : List Addr}, (A ++ (B ++ C)).Perm (B ++ (A ++ C)) := fun {A B C} => by
    rw [← List.append_assoc, ← List.append_assoc]; exact List.perm_append_comm.append_right C
  induction Ls with
  | nil => intro i h; simp at h
  | cons l Ls ih =>
    intro i h A
    cases i with
    | zero => simp at h; subst h; simp
    | succ i =>
      obtain ⟨p1, p2⟩ := ih (i := i) (by simpa using h) A
      simp only [List.set_cons_succ, List.flatten_cons]
      exact ⟨(p1.append_left l).trans sw, (p2.append_left l).trans sw⟩
section
variable {X : Cx} {W : WX} {R : Hp} {pos : Pos} {G H F : Hp} {σ : St} {env : DEnv} {L : List Addr}
theorem FI.envTo {P P' : List (Option V)} {env' : DEnv} {σ' : St} {L' : List Addr} (I : FI X.K R P G H F σ env L) (er : EnvR X.K R H F P' σ' env' L') (nd : L'.Nodup) (fr : ∀ a ∈ L', F a = none ∧ G a = none) : FI X.K R P' G H F σ' env' L' := ⟨I.fh, I.gh, I.rg, er, nd, fr⟩
/-- the list and its items, all but those that are out -/
structure OL (K : PySem.W.Frag) (G H F : Hp) (a : Addr) (vs : List V) (xs : List D) (Ls : List (List Addr)) (L : List Addr) : Prop where
  ps : Parts K H F vs xs Ls
  ha : H a = some (.lst vs)
  nd : ((a :: Ls.flatten) ++ L).Nodup
  fr : ∀ b ∈ a :: Ls.flatten, F b = none ∧ G b = none
theorem OL.there {K : PySem.W.Frag} {a : Addr} {vs : List V} {xs : List D} {Ls : List (List Addr)} (o : OL K G H F a vs xs Ls L) : ∀ b ∈ a :: Ls.flatten, ∃ u, H b = some u ∧ NT u := fun b hb => by
  rcases List.mem_cons.1 hb with rfl | hb
  · exact ⟨_, o.ha, fun _ z => by cases z⟩
  · obtain ⟨Li, h1, h2⟩ := List.mem_flatten.1 hb
    obtain ⟨i, hi⟩ := List.getElem?_of_mem h1
    have l1 := (List.getElem?_eq_some_iff.1 hi).1
    have l2 : i < vs.length := by rw [← o.ps.2.1]; exact l1
    have l3 : i < xs.length := by rw [← o.ps.1]; exact l2
    exact (o.ps.2.2 i _ _ Li (List.getElem?_eq_getElem l2) (List.getElem?_eq_getElem l3) hi).there b h2
theorem forO_go {P P' : List (Option V)} {a : Addr} {vs : List V} {tg : Expr} {body : List Stmt} {j : Nat} {dead : List Nat} {mb : DEnv → FR} {fin : List D → DEnv → FR} {un : DEnv → Option DEnv} {D0 : Ends} (hg : MN X tg j) (hb : ∀ P, MSs X W R P body mb)
    (hcv : ∀ {e e' : DEnv} {G H F : Hp} {σ : St} {L : List Addr}, un e = some e' → FI X.K R P' G H F σ e L → FI X.K R P G H F σ e' L)
    (hfin : ∀ (dn : List D) (e : DEnv) (H F : Hp) (σ : St) (L : List Addr) (Ls : List (List Addr)), FI X.K R P' G H F σ e L → OL X.K G H F a vs dn Ls L → PostS X W R P G F (fin dn e) D0 → D0.nx σ H)
    {xs : List D} {Ls : List (List Addr)} (I : FI X.K R P' G H F σ env L) (o : OL X.K G H F a vs xs Ls L) (q : PostS X W R P G F (forO j dead mb fin un [] xs env) D0) :
    ∃ W' : Nat → Nat → St → Hp → Prop, (∃ m, W' 0 m σ H) ∧ ∀ i m σ H, W' i m σ H → ((Itl X.K a).stop i H ∧ D0.nx σ H) ∨ ((Itl X.K a).go i H ∧ ∃ N : St → Hp → Prop, (∀ σ' H', N σ' H' → ∃ m', m' < m ∧ W' (i + 1) m' σ' H') ∧
      ∀ x H', (Itl X.K a).yld i H x H' → tWg X tg x σ H' fun σ2 H2 => tWss X body { D0 with nx := N, ct := N, bk := D0.nx } σ2 H2) := by
  refine ⟨fun i m σ H => m = vs.length - i ∧ ∃ dn td env F1 L Ls, dn.length = i ∧ FI X.K R P' G H F1 σ env L ∧ OL X.K G H F1 a vs (dn ++ td) Ls L ∧ PostS X W R P G F1 (forO j dead mb fin un dn td env) D0, ⟨_, rfl, [], xs, env, F, L, Ls, rfl, I, o, q⟩, ?_⟩
  rintro i m σ H ⟨rfl, dn, td, env, F1, L, Ls, hl, I, o, q⟩
  have sq : SqL X.K H a vs := .inl (.inl o.ha)
  have lv := o.ps.1
  rw [List.length_append] at lv
  have gg : Same G (addG G H (a :: Ls.flatten)) := addG_same fun b h => (o.fr b h).2
  have I0 := I.held o.nd o.fr
  obtain ⟨L2, I1⟩ := I0.forget (dead := dead)
  have dj : ∀ b ∈ L2, b ∉ a :: Ls.flatten := fun b hb z => by
    have := (I1.fr b hb).2
    rw [addG_in z] at this
    obtain ⟨u, hu, _⟩ := o.there b z
    rw [hu] at this; cases this
  have nd2 : ((a :: Ls.flatten) ++ L2).Nodup := List.nodup_append.2 ⟨(List.nodup_append.1 o.nd).1, I1.nd, fun b hb c hc z => dj c hc (z ▸ hb)⟩
  have rgG : Same R G := I.rg
  cases td with
  | nil =>
    refine .inl ⟨⟨vs, sq, by simp at lv; omega⟩, ?_⟩
    unfold forO at q
    rw [List.append_nil] at o
    exact hfin dn _ H F1 σ L2 Ls (I1.less gg rgG) ⟨o.ps, o.ha, nd2, o.fr⟩ q
  | cons x0 td =>
    have hlt : i < vs.length := by simp at lv; omega
    have lL : i < Ls.length := by rw [o.ps.2.1]; exact hlt
    refine .inr ⟨⟨vs, vs[i], sq, List.getElem?_eq_getElem _⟩, fun σ' H' => ∃ dn td env F1 L Ls, dn.length = i + 1 ∧ FI X.K R P' G H' F1 σ' env L ∧ OL X.K G H' F1 a vs (dn ++ td) Ls L ∧ PostS X W R P G F1 (forO j dead mb fin un dn td env) D0, fun σ' H' h => ⟨vs.length - (i + 1), by omega, rfl, h⟩, fun x H' y => ?_⟩
    obtain ⟨rfl, y⟩ := y
    have ev := y vs sq
    have exs : (dn ++ x0 :: td)[i]? = some x0 := by rw [List.getElem?_append_right (by omega), hl]; simp
    obtain ⟨Li, eL⟩ : ∃ Li, Ls[i]? = some Li := ⟨_, List.getElem?_eq_getElem lL⟩
    have r := o.ps.2.2 i x x0 Li ev exs eL
    obtain ⟨_, pL⟩ := flat_set eL []
    have pAll : (a :: Ls.flatten).Perm (Li ++ (a :: (Ls.set i []).flatten)) := (pL.cons a).trans (by
      have : (a :: (Li ++ (Ls.set i []).flatten)).Perm (Li ++ a :: (Ls.set i []).flatten) := List.perm_middle.symm
      exact this)
    have inAll : ∀ b ∈ a :: (Ls.set i []).flatten, b ∈ a :: Ls.flatten := fun b hb => pAll.mem_iff.2 (List.mem_append_right _ hb)
    have inLi : ∀ b ∈ Li, b ∈ a :: Ls.flatten := fun b hb => pAll.mem_iff.2 (List.mem_append_left _ hb)
    have ndA := pAll.nodup_iff.1 (List.nodup_append.1 o.nd).1
    have ndA' := List.nodup_append.1 ndA
    have g1 : Same G (addG G H' (a :: (Ls.set i []).flatten)) := addG_same fun b h => (o.fr b (inAll b h)).2
    have g2 : Same (addG G H' (a :: (Ls.set i []).flatten)) (addG G H' (a :: Ls.flatten)) := fun b u e => by
      by_cases hb : b ∈ a :: (Ls.set i []).flatten
      · rw [addG_in hb] at e; rw [addG_in (inAll b hb)]; exact e
      · rw [addG_out hb] at e
        rw [addG_out fun z => by rw [(o.fr b z).2] at e; cases e]; exact e
    have I2 := I1.less g2 (rgG.trans g1)
    -- behind the turn: what stays in the list
    have keepH : ∀ {H5 : Hp}, Same (addG G H' (a :: (Ls.set i []).flatten)) H5 → ∀ b ∈ a :: (Ls.set i []).flatten, H5 b = H' b := fun {H5} s b hb => by
      obtain ⟨u, hu, _⟩ := o.there b (inAll b hb)
      rw [hu]; exact s b u (by rw [addG_in hb]; exact hu)
    have keepF : ∀ {F5 : Hp}, NewF (addG G H' (a :: (Ls.set i []).flatten)) F1 F5 → ∀ b ∈ a :: (Ls.set i []).flatten, F5 b = none := fun {F5} n b hb => by
      obtain ⟨u, hu, nt⟩ := o.there b (inAll b hb)
      exact n.out (by rw [addG_in hb]; exact hu) nt (o.fr b (inAll b hb)).1
    have again : ∀ {H5 F5 : Hp} {x1 : D} {La L6 : List Addr}, Same (addG G H' (a :: (Ls.set i []).flatten)) H5 → Same F1 F5 → NewF (addG G H' (a :: (Ls.set i []).flatten)) F1 F5 → RepX X.K H5 F5 true x x1 La → (La ++ L6).Nodup → (∀ b ∈ La, F5 b = none ∧ addG G H' (a :: (Ls.set i []).flatten) b = none) → (∀ b ∈ L6, addG G H' (a :: (Ls.set i []).flatten) b = none) →
        OL X.K G H5 F5 a vs ((dn ++ [x1]) ++ td) (Ls.set i La) L6 := by
      intro H5 F5 x1 La L6 s ff n r5 nd5 fr5 fr6
      have kH := keepH s
      have notin : ∀ b, addG G H' (a :: (Ls.set i []).flatten) b = none → b ∉ a :: (Ls.set i []).flatten := fun b e z => by
        rw [addG_in z] at e
        obtain ⟨u, hu, _⟩ := o.there b (inAll b z)
        rw [hu] at e; cases e
      obtain ⟨pA, _⟩ := flat_set eL La
      have pA2 : (a :: (Ls.set i La).flatten).Perm (La ++ (a :: (Ls.set i []).flatten)) := (pA.cons a).trans List.perm_middle.symm
      refine ⟨⟨by have := o.ps.1; simpa using this, by rw [List.length_set]; exact o.ps.2.1, fun k v d Lk e1 e2 e3 => ?_⟩, by rw [kH a List.mem_cons_self]; exact o.ha, ?_, fun b hb => ?_⟩
      · by_cases hk : k = i
        · subst hk
          rw [ev] at e1; cases e1
          rw [List.append_assoc, List.getElem?_append_right (by omega), hl] at e2
          simp at e2; subst e2
          rw [List.getElem?_set_self lL] at e3; cases e3
          exact r5
        · rw [List.getElem?_set_ne (Ne.symm hk)] at e3
          have e2' : (dn ++ x0 :: td)[k]? = some d := by
            rw [List.append_assoc] at e2
            by_cases hk2 : k < dn.length
            · rw [List.getElem?_append_left hk2] at e2 ⊢; exact e2
            · rw [List.getElem?_append_right (by omega)] at e2 ⊢
              obtain ⟨z, hz⟩ : ∃ z, k - dn.length = z + 1 := ⟨k - dn.length - 1, by omega⟩
              rw [hz] at e2 ⊢
              simpa using e2
          refine (o.ps.2.2 k v d Lk e1 e2' e3).keep (fun b hb => kH b (List.mem_cons_of_mem _ ?_)) ff
          exact mem_at (Ls := Ls.set i []) (i := k) (by rw [List.getElem?_set_ne (Ne.symm hk)]; exact e3) hb
      · have ndL := List.nodup_append.1 nd5
        refine List.nodup_append.2 ⟨pA2.nodup_iff.2 (List.nodup_append.2 ⟨ndL.1, ndA'.2.1, fun b hb c hc z => notin b (fr5 b hb).2 (z ▸ hc)⟩), ndL.2.1, fun b hb c hc z => ?_⟩
        subst z
        rcases List.mem_append.1 (pA2.mem_iff.1 hb) with z | z
        · exact ndL.2.2 b z b hc rfl
        · exact notin b (fr6 b hc) z
      · rcases List.mem_append.1 (pA2.mem_iff.1 hb) with z | z
        · exact ⟨(fr5 b z).1, g1.free (fr5 b z).2⟩
        · exact ⟨keepF n b z, (o.fr b (inAll b z)).2⟩
    -- the turn
    unfold forO at q
    cases ej : (DX.forget dead env)[j]? with
    | none => rw [ej] at q; exact q.elim
    | some s0 =>
      rw [ej] at q
      dsimp only at q
      split at q
      · rename_i hfree
        have hi : j < (DX.forget dead env).length := getElem?_lt ej
        cases r with
        | pf rp =>
          have q : PostS X W R P G F1 (match mb ((DX.forget dead env).set j (.v .fz x0)) with
              | .next e2 => forO j dead mb fin un (dn ++ [x0]) td e2
              | .cnt e2 => forO j dead mb fin un (dn ++ [x0]) td e2
              | .ret v e2 => (match un e2 with | some e3 => .ret v e3 | none => .err)
              | _ => .err) D0 := by cases rp <;> exact q
          obtain ⟨L3, I3, _⟩ := I2.putFz rp hi
          refine hg x σ H' _ (hb P' _ H' F1 _ _ L3 _ I3 ?_)
          have nxt : ∀ e2, PostS X W R P G F1 (forO j dead mb fin un (dn ++ [x0]) td e2) D0 → NOk X R P' (addG G H' (a :: (Ls.set i []).flatten)) F1 e2 (fun σ' H' => ∃ dn td env F1 L Ls, dn.length = i + 1 ∧ FI X.K R P' G H' F1 σ' env L ∧ OL X.K G H' F1 a vs (dn ++ td) Ls L ∧ PostS X W R P G F1 (forO j dead mb fin un dn td env) D0) := by
            intro e2 q2 σ5 H5 F5 L5 I5 s5 n5
            have o5 := again (La := []) (L6 := L5) I5.gh s5 n5 (.pf (rp.mono s5)) (by simpa using I5.nd) (fun b z => nomatch z) (fun b hb => (I5.fr b hb).2)
            exact ⟨_, _, e2, F5, L5, _, by simp [hl], I5.less g1 rgG, o5, PostS.later s5 (n5.less g1) q2⟩
          cases em : mb ((DX.forget dead env).set j (.v .fz x0)) with
          | next e2 => rw [em] at q; exact nxt e2 q
          | cnt e2 => rw [em] at q; exact nxt e2 q
          | ret v e2 =>
            rw [em] at q
            dsimp only at q
            cases eu : un e2 with
            | none => rw [eu] at q; exact q.elim
            | some e3 =>
              rw [eu] at q
              exact fun v5 σ5 H5 F5 L5 Lr5 I5 s5 n5 r5 nd5 fr5 => q v5 σ5 H5 F5 L5 Lr5 (hcv eu (I5.less g1 rgG)) s5 (n5.less g1) r5 nd5 fun b hb => ⟨(fr5 b hb).1, g1.free (fr5 b hb).2⟩
          | brk e2 => rw [em] at q; exact q.elim
          | raise c e2 => rw [em] at q; exact q.elim
          | err => rw [em] at q; exact q.elim
        | @po _ d _ ro =>
          dsimp only at q
          obtain ⟨L3, I3⟩ := I1.drop j
          have dj3 : ∀ b ∈ L3, b ∉ a :: Ls.flatten := fun b hb z => by
            have := (I3.fr b hb).2
            rw [addG_in z] at this
            obtain ⟨u, hu, _⟩ := o.there b z
            rw [hu] at this; cases this
          have I3 := I3.less g2 (rgG.trans g1)
          obtain ⟨L4, er4, p4⟩ := I3.er.unIO ro (j := j) (List.getElem?_set_self hi)
          rw [List.set_set] at er4
          have I4 := I3.envTo er4 (p4.nodup_iff.2 (List.nodup_append.2 ⟨ndA'.1, I3.nd, fun b hb c hc z => dj3 c hc (z ▸ inLi b hb)⟩)) fun b hb => by
            rcases List.mem_append.1 (p4.mem_iff.1 hb) with z | z
            · exact ⟨(o.fr b (inLi b z)).1, by rw [addG_out fun w => ndA'.2.2 b z b w rfl]; exact (o.fr b (inLi b z)).2⟩
            · exact I3.fr b z
          refine hg x σ H' _ (hb (pinP P' j x) _ H' F1 _ _ L4 _ I4 ?_)
          have off : ∀ {σ5 : St} {H5 F5 : Hp} {e2 : DEnv} {L5 : List Addr} {d2 : D}, FI X.K R (pinP P' j x) (addG G H' (a :: (Ls.set i []).flatten)) H5 F5 σ5 e2 L5 → e2[j]? = some (.v .io d2) →
              ∃ La L6, RepO X.K H5 F5 x d2 La ∧ L5.Perm (La ++ L6) ∧ FI X.K R P' (addG G H' (a :: (Ls.set i []).flatten)) H5 F5 σ5 (e2.set j .un) L6 := by
            intro σ5 H5 F5 e2 L5 d2 I5 e5
            obtain ⟨La, L6, _, r5, p5, er5⟩ := I5.er.offIO e5
            have n5 := List.nodup_append.1 (p5.nodup_iff.1 I5.nd)
            exact ⟨La, L6, r5, p5, I5.envTo er5 n5.2.1 fun b hb => I5.fr b (p5.mem_iff.2 (List.mem_append_right _ hb))⟩
          have nxt : ∀ e2 : DEnv, PostS X W R P G F1 (match e2[j]? with | some (.v .io d2) => forO j dead mb fin un (dn ++ [.ow d2]) td (e2.set j .un) | _ => .err) D0 → NOk X R (pinP P' j x) (addG G H' (a :: (Ls.set i []).flatten)) F1 e2 (fun σ' H' => ∃ dn td env F1 L Ls, dn.length = i + 1 ∧ FI X.K R P' G H' F1 σ' env L ∧ OL X.K G H' F1 a vs (dn ++ td) Ls L ∧ PostS X W R P G F1 (forO j dead mb fin un dn td env) D0) := by
            intro e2 q2 σ5 H5 F5 L5 I5 s5 n5
            cases e5 : e2[j]? with
            | none => rw [e5] at q2; exact q2.elim
            | some s5' =>
              rw [e5] at q2
              cases s5' with
              | un => exact q2.elim
              | pin => exact q2.elim
              | v m d2 =>
                cases m with
                | io =>
                  obtain ⟨La, L6, r5, p5, I6⟩ := off I5 e5
                  have o5 := again (La := La) (L6 := L6) I5.gh s5 n5 (.po r5) (p5.nodup_iff.1 I5.nd) (fun b hb => I5.fr b (p5.mem_iff.2 (List.mem_append_left _ hb))) (fun b hb => (I6.fr b hb).2)
                  exact ⟨_, _, _, F5, L6, _, by simp [hl], I6.less g1 rgG, o5, PostS.later s5 (n5.less g1) q2⟩
                | _ => exact q2.elim
          cases em : mb ((DX.forget dead env).set j (.v .io d)) with
          | next e2 => rw [em] at q; exact nxt e2 q
          | cnt e2 => rw [em] at q; exact nxt e2 q
          | ret v e2 =>
            rw [em] at q
            dsimp only at q
            cases e5 : e2[j]? with
            | none => rw [e5] at q; exact q.elim
            | some s5' =>
              rw [e5] at q
              cases s5' with
              | un => exact q.elim
              | pin => exact q.elim
              | v m d2 =>
                cases m with
                | io =>
                  dsimp only at q
                  cases eu : un (e2.set j .un) with
                  | none => rw [eu] at q; exact q.elim
                  | some e3 =>
                    rw [eu] at q
                    intro v5 σ5 H5 F5 L5 Lr5 I5 s5 n5 r5 nd5 fr5
                    obtain ⟨La, L6, _, p5, I6⟩ := off I5 e5
                    have nq := List.nodup_append.1 nd5
                    exact q v5 σ5 H5 F5 L6 Lr5 (hcv eu (I6.less g1 rgG)) s5 (n5.less g1) r5 (List.nodup_append.2 ⟨nq.1, I6.nd, fun b hb c hc z => nq.2.2 b hb c (p5.mem_iff.2 (List.mem_append_right _ hc)) z⟩) fun b hb => ⟨(fr5 b hb).1, g1.free (fr5 b hb).2⟩
                | _ => exact q.elim
          | brk e2 => rw [em] at q; exact q.elim
          | raise c e2 => rw [em] at q; exact q.elim
          | err => rw [em] at q; exact q.elim
      · exact q.elim
/-- a list display whose items are handed over -/
def dLstO (ms : List (DEnv → ER)) : DEnv → ER := fun env => (mArgs ms env).bind fun rvs e1 => match partVs rvs e1 with
  | some (xs, e2) => if xs.length ≤ sizeLine then .ok (.tmp (.dl xs)) e2 else .err
  | none => .err
theorem parts_in {K : PySem.W.Frag} {vs : List V} {xs : List D} {Ls : List (List Addr)} (ps : Parts K H F vs xs Ls) {p : Addr} (np : H p = none) : ∀ b ∈ Ls.flatten, b ≠ p := fun b hb z => by
  subst z
  obtain ⟨Li, h1, h2⟩ := List.mem_flatten.1 hb
  obtain ⟨i, hi⟩ := List.getElem?_of_mem h1
  have l1 := (List.getElem?_eq_some_iff.1 hi).1
  have l2 : i < vs.length := by rw [← ps.2.1]; exact l1
  have l3 : i < xs.length := by rw [← ps.1]; exact l2
  obtain ⟨u, hu, _⟩ := (ps.2.2 i _ _ Li (List.getElem?_eq_getElem l2) (List.getElem?_eq_getElem l3) hi).there b h2
  rw [np] at hu; cases hu
theorem me_lstO {P : List (Option V)} {es : List Expr} {ms : List (DEnv → ER)} (hm : MEs X W R P es ms) (hp : PA X es (tWa X es)) : ME X W R P (.List es pos) (dLstO ms) := by
  intro G H F σ env L Q I h
  refine w_of (pe_lst hp) ?_
  refine run_args hm I ?_
  unfold dLstO at h
  cases e : mArgs ms env with
  | err => rw [e] at h; exact h
  | raise c env' => rw [e] at h; exact h
  | ok rvs env' =>
    rw [e] at h
    intro vs H' F' L' Lr I' s n hs nd fr
    dsimp only [AR.bind] at h
    cases e2 : partVs rvs env' with
    | none => rw [e2] at h; exact h.elim
    | some p =>
      obtain ⟨xs, env2⟩ := p
      rw [e2] at h
      dsimp only at h
      split at h
      · rename_i hl
        obtain ⟨L2, Ls, I2, ps, nds, frs, _⟩ := partVs_ok I' hs nd fr e2
        refine ⟨by rw [ps.1]; exact hl, fun p np => ?_⟩
        have fp := I2.fh.free np
        have hh : Same H' (upd H' p (.lst vs)) := same_upd np
        have inH := parts_in ps np
        have I3 := I2.ext hh (Same.refl F') (I2.fh.trans hh) NewF.refl
        refine h (.ref p) _ F' L2 (p :: Ls.flatten) I3 s n (RepX.dl upd_same ps.1 ps.2.1 fun i v x Li a b c => (ps.2.2 i v x Li a b c).keep (fun z hz => upd_ne (inH z (mem_at c hz))) (Same.refl F')) ?_ fun a ha => ?_
        · rw [List.cons_append, List.nodup_cons]
          refine ⟨fun z => ?_, nds⟩
          rcases List.mem_append.1 z with z | z
          · exact inH p z rfl
          · obtain ⟨u, hu, _⟩ := I2.er.sub p z
            rw [np] at hu; cases hu
        · rcases List.mem_cons.1 ha with rfl | ha
          · exact ⟨fp, I2.gh.free np⟩
          · exact frs a ha
      · exact h.elim
/-- for x in a list with owned items: a new one, or one's own that stays in its slot -/
def finS (i : Nat) : List D → DEnv → FR := fun dn e => match e[i]? with
  | some .pin => .next (e.set i (.v .ow (.dl dn)))
  | _ => .err
def unS (i : Nat) : DEnv → Option DEnv := fun e => match e[i]? with
  | some .pin => some (e.set i .un)
  | _ => none
def dForO (m : DEnv → ER) (j : Nat) (dead : List Nat) (body : DEnv → FR) : DEnv → FR := fun env => (m env).thn fun rv e1 => match rv with
  | .tmp (.dl xs) => forO j dead body (fun _ e => .next e) some [] xs e1
  | .br i => match e1[i]? with
    | some (.v .ow (.dl xs)) => forO j dead body (finS i) (unS i) [] xs (e1.set i .pin)
    | _ => .err
  | _ => .err
theorem ms_forO {P : List (Option V)} {iter tg : Expr} {body : List Stmt} {m : DEnv → ER} {j : Nat} {dead : List Nat} {mb : DEnv → FR} (hp : PassesOwn (model X.prog X.w) X.A X.env X.xe) (hc : X.calm = true) (hi : ME X W R P iter m) (hg : MN X tg j) (hb : ∀ P, MSs X W R P body mb)
    (hs : ∀ x, foldedSetIterable iter X.env x = pure x := by intro _; rfl) : MS X W R P (.For tg iter body [] pos) (dForO m j dead mb) := by
  intro G H F σ env L D I q
  refine ws_of (ps_for hp hc (pi_list pe_w) pg_w pss_w hs) ?_
  refine me_thn hi I q fun rv env' v H' F' L' Lr I' s n r nd fr q' => ?_
  cases rv with
  | fz d => exact q'.elim
  | tmp d =>
    cases r with
    | @dl a vs xs Ls ha hk hl hi =>
      have o : OL X.K G H' F' a vs xs Ls L' := ⟨⟨hk, hl, hi⟩, ha, nd, fr⟩
      exact ⟨a, rfl, ⟨vs, .inl (.inl ha)⟩, forO_go (P' := P) (fin := fun _ e => .next e) (un := some) hg hb (fun {e e'} {_ _ _ _ _} h I => by cases h; exact I) (fun dn e H F σ L Ls I _ q => NOk.now I q) I' o q'⟩
    | _ => exact q'.elim
  | br i =>
    dsimp only at q'
    split at q'
    · rename_i xs ei
      obtain ⟨u, La, L2, e1, ro, p, I2⟩ := I'.take (.inl rfl) ei
      have ev : v = u := by have := r.2; rw [e1] at this; simpa using this.symm
      subst ev
      have ndp := p.nodup_iff.1 I'.nd
      have hlt := getElem?_lt ei
      cases ro with
      | @dl a vs xs Ls ha hk hl hi =>
        have o : OL X.K G H' F' a vs xs Ls L2 := ⟨⟨hk, hl, hi⟩, ha, ndp, fun b hb => I'.fr b (p.mem_iff.2 (List.mem_append_left _ hb))⟩
        have er := I2.er.unPin (x := V.ref a) (j := i) (List.getElem?_set_self hlt) e1
        rw [List.set_set] at er
        refine ⟨a, rfl, ⟨vs, .inl (.inl ha)⟩, forO_go (P' := pinP P i (.ref a)) (fin := finS i) (un := unS i) hg hb (fun {e e'} {_ _ _ _ _} h I => ?_) (fun dn e H F σ L Ls I o q => ?_) (I2.envTo er I2.nd I2.fr) o q'⟩
        · unfold unS at h
          split at h
          · rename_i ep
            cases h
            exact I.envTo (I.er.offPin ep).2 I.nd I.fr
          · cases h
        · unfold finS at q
          split at q
          · rename_i ep
            obtain ⟨es, er⟩ := I.er.offPin ep
            obtain ⟨L5, er5, p5⟩ := er.fill (i := i) (m := .ow) (.inl rfl) (List.getElem?_set_self (getElem?_lt ep)) es (RepX.dl o.ha o.ps.1 o.ps.2.1 o.ps.2.2)
            rw [List.set_set] at er5
            exact NOk.now (I.envTo er5 (p5.nodup_iff.2 o.nd) fun b hb => (List.mem_append.1 (p5.mem_iff.1 hb)).elim (o.fr b) (I.fr b)) q
          · exact q.elim
    · exact q'.elim
end
end DX

/-! What is one's own, all the way down: looked at, longer, turned round. -/
namespace DX
open PySem PySem.Spec L2
open PyProof.Rows hiding St

/-! ### a deep look -/
def plainL (f : D → Option D) : List D → Option (List D)
  | [] => some []
  | x :: xs => (f x).bind fun y => (plainL f xs).map (y :: ·)
def plainN : Nat → D → Option D
  | n + 1, .dt xs => (plainL (plainN n) xs).map .tup
  | n + 1, .dl xs => (plainL (plainN n) xs).map .lst
  | n + 1, .ow d => plainN n d
  | _, d => frzD d
theorem plainL_get {f : D → Option D} : ∀ {xs ys : List D}, plainL f xs = some ys → xs.length = ys.length ∧ ∀ (i : Nat) (y : D), ys[i]? = some y → ∃ x, xs[i]? = some x ∧ f x = some y
  | [], ys, h => by cases h; exact ⟨rfl, fun i y e => by simp at e⟩
  | x :: xs, ys, h => by
    unfold plainL at h
    cases e1 : f x with
    | none => rw [e1] at h; cases h
    | some y =>
      rw [e1] at h
      simp only [Option.bind_some] at h
      cases e2 : plainL f xs with
      | none => rw [e2] at h; cases h
      | some zs =>
        rw [e2] at h
        cases h
        obtain ⟨l, g⟩ := plainL_get e2
        refine ⟨by simp [l], fun i y' e => ?_⟩
        cases i with
        | zero => simp at e; subst e; exact ⟨x, rfl, e1⟩
        | succ i => obtain ⟨x', h1, h2⟩ := g i y' (by simpa using e); exact ⟨x', by simpa using h1, h2⟩
theorem plain_frz {n : Nat} {d : D} (h : (match d with | .dt _ => false | .dl _ => false | .ow _ => false | _ => true) = true) : plainN n d = frzD d := by
  cases n <;> cases d <;> first | rfl | (cases h; done)
theorem rep_plain {K : PySem.W.Frag} {H F : Hp} (fh : Same F H) : ∀ (n : Nat) {b : Bool} {v : V} {d d' : D} {L : List Addr}, RepX K H F b v d L → plainN n d = some d' → Rep K H v d'
  | n, b, v, d, d', L, h, e => by
    cases h with
    | lst h hi => rw [plain_frz rfl] at e; cases e; exact .lst (.inl h) hi.1 fun i v x a b => (hi.2 i v x a b).mono fh
    | dK h hi => rw [plain_frz rfl] at e; cases e
    | dT h hi => rw [plain_frz rfl] at e; cases e
    | ob => rw [plain_frz rfl] at e; cases e
    | @dt a vs xs Ls h hk hl hi =>
      cases n with
      | zero => cases e
      | succ n =>
        unfold plainN at e
        cases e1 : plainL (plainN n) xs with
        | none => rw [e1] at e; cases e
        | some ys =>
          rw [e1] at e
          cases e
          obtain ⟨l, g⟩ := plainL_get e1
          refine .tup (.inl (.inl (fh _ _ h))) (.inl (fh _ _ h)) (hk.trans l) fun i v y a b => ?_
          obtain ⟨x, h1, h2⟩ := g i y b
          obtain ⟨Li, h3⟩ : ∃ Li, Ls[i]? = some Li := ⟨_, List.getElem?_eq_getElem (by rw [hl]; exact (List.getElem?_eq_some_iff.1 a).1)⟩
          exact rep_plain fh n (hi i v x Li a h1 h3) h2
    | @dl a vs xs Ls h hk hl hi =>
      cases n with
      | zero => cases e
      | succ n =>
        unfold plainN at e
        cases e1 : plainL (plainN n) xs with
        | none => rw [e1] at e; cases e
        | some ys =>
          rw [e1] at e
          cases e
          obtain ⟨l, g⟩ := plainL_get e1
          refine .lst (.inl h) (hk.trans l) fun i v y a b => ?_
          obtain ⟨x, h1, h2⟩ := g i y b
          obtain ⟨Li, h3⟩ : ∃ Li, Ls[i]? = some Li := ⟨_, List.getElem?_eq_getElem (by rw [hl]; exact (List.getElem?_eq_some_iff.1 a).1)⟩
          exact rep_plain fh n (hi i v x Li a h1 h3) h2
    | pf h =>
      have e' : frzD d = some d' := by
        cases h <;> (rw [plain_frz rfl] at e; exact e)
      have := frzD_eq e'
      subst this
      exact h.mono fh
    | po h =>
      cases n with
      | zero => cases e
      | succ n => exact rep_plain fh n h e
def rdP (env : DEnv) : Val → Option D
  | .fz d => some d
  | .tmp d => plainN 8 d
  | .br i => match env[i]? with
    | some (.v .fz d) => some d
    | some (.v .ow d) => plainN 8 d
    | some (.v .io d) => plainN 8 d
    | some (.v .rd d) => rdFl d
    | _ => none
def rdPs (env : DEnv) : List Val → Option (List D)
  | [] => some []
  | v :: vs => match rdP env v, rdPs env vs with
    | some d, some ds => some (d :: ds)
    | _, _ => none
def atomD : D → Bool
  | .bl _ => true | .int _ => true | .str _ => true | .non => true | _ => false
def dPrimP (g : List D → Option Val) (ms : List (DEnv → ER)) : DEnv → ER := fun env => (mArgs ms env).bind fun vs env' => match rdPs env' vs with
  | some ds => match g ds with
    | some (.fz d) => if atomD d = true then .ok (.fz d) env' else .err
    | _ => .err
  | none => .err
section
variable {X : Cx} {W : WX} {R : Hp} {P : List (Option V)} {pos : Pos} {G H F : Hp} {σ : St} {env : DEnv} {L : List Addr} {a b : Expr} {ma mb : DEnv → ER} {g : List D → Option Val}
theorem rdP_ok (I : FI X.K R P G H F σ env L) {v : V} {rv : Val} {Lr : List Addr} {d : D} (r : RepVal X.K H F σ v rv Lr) (e : rdP env rv = some d) : RepH X.K H H v d := by
  cases rv with
  | fz d' => cases e; exact (r.2.toH I.fh).mono (Same.refl H) I.fh
  | tmp d' => exact (rep_plain I.fh 8 r e).toH (Same.refl H)
  | br i =>
    dsimp only [rdP] at e
    cases ei : env[i]? with
    | none => rw [ei] at e; cases e
    | some s =>
      rw [ei] at e
      cases s with
      | un => cases e
      | pin => cases e
      | v m d' =>
        cases m with
        | fz =>
          cases e
          obtain ⟨u, e1, r1⟩ := I.er.getFz ei
          rw [r.2] at e1; cases e1
          exact (r1.toH I.fh).mono (Same.refl H) I.fh
        | ow =>
          obtain ⟨u, La, L', e1, ro, _⟩ := I.take (.inl rfl) ei
          rw [r.2] at e1; cases e1
          exact (rep_plain I.fh 8 ro e).toH (Same.refl H)
        | io =>
          obtain ⟨u, La, L', e1, ro, _⟩ := I.take (.inr rfl) ei
          rw [r.2] at e1; cases e1
          exact (rep_plain I.fh 8 ro e).toH (Same.refl H)
        | rd =>
          obtain ⟨u, e1, r1⟩ := I.er.get (I.rg.trans I.gh) I.fh ei
          rw [r.2] at e1; cases e1
          exact (r1 _ e).mono (Same.refl H) I.fh
theorem rdPs_ok (I : FI X.K R P G H F σ env L) : ∀ {vs : List V} {rvs : List Val} {Lr : List Addr} {ds : List D}, HeldR X.K H F σ vs rvs Lr → rdPs env rvs = some ds → RepHs X.K H H vs ds
  | _, _, _, _, .nil, e => by cases e; exact .nil
  | _, _, _, ds, .cons (v := v) (rv := rv) (vs := vs) (rvs := rvs) h t, e => by
    unfold rdPs at e
    cases e1 : rdP env rv with
    | none => rw [e1] at e; cases e
    | some d =>
      rw [e1] at e
      cases e2 : rdPs env rvs with
      | none => rw [e2] at e; cases e
      | some ds2 => rw [e2] at e; cases e; exact .cons (rdP_ok I h e1) (rdPs_ok I t e2)
theorem gives_atom {d : D} {Q : VK} (fh : Same F H) (hd : atomD d = true) (h : GivesV X.K H F σ (.fz d) Q) : GivesV X.K H H σ (.fz d) Q := by
  intro v H' F' Lr hh ff fh' nw r nd fr
  have rep : Rep X.K F v d := by
    obtain ⟨_, r⟩ := r
    cases d <;> first | (cases hd; done) | (cases r; constructor)
  exact h v H' F [] hh (Same.refl F) (fh.trans hh) NewF.refl ⟨rfl, rep⟩ List.nodup_nil fun _ z => nomatch z
theorem run_primP {es : List Expr} {ms : List (DEnv → ER)} {Q : VK} (hm : MEs X W R P es ms) (I : FI X.K R P G H F σ env L) (h : PostV X W R P G F σ (dPrimP g ms env) Q) :
    tWa X es σ H (fun vs H' => ∃ ds d, RepHs X.K H' H' vs ds ∧ g ds = some (.fz d) ∧ GivesV X.K H' H' σ (.fz d) Q) := by
  refine run_args hm I ?_
  unfold dPrimP at h
  cases e : mArgs ms env with
  | err => rw [e] at h; exact h
  | raise c env' => rw [e] at h; exact h
  | ok rvs env' =>
    rw [e] at h
    intro vs H' F' L' Lr I' s n hs nd fr
    dsimp only [AR.bind] at h
    cases e2 : rdPs env' rvs with
    | none => rw [e2] at h; exact h.elim
    | some ds =>
      rw [e2] at h
      dsimp only at h
      split at h
      · rename_i d eg
        split at h
        · rename_i hd
          exact ⟨ds, d, rdPs_ok I' hs e2, eg, gives_atom I'.fh hd (gives_of I' (PostV.later (r := .ok (.fz d) env') s n h))⟩
        · exact h.elim
      · exact h.elim
theorem twoP {Q : VK} (ha : ME X W R P a ma) (hb : ME X W R P b mb) (I : FI X.K R P G H F σ env L) (h : PostV X W R P G F σ (dPrimP g [ma, mb] env) Q) : tOp (r2G X.K g) (tW X a) (tW X b) σ H Q := by
  have z := run_primP (.cons ha (.cons hb .nil)) I h
  exact tW_mono (Q := fun x H1 => tW X b σ H1 fun y H2 => _) z fun x H1 h1 => tW_mono h1 fun y H2 ⟨ds, d, p, q, r⟩ => ⟨σ, H2, ds, .fz d, Same.refl H2, p, q, r⟩
theorem me_cmpP {op : CmpOp} (ho : OpR X (compareOp op) (r2G X.K g)) (ha : ME X W R P a ma) (hb : ME X W R P b mb) (hm : behindInMarks op b = false := by first | rfl | exact nomark _) : ME X W R P (.Compare a [op] [b] pos) (dPrimP g [ma, mb]) :=
  fun G H F σ env L Q I h => w_of (pe_cmpR ho pe_w pe_w hm) (twoP ha hb I h)
theorem mt_cmpP {op : CmpOp} (ho : OpR X (compareOp op) (r2G X.K g)) (ha : ME X W R P a ma) (hb : ME X W R P b mb) (hm : behindInMarks op b = false := by first | rfl | exact nomark _) : MT X W R P (.Compare a [op] [b] pos) (dTst (dPrimP g [ma, mb])) := by
  intro G H F σ env L Q I q
  exact wt_of (pt_cmpR ho pe_w pe_w hm) (twoP ha hb I (tst_post q))
theorem me_isiP {e : Expr} {m : DEnv → ER} {p p2 : Pos} {t : Str} (T : Ty) (ht : t = (T.nm : Str)) (hi : X.mg "isinstance" = none) (hmT : X.mg t = none) (h : ME X W R P e m) (hg : Gl X "isinstance" := by rfl) (hgT : Gl X t := by rfl) (hb : bootBuiltins t = some (.type T.nm) := by decide +kernel)
    (hn : t ≠ "__name__" := by decide) (hd : (t == ("__debug__" : Str)) = false := by decide) (hs1 : starEach [e, .Name t p2] X.env = (false, eval e X.env) :: starEach [.Name t p2] X.env := by rfl) (hs2 : starEach [Expr.Name t p2] X.env = (false, eval (.Name t p2) X.env) :: starEach [] X.env := by rfl)
    (hpl : (backTo pos (starEach [.Name t p2] X.env)).any (·.1) = false := by rfl) : ME X W R P (.Call (.Name "isinstance" p) [e, .Name t p2] [] pos) (dPrimP (gIsi T) [m]) := by
  intro G H F σ env L Q I q
  refine w_of (pe_callB call_isi hg hi PyProof.Rows.boot_isinstance (pa_cons pe_w (pa_cons (pe_bltn (v := .ty T.nm) hgT hmT hb rfl hn hd) pa_nil hs2) hs1) (by decide) (by decide) hs1 hpl) ?_
  refine tW_mono (Q := fun x H1 => ∃ ds d, _) (run_primP (.cons h .nil) I q) fun x H1 ⟨ds, d, hh, e, k⟩ => ?_
  obtain ⟨d0, rfl, hx⟩ := rd1 hh
  unfold gIsi at e
  dsimp only at e
  split at e
  · rename_i n et
    cases e
    exact ⟨x, .ty T.nm, .type n, .type T.nm, isiD T d0, rfl, .ty _, tyD_x hx et, kit_ty (isi_kit T et), k.atom (X := X) (Same.refl H1) (.bl _)⟩
  · cases e
/-! an item of a tuple with owned parts, looked at -/
def vIxO (i : Nat) (k : Int) : DEnv → Option D := fun env => match env[i]? with
  | some (.v .ow (.dt xs)) => (atI xs k).bind partFl
  | some (.v .io (.dt xs)) => (atI xs k).bind partFl
  | _ => none
theorem mev_ixO {i : Nat} {x : Str} {k : Int} {j : Nat} {xp p : Pos} (hN : X.N[i]? = some x := by rfl) (hv : Vis X.env.scope x := by first | exact Or.inl rfl | exact Or.inr (Or.inl rfl) | exact Or.inr (Or.inr rfl))
    (hd : (x == ("__debug__" : Str)) = false := by decide) (hcd : (x == ("__classdict__" : Str)) = false := by decide) (hs : PlainIx (.Constant (.int k) j p) := by exact fun _ _ => rfl) : MEV X R P (.Subscript (.Name x xp) (.Constant (.int k) j p) pos) (vIxO i k) := by
  intro G H F σ env L d Q I ev q
  have core : ∀ {m : Mode} {xs : List D}, (m = .ow ∨ m = .io) → env[i]? = some (.v m (.dt xs)) → (atI xs k).bind partFl = some d → tW X (.Subscript (.Name x xp) (.Constant (.int k) j p) pos) σ H Q := by
    intro m xs hm ei ev
    obtain ⟨u, La, L', e1, ro, _⟩ := I.take hm ei
    cases ro with
    | @dt a vs _ Ls ha hk hl hi =>
      refine w_of (pe_ix ix_seq pe_w pe_w hs) ?_
      refine w_of (pe_var hN hv hd hcd) ⟨_, e1, w_of pe_int ?_⟩
      unfold atI at ev
      cases en : ixN xs.length k with
      | none => rw [en] at ev; cases ev
      | some n =>
        rw [en] at ev
        simp only [Option.bind_some] at ev
        have hn := ixN_lt en
        rw [List.getElem?_eq_getElem hn] at ev
        simp only [Option.bind_some] at ev
        have hnv : n < vs.length := by rw [hk]; exact hn
        have hnL : n < Ls.length := by rw [hl]; exact hnv
        have r := hi n _ _ _ (List.getElem?_eq_getElem hnv) (List.getElem?_eq_getElem hn) (List.getElem?_eq_getElem hnL)
        refine .inr (.inl ⟨a, vs, k, vs[n], rfl, rfl, .inl (.inl (I.fh _ _ ha)), ?_, q _ (part_read I.fh r ev)⟩)
        unfold atI
        rw [hk, en]
        exact List.getElem?_eq_getElem hnv
  unfold vIxO at ev
  split at ev
  · rename_i xs ei; exact core (.inl rfl) ei ev
  · rename_i xs ei; exact core (.inr rfl) ei ev
  · cases ev
theorem me_isiV {e : Expr} {m : DEnv → Option D} {p p2 : Pos} {t : Str} (T : Ty) (ht : t = (T.nm : Str)) (hi : X.mg "isinstance" = none) (hmT : X.mg t = none) (h : MEV X R P e m) (hg : Gl X "isinstance" := by rfl) (hgT : Gl X t := by rfl) (hb : bootBuiltins t = some (.type T.nm) := by decide +kernel)
    (hn : t ≠ "__name__" := by decide) (hd : (t == ("__debug__" : Str)) = false := by decide) (hs1 : starEach [e, .Name t p2] X.env = (false, eval e X.env) :: starEach [.Name t p2] X.env := by rfl) (hs2 : starEach [Expr.Name t p2] X.env = (false, eval (.Name t p2) X.env) :: starEach [] X.env := by rfl)
    (hpl : (backTo pos (starEach [.Name t p2] X.env)).any (·.1) = false := by rfl) : ME X W R P (.Call (.Name "isinstance" p) [e, .Name t p2] [] pos) (dPrimX (gIsi T) [] [m]) := by
  intro G H F σ env L Q I q
  refine w_of (pe_callB call_isi hg hi PyProof.Rows.boot_isinstance (pa_cons pe_w (pa_cons (pe_bltn (v := .ty T.nm) hgT hmT hb rfl hn hd) pa_nil hs2) hs1) (by decide) (by decide) hs1 hpl) ?_
  refine tW_mono (Q := fun x H1 => ∃ F' ds rv, _) (run_primX (es := []) .nil (.cons h .nil) I q) fun x H1 ⟨F', ds, rv, fh, hh, e, k⟩ => ?_
  obtain ⟨d, rfl, hx⟩ := rd1 hh
  unfold gIsi at e
  dsimp only at e
  split at e
  · rename_i n et
    cases e
    exact ⟨x, .ty T.nm, .type n, .type T.nm, isiD T d, rfl, .ty _, tyD_x hx et, kit_ty (isi_kit T et), k.atom (X := X) fh (.bl _)⟩
  · cases e
/-! ### longer by one of its own -/
theorem FI.updOut {p : Addr} {o : HO} (I : FI X.K R P G H F σ env L) (hp : p ∉ L) (hF : F p = none) (hG : G p = none) : FI X.K R P G (upd H p o) F σ env L := by
  have k : ∀ {A : Hp}, Same A H → A p = none → Same A (upd H p o) := fun s n b u e => by rw [upd_ne (ne_of_none e n)]; exact s _ _ e
  exact ⟨k I.fh hF, k I.gh hG, I.rg, I.er.keep (Same.refl F) fun a ha => upd_ne fun z => hp (z ▸ ha), I.nd, I.fr⟩
def dAppO (i : Nat) (m : DEnv → ER) : DEnv → ER := fun env => match env[i]? with
  | some (.v _ (.dl _)) => (m env).bind fun rv e1 => match partV rv e1 with
    | some (x, e2) => match e2[i]? with
      | some (.v .ow (.dl xs)) => if xs.length < sizeLine then .ok (.fz .non) (e2.set i (.v .ow (.dl (xs ++ [x])))) else .err
      | _ => .err
    | none => .err
  | _ => .err
theorem parts_app {K : PySem.W.Frag} {H F : Hp} {vs : List V} {xs : List D} {Ls : List (List Addr)} {v : V} {x : D} {Lp : List Addr} (ps : Parts K H F vs xs Ls) (r : RepX K H F true v x Lp) : Parts K H F (vs ++ [v]) (xs ++ [x]) (Ls ++ [Lp]) := by
  refine ⟨by simp [ps.1], by simp [ps.2.1], fun i w y Li a b c => ?_⟩
  by_cases hi : i < vs.length
  · rw [List.getElem?_append_left hi] at a
    rw [List.getElem?_append_left (by rw [← ps.1]; exact hi)] at b
    rw [List.getElem?_append_left (by rw [ps.2.1]; exact hi)] at c
    exact ps.2.2 i w y Li a b c
  · have hi' : i = vs.length := by
      have := (List.getElem?_eq_some_iff.1 a).1
      simp at this; omega
    subst hi'
    rw [List.getElem?_append_right (Nat.le_refl _)] at a
    rw [List.getElem?_append_right (by rw [ps.1]; exact Nat.le_refl _), ps.1] at b
    rw [List.getElem?_append_right (by rw [ps.2.1]; exact Nat.le_refl _), ps.2.1] at c
    simp at a b c
    subst a; subst b; subst c
    exact r
theorem Parts.keep {K : PySem.W.Frag} {H H' F F' : Hp} {vs : List V} {xs : List D} {Ls : List (List Addr)} (ps : Parts K H F vs xs Ls) (hh : ∀ b ∈ Ls.flatten, H' b = H b) (ff : Same F F') : Parts K H' F' vs xs Ls :=
  ⟨ps.1, ps.2.1, fun i v x Li a b c => (ps.2.2 i v x Li a b c).keep (fun z hz => hh z (mem_at c hz)) ff⟩
theorem me_appO {i : Nat} {x : Str} {e : Expr} {m : DEnv → ER} {xp apos cpos : Pos} (he : ME X W R P e m) (ha : PA X [e] (tWa X [e]) := by exact pa_cons pe_w pa_nil) (hN : X.N[i]? = some x := by rfl) (hv : Vis X.env.scope x := by first | exact Or.inl rfl | exact Or.inr (Or.inl rfl) | exact Or.inr (Or.inr rfl))
    (hd : (x == ("__debug__" : Str)) = false := by decide) (hcd : (x == ("__classdict__" : Str)) = false := by decide)
    (hbase : attributeBase (.Name x xp) "append" X.env (eval (.Name x xp) X.env) = eval (.Name x xp) X.env := by rfl)
    (hfew : ((backTo cpos (starEach [e] X.env)).all (fun x => !x.1) && (backToKw cpos (keywordEach [] X.env)).all (fun x => x.1.isSome)
      && decide ([e].length + ([] : List Keyword).length + (if ([] : List Keyword).isEmpty then 0 else 1) < 30)) = true := by rfl)
    (hline : (apos.endLine == cpos.line) = true := by rfl) (hst : starEach [e] X.env = (false, eval e X.env) :: starEach [] X.env := by rfl) (hplain : (backTo cpos (starEach [] X.env)).any (·.1) = false := by rfl) :
    ME X W R P (.Call (.Attribute (.Name x xp) "append" apos) [e] [] cpos) (dAppO i m) := by
  intro G H F σ env L Q I q
  refine w_of (pe_bm PySem.F.plainAttrs_list PySem.F.slot_list_append PySem.F.type_list_append mt_append (pe_var hN hv hd hcd) ha hbase hfew hline hst hplain) ?_
  unfold dAppO at q
  split at q
  · rename_i mo xs0 e0
    have ty : ∃ u, σ[i]? = some (some u) ∧ tyV X.K "list" u H := by
      cases mo with
      | fz => obtain ⟨u, e1, r⟩ := I.er.getFz e0; cases r
      | rd =>
        obtain ⟨v, e1, _⟩ := slot_read I e0
        have rr := rd_slot I.er e0 e1
        rcases rr with r | ⟨L2, r⟩
        · cases r
        · cases r with
          | dl h hk hl hi => exact ⟨_, e1, .inl ⟨rfl, _, .inl (.inl (I.rg.trans I.gh _ _ h))⟩⟩
      | ow => obtain ⟨u, La, L', e1, ro, _⟩ := I.take (.inl rfl) e0; cases ro with | dl h => exact ⟨_, e1, .inl ⟨rfl, _, .inl (.inl h)⟩⟩
      | io => obtain ⟨u, La, L', e1, ro, _⟩ := I.take (.inr rfl) e0; cases ro with | dl h => exact ⟨_, e1, .inl ⟨rfl, _, .inl (.inl h)⟩⟩
    obtain ⟨u, e1, ty⟩ := ty
    refine ⟨u, e1, ty, ?_⟩
    show tW X e σ H fun v H1 => _
    refine me_run he I ?_
    cases em : m env with
    | err => rw [em] at q; exact q
    | raise c env' => rw [em] at q; exact q
    | ok rv env1 =>
      rw [em] at q
      intro v H' F' L' Lr I' s n r nd fr
      dsimp only [ER.bind] at q
      cases ep : partV rv env1 with
      | none => rw [ep] at q; exact q.elim
      | some p =>
        obtain ⟨x0, env2⟩ := p
        rw [ep] at q
        dsimp only at q
        obtain ⟨L2, Lp, I2, rp, ndp, frp, _⟩ := partV_ok2 I' r nd fr ep
        split at q
        · rename_i xs e2
          split at q
          · rename_i hlt
            obtain ⟨w, La, L3, e3, ro, pm, I3⟩ := I2.take (.inl rfl) e2
            rw [e1] at e3; cases e3
            cases ro with
            | @dl a vs _ Ls h hk hl hi =>
              have nd2 := List.nodup_append.1 ndp
              have ndq := pm.nodup_iff.1 I2.nd
              have ndq' := List.nodup_append.1 ndq
              have inL : ∀ b ∈ a :: Ls.flatten, b ∈ L2 := fun b hb => pm.mem_iff.2 (List.mem_append_left _ hb)
              have aLs : a ∉ Ls.flatten := (List.nodup_cons.1 ndq'.1).1
              have aLp : a ∉ Lp := fun z => nd2.2.2 a z a (inL a List.mem_cons_self) rfl
              have aL3 : a ∉ L3 := fun z => ndq'.2.2 a List.mem_cons_self a z rfl
              have fa := I2.fr a (inL a List.mem_cons_self)
              refine ⟨a, vs, v, rfl, rfl, h, by rw [hk]; exact hlt, ?_⟩
              have I4 := I3.updOut (o := .lst (vs ++ [v])) aL3 fa.1 fa.2
              have ps : Parts X.K (upd H' a (.lst (vs ++ [v]))) F' (vs ++ [v]) (xs ++ [x0]) (Ls ++ [Lp]) :=
                parts_app (Parts.keep ⟨hk, hl, hi⟩ (fun b hb => upd_ne fun z => aLs (z ▸ hb)) (Same.refl F')) (rp.keep (fun b hb => upd_ne fun z => aLp (z ▸ hb)) (Same.refl F'))
              obtain ⟨L5, er5, p5⟩ := I4.er.fill (i := i) (m := .ow) (.inl rfl) (List.getElem?_set_self (getElem?_lt e2)) e1 (RepX.dl upd_same ps.1 ps.2.1 ps.2.2)
              rw [List.set_set] at er5
              have big : ((a :: (Ls ++ [Lp]).flatten) ++ L3).Nodup := by
                have e : ((a :: (Ls ++ [Lp]).flatten) ++ L3).Perm (Lp ++ ((a :: Ls.flatten) ++ L3)) := by
                  rw [List.flatten_append]
                  simp only [List.flatten_cons, List.flatten_nil, List.append_nil]
                  have : (a :: (Ls.flatten ++ Lp) ++ L3) = (a :: Ls.flatten) ++ (Lp ++ L3) := by simp
                  rw [this, ← List.append_assoc, ← List.append_assoc]
                  exact List.perm_append_comm.append_right L3
                refine e.nodup_iff.2 (List.nodup_append.2 ⟨nd2.1, ndq, fun b hb c hc z => nd2.2.2 b hb c (pm.mem_iff.2 hc) z⟩)
              have I5 := I4.envTo er5 (p5.nodup_iff.2 big) fun b hb => by
                rcases List.mem_append.1 (p5.mem_iff.1 hb) with z | z
                · rcases List.mem_cons.1 z with rfl | z
                  · exact fa
                  · rw [List.flatten_append] at z
                    rcases List.mem_append.1 z with z | z
                    · exact I2.fr b (inL b (List.mem_cons_of_mem _ z))
                    · exact frp b (by simpa using z)
                · exact I4.fr b z
              exact POk.now (PostV.later (r := .ok (.fz .non) _) s n q) I5 .non
          · exact q.elim
        · exact q.elim
  · exact q.elim
/-! an owned list within a tuple, longer -/
def dAppIx (i : Nat) (k : Nat) (m : DEnv → ER) : DEnv → ER := fun env => match env[i]? with
  | some (.v mo (.dt xs0)) => match xs0[k]? with
    | some (.ow (.lst _)) => if mo = .rd ∨ mo = .fz then .err else (m env).bind fun rv e1 => match frzV e1 rv with
      | some (d, e2) => match e2[i]? with
        | some (.v .ow (.dt xs)) => match xs[k]? with
          | some (.ow (.lst ys)) => if ys.length < sizeLine then .ok (.fz .non) (e2.set i (.v .ow (.dt (xs.set k (.ow (.lst (ys ++ [d]))))))) else .err
          | _ => .err
        | some (.v .io (.dt xs)) => match xs[k]? with
          | some (.ow (.lst ys)) => if ys.length < sizeLine then .ok (.fz .non) (e2.set i (.v .io (.dt (xs.set k (.ow (.lst (ys ++ [d]))))))) else .err
          | _ => .err
        | _ => .err
      | none => .err
    | _ => .err
  | _ => .err
theorem atI_nat {α : Type} (xs : List α) (n : Nat) : atI xs (n : Int) = xs[n]? := by
  unfold atI ixN
  rw [if_pos (Int.natCast_nonneg n)]
  by_cases h : n < xs.length
  · rw [if_pos (by omega)]; simp
  · rw [if_neg (by omega)]; simp [List.getElem?_eq_none (Nat.le_of_not_lt h)]
theorem own_list {K : PySem.W.Frag} {H F : Hp} {v : V} {ys : List D} {L : List Addr} (h : RepX K H F true v (.ow (.lst ys)) L) : ∃ b us, v = .ref b ∧ L = [b] ∧ H b = some (.lst us) ∧ Reps K F us ys := by
  cases h with
  | pf r => cases r
  | po r => cases r with
    | lst h hi => exact ⟨_, _, rfl, rfl, h, hi⟩
theorem me_appIx {i k : Nat} {kI : Int} {x : Str} {j : Nat} {e : Expr} {m : DEnv → ER} {xp kp sp apos cpos : Pos} (he : ME X W R P e m) (hkI : kI = (k : Int) := by rfl) (ha : PA X [e] (tWa X [e]) := by exact pa_cons pe_w pa_nil) (hN : X.N[i]? = some x := by rfl) (hv : Vis X.env.scope x := by first | exact Or.inl rfl | exact Or.inr (Or.inl rfl) | exact Or.inr (Or.inr rfl))
    (hd : (x == ("__debug__" : Str)) = false := by decide) (hcd : (x == ("__classdict__" : Str)) = false := by decide) (hs : PlainIx (.Constant (.int kI) j kp) := by exact fun _ _ => rfl)
    (hbase : attributeBase (.Subscript (.Name x xp) (.Constant (.int kI) j kp) sp) "append" X.env (eval (.Subscript (.Name x xp) (.Constant (.int kI) j kp) sp) X.env) = eval (.Subscript (.Name x xp) (.Constant (.int kI) j kp) sp) X.env := by rfl)
    (hfew : ((backTo cpos (starEach [e] X.env)).all (fun x => !x.1) && (backToKw cpos (keywordEach [] X.env)).all (fun x => x.1.isSome)
      && decide ([e].length + ([] : List Keyword).length + (if ([] : List Keyword).isEmpty then 0 else 1) < 30)) = true := by rfl)
    (hline : (apos.endLine == cpos.line) = true := by rfl) (hst : starEach [e] X.env = (false, eval e X.env) :: starEach [] X.env := by rfl) (hplain : (backTo cpos (starEach [] X.env)).any (·.1) = false := by rfl) :
    ME X W R P (.Call (.Attribute (.Subscript (.Name x xp) (.Constant (.int kI) j kp) sp) "append" apos) [e] [] cpos) (dAppIx i k m) := by
  subst hkI
  intro G H F σ env L Q I q
  refine w_of (pe_bm PySem.F.plainAttrs_list PySem.F.slot_list_append PySem.F.type_list_append mt_append pe_w ha hbase hfew hline hst hplain) ?_
  unfold dAppIx at q
  split at q
  · rename_i mo xs0 e0
    split at q
    · rename_i ys0 ek0
      split at q
      · exact q.elim
      · rename_i hmo
        have hm : mo = .ow ∨ mo = .io := by cases mo <;> first | exact .inl rfl | exact .inr rfl | exact absurd (.inl rfl) hmo | exact absurd (.inr rfl) hmo
        obtain ⟨u, La, L0, e1, ro, _⟩ := I.take hm e0
        cases ro with
        | @dt a vs _ Ls0 ha0 hk0 hl0 hi0 =>
          have hkx := (List.getElem?_eq_some_iff.1 ek0).1
          have hkv : k < vs.length := by rw [hk0]; exact hkx
          have hkL : k < Ls0.length := by rw [hl0]; exact hkv
          have r0 := hi0 k _ _ _ (List.getElem?_eq_getElem hkv) ek0 (List.getElem?_eq_getElem hkL)
          obtain ⟨b, eb, tyb⟩ : ∃ b, vs[k] = .ref b ∧ tyV X.K "list" (.ref b) H := by
            obtain ⟨b, us, h1, _, h3, _⟩ := own_list r0
            exact ⟨b, h1, .inl ⟨rfl, _, .inl (.inl h3)⟩⟩
          refine w_of (pe_ix ix_seq pe_w pe_w hs) ?_
          refine w_of (pe_var hN hv hd hcd) ⟨_, e1, w_of pe_int ?_⟩
          refine .inr (.inl ⟨a, vs, (k : Int), .ref b, rfl, rfl, .inl (.inl (I.fh _ _ ha0)), by rw [atI_nat, List.getElem?_eq_getElem hkv, eb], tyb, ?_⟩)
          show tW X e σ H fun v H1 => _
          refine me_run he I ?_
          cases em : m env with
          | err => rw [em] at q; exact q
          | raise c env' => rw [em] at q; exact q
          | ok rv env1 =>
            rw [em] at q
            intro v H' F' L' Lr I' s n r nd fr
            dsimp only [ER.bind] at q
            cases ep : frzV env1 rv with
            | none => rw [ep] at q; exact q.elim
            | some p =>
              obtain ⟨d, env2⟩ := p
              rw [ep] at q
              dsimp only at q
              obtain ⟨F2, L2, I2, ff, nf, rd, _⟩ := frzV_ok I' r nd fr ep
              have fin : ∀ {m2 : Mode} {xs : List D} {ys : List D}, (m2 = .ow ∨ m2 = .io) → env2[i]? = some (.v m2 (.dt xs)) → xs[k]? = some (.ow (.lst ys)) → ys.length < sizeLine →
                  POk X R P G F σ (.fz .non) (env2.set i (.v m2 (.dt (xs.set k (.ow (.lst (ys ++ [d]))))))) Q → rAppend (.ref b) [v] H' Q := by
                intro m2 xs ys hm2 e2 ek hlt q
                obtain ⟨w, Lb, L3, e3, ro2, pm, I3⟩ := I2.take hm2 e2
                rw [e1] at e3; cases e3
                cases ro2 with
                | @dt _ vs2 _ Ls ha2 hk2 hl2 hi2 =>
                  have ev : vs2 = vs := by
                    have := (s.trans ff) _ _ ha0
                    rw [ha2] at this
                    cases this; rfl
                  subst ev
                  have hkL2 : k < Ls.length := by rw [hl2]; exact hkv
                  have rk := hi2 k _ _ _ (List.getElem?_eq_getElem hkv) ek (List.getElem?_eq_getElem hkL2)
                  rw [eb] at rk
                  obtain ⟨us, hb, hu, eL⟩ : ∃ us, H' b = some (.lst us) ∧ Reps X.K F2 us ys ∧ Ls[k] = [b] := by
                    obtain ⟨b', us, h1, h2, h3, h4⟩ := own_list rk
                    cases h1
                    exact ⟨us, h3, h4, h2⟩
                  have ndq := pm.nodup_iff.1 I2.nd
                  have ndq' := List.nodup_append.1 ndq
                  have eLk : Ls[k]? = some [b] := by rw [List.getElem?_eq_getElem hkL2, eL]
                  have bin : b ∈ Ls.flatten := mem_at eLk (by simp)
                  have bL3 : b ∉ L3 := fun z => ndq'.2.2 b bin b z rfl
                  have fb := I2.fr b (pm.mem_iff.2 (List.mem_append_left _ bin))
                  have other : ∀ {t : Nat} {Li : List Addr}, t ≠ k → Ls[t]? = some Li → b ∉ Li := fun {t Li} ht e z => by
                    obtain ⟨_, p⟩ := flat_set eLk []
                    have nd := p.nodup_iff.1 ndq'.1
                    exact (List.nodup_append.1 nd).2.2 b (by simp) b (mem_at (Ls := Ls.set k []) (i := t) (by rw [List.getElem?_set_ne (Ne.symm ht)]; exact e) z) rfl
                  refine ⟨b, us, v, rfl, rfl, hb, by rw [hu.1]; exact hlt, ?_⟩
                  have I4 := I3.updOut (o := .lst (us ++ [v])) bL3 fb.1 fb.2
                  have new : RepO X.K (upd H' b (.lst (us ++ [v]))) F2 (.ref a) (.dt (xs.set k (.ow (.lst (ys ++ [d]))))) Ls.flatten := by
                    refine RepX.dt ha2 (by rw [List.length_set]; exact hk2) hl2 fun t w x Li a1 a2 a3 => ?_
                    by_cases ht : t = k
                    · subst ht
                      rw [List.getElem?_eq_getElem hkv, eb] at a1; cases a1
                      rw [List.getElem?_set_self (by rw [← hk2]; exact hkv)] at a2; cases a2
                      rw [eLk] at a3; cases a3
                      exact .po (.lst upd_same (hu.append (.cons rd .nil)))
                    · rw [List.getElem?_set_ne (Ne.symm ht)] at a2
                      exact (hi2 t w x Li a1 a2 a3).keep (fun z hz => upd_ne fun y => other ht a3 (y ▸ hz)) (Same.refl F2)
                  obtain ⟨L5, er5, p5⟩ := I4.er.fill (i := i) (m := m2) hm2 (List.getElem?_set_self (getElem?_lt e2)) e1 new
                  rw [List.set_set] at er5
                  have I5 := I4.envTo er5 (p5.nodup_iff.2 ndq) fun c hc => by
                    rcases List.mem_append.1 (p5.mem_iff.1 hc) with z | z
                    · exact I2.fr c (pm.mem_iff.2 (List.mem_append_left _ z))
                    · exact I4.fr c z
                  exact POk.now (PostV.later (W := W) (r := .ok (.fz .non) _) (s.trans ff) (n.trans nf) q) I5 .non
              split at q
              · rename_i xs e2
                split at q
                · rename_i ys ek
                  split at q
                  · rename_i hlt; exact fin (.inl rfl) e2 ek hlt q
                  · exact q.elim
                · exact q.elim
              · rename_i xs e2
                split at q
                · rename_i ys ek
                  split at q
                  · rename_i hlt; exact fin (.inr rfl) e2 ek hlt q
                  · exact q.elim
                · exact q.elim
              · exact q.elim
    · exact q.elim
  · exact q.elim
end
end DX

/-! list(reversed(x)) -/
namespace DX
open PySem PySem.Spec L2 RT
open PyProof.Rows hiding St
section
variable {prog : Program} {w : World} {A : Around} {E : Value → Shared → Prop} {s : Shared}
/-- list(..) of what walks a list from its end: S the new list, as yet empty -/
theorem init_rev {R : Result → Shared → Prop} {S it l : Addr} {items : Array Value} (hh : A.handled = none) (hS : s.heap.get? S = some { cls := .type "list", data := .seq #[] }) (hit : s.heap.IsRevIter it l ((items.size : Int) - 1)) (hl : s.heap.IsList l items) (hne : l ≠ it) (hSi : S ≠ it) (hSl : S ≠ l) (hn : items.size ≤ sizeLine)
    (hR : ∀ h' tk acc c, (∀ b o, b ≠ it → b ≠ S → s.heap.get? b = some o → h'.get? b = some o) → h'.get? S = some { cls := .type "list", dict := none, data := .seq acc c, slots := #[] } →
      ItemsOf (fun i v => items[items.size - 1 - i]? = some v) acc items.size → R (.ok (.ret .none)) { s with heap := h', toks := tk }) :
    wpAny (model prog w) A.in1 (Builtin.«list.__init__» ⟨[.ref S, .ref it], []⟩)
      (fun fin s' => match fin with
        | .done f => R (.ok f) s'
        | .again c' => c'.quiet = true ∧ codeAny (model prog w) A c' R s') (fun e s' => R (.error e) s') s := by
  have W := (Walks.listRev (A := A.in1) (prog := prog) (w := w) hh it l hne items).toS
  have hSf : S ∉ [it, l] := by simp [hSi, hSl]
  show wpAny _ A.in1 (Builtin.List.listItems (.ref S) >>= fun old => (do Builtin.List.listUpdate (.ref S) (fun _ => #[]); letGo old.toList.reverse; Builtin.List.listExtendWith (.ref S) (.ref it) .none)) _ _ s
  refine wpAny_bind (listItems_at hS rfl (wpAny_bind (listUpdate_at hS rfl (wpAny_bind (wpAny_letGo ?_)))))
  have e2 := Heap.get?_update_self (Obj.mapSeq fun _ => (#[] : Array Value)) hS rfl
  have keep : ∀ b o, b ≠ S → s.heap.get? b = some o → (s.heap.update S (Obj.mapSeq fun _ => (#[] : Array Value))).get? b = some o := fun b o hb e => (Heap.get?_update_other _ _ (Ne.symm hb)).trans e
  have hit2 : (s.heap.update S (Obj.mapSeq fun _ => (#[] : Array Value))).IsRevIter it l ((items.size : Int) - 1) := hit.at fun o e => keep it o (Ne.symm hSi) e
  have hl2 : (s.heap.update S (Obj.mapSeq fun _ => (#[] : Array Value))).IsList l items := by
    obtain ⟨o, h1, h2⟩ := hl
    exact ⟨o, keep l o (Ne.symm hSl) h1, h2⟩
  have ty : ({ s with heap := s.heap.update S (Obj.mapSeq fun _ => (#[] : Array Value)) } : Shared).TypeIs (.ref it) "list_reverseiterator" := Heap.IsRevIter.typeIs (s := { s with heap := s.heap.update S (Obj.mapSeq fun _ => (#[] : Array Value)) }) hit2
  have ns : Builtin.List.listSameRef (.ref S) (.ref it) = false := by simp [Builtin.List.listSameRef, hSi]
  unfold Builtin.List.listExtendWith
  refine wpAny_bind (wpAny_typeOf ty ?_)
  rw [if_neg (by rw [ns]; decide)]
  refine wpAny_bind (wpAny_pyIter_revIter (s := { s with heap := s.heap.update S (Obj.mapSeq fun _ => (#[] : Array Value)) }) hit2 (wpAny_bind (wpAny_holding ?_)))
  unfold Builtin.List.listLengthHint
  refine wpAny_bind (wpAny_specialOf ty nolen_lri ?_)
  change wpAny _ A.in1 (specialOf (.ref it) (Str.ofString "__length_hint__") >>= _) _ _ _
  refine wpAny_bind (wpAny_specialOf ty hint_lri ?_)
  generalize hq : ("list_reverseiterator.__length_hint__" : String) = q
  wp_delta
  rw [show splitId q = some ("list_reverseiterator", "__length_hint__") by subst hq; decide +kernel]
  subst hq
  refine wpAny_bind (wpAny_isInstance (b := true) ty (by rw [isSubtype_type]; kernel_rfl) (wpAny_pure ?_))
  rw [if_neg (by decide)]
  have e0 : (items.size : Int) - 1 - ((0 : Nat) : Int) = (items.size : Int) - 1 := by omega
  refine wpAny_pure ⟨plainId_quiet F.plain_extend_loop _, codeAny_extend_loopS W hn _ hSf _ items.size 0 _ _ _ rfl (Nat.zero_le _) ⟨Nat.zero_le _, by rw [e0]; exact hit2, hl2⟩ e2 (ItemsOf.nil _) fun s1 acc1 c1 mv h1 ho => ?_⟩
  rw [Moved.eq_with mv]
  refine hR s1.heap s1.toks acc1 c1 (fun b o hb hbS e => mv.heap b o (fun hm => ?_) (keep b o hbS e)) h1 ho
  rcases List.mem_cons.mp hm with rfl | hm
  · exact hbS rfl
  · exact hb (List.mem_singleton.mp hm)
theorem list_rev {Q : Value → Shared → Prop} {it l : Addr} {items : Array Value} (hh : A.handled = none) (hit : s.heap.IsRevIter it l ((items.size : Int) - 1)) (hl : s.heap.IsList l items) (hne : l ≠ it) (hn : items.size ≤ sizeLine)
    (hQ : ∀ h' tk acc c, (∀ b o, b ≠ it → s.heap.get? b = some o → h'.get? b = some o) → h'.get? s.heap.objs.size = some { cls := .type "list", dict := none, data := .seq acc c, slots := #[] } →
      ItemsOf (fun i v => items[items.size - 1 - i]? = some v) acc items.size → Q (.ref s.heap.objs.size) { s with heap := h', toks := tk }) : wpAny (model prog w) A (call (.type "list") [.ref it]) Q E s := by
  obtain ⟨oi, hoi, _⟩ := id hit
  obtain ⟨ol, hol, _⟩ := id hl
  refine callType_codes (Q₁ := fun o s₁ => o = .ref s.heap.objs.size ∧ s₁ = { s with heap := s.heap.push { cls := .type "list", data := .seq #[] } }) F.called_list (F.typeCall_list_1 _)
    F.entry_list_init (code_list_new _ ⟨rfl, rfl⟩) fun o s₁ e => ?_
  obtain ⟨rfl, rfl⟩ := e
  refine ⟨⟨_, Heap.get?_push_size _ rfl, rfl⟩, F.args_list_init_2 _ _, init_rev (A := A.in1) hh (Heap.get?_push_size _ rfl) (hit.at fun o e => Heap.get?_push_of_some _ e) (hl.push _) hne (Nat.ne_of_gt (Heap.lt_size hoi)) (Nat.ne_of_gt (Heap.lt_size hol)) hn fun h' tk acc c hk h1 ho => ?_⟩
  exact ⟨rfl, hQ h' tk acc c (fun b o hb e => hk b o hb (Nat.ne_of_lt (Heap.lt_size e)) (Heap.get?_push_of_some _ e)) h1 ho⟩
end
def tListRev (K : PySem.W.Frag) (te : TE) : TE := fun σ H Q => te σ H fun v H1 => ∃ (a : Addr) (xs : List V), v = .ref a ∧ SqL K H1 a xs ∧ ∀ q, H1 q = none → Q (.ref q) (upd H1 q (.lst xs.reverse))
theorem pe_listRev {X : Cx} {e : Expr} {te : TE} {p p2 pos pos2 : Pos} (hc : X.calm = true) (hg : Gl X "list") (hm : X.mg "list" = none) (hg2 : Gl X "reversed") (hm2 : X.mg "reversed" = none) (he : PE X e te)
    (hs : starEach [e] X.env = (false, eval e X.env) :: starEach [] X.env := by rfl) (hs2 : starEach [.Call (.Name "reversed" p2) [e] [] pos2] X.env = (false, eval (.Call (.Name "reversed" p2) [e] [] pos2) X.env) :: starEach [] X.env := by rfl) :
    PE X (.Call (.Name "list" p) [.Call (.Name "reversed" p2) [e] [] pos2] [] pos) (tListRev X.K te) := by
  refine ⟨fun pins s σ H Q I h => ?_⟩
  refine Call_ (ld_blt I hg hm (show bootBuiltins "list" = some (.type "list") by decide +kernel) (PyProof.Rows.callWith_type1 (args_cons (Call_ (ld_blt I hg2 hm2 PyProof.Rows.boot_reversed
    (PyProof.Rows.callWith_type1 (args_cons (thn (he.run pins s σ H _ I h) fun u s1 ⟨v, H1, I1, r1, q1⟩ => args_nil ?_) hs) hs rfl) (by decide) (by decide))) hs2) hs2 rfl) (by decide) (by decide))
  obtain ⟨a, xs, rfl, hq, q⟩ := q1
  obtain rfl : u = Value.ref a := r1
  obtain ⟨its, rv, pl, hz⟩ := I1.list hq
  refine call_reversed_list pl.isList (args_nil ?_)
  have k0 : ∀ b o, s1.heap.get? b = some o → (s1.heap.push (revObj a ((its.toArray.size : Int) - 1))).get? b = some o := fun b o e => Heap.get?_push_of_some _ e
  have I2 := I1.kept (t' := s1.toks) k0
  have fp := I1.fpOk (H' := H1) (b := s1.heap.objs.size) (Nat.le_refl _) (I1.hok.fresh (Nat.le_refl _))
  obtain ⟨ol, hol, _⟩ := id pl.isList
  have hn : its.toArray.size ≤ sizeLine := by rw [List.size_toArray, ← rv.length]; exact hz
  refine list_rev (s := { s1 with heap := s1.heap.push (revObj a ((its.toArray.size : Int) - 1)) }) (I1.ok.hd hc) ⟨_, Heap.get?_push_size _ rfl, rfl, rfl⟩ (pl.isList.push _) (Nat.ne_of_lt (Heap.lt_size hol)) hn fun h' tk acc c hk hS hi => ?_
  have hsz : (s1.heap.push (revObj a ((its.toArray.size : Int) - 1))).objs.size = s1.heap.objs.size + 1 := size_push' _ _
  rw [hsz] at hS ⊢
  have hb1 : (s1.heap.push (revObj a ((its.toArray.size : Int) - 1))).get? (s1.heap.objs.size + 1) = none := Heap.get?_none_of_le (by rw [hsz]; exact Nat.le_refl _)
  have I3 : Inv X pins σ H1 { s1 with heap := h', toks := tk } := I2.turned (t' := tk) (fun b o hb e => hk b o hb e) fp.1 fp.2.1 fp.2.2.2.1 fp.2.2.2.2.1 fp.2.2.2.2.2
  have hfree : H1 (s1.heap.objs.size + 1) = none := I1.hok.fresh (Nat.le_succ _)
  have fp1 := I1.fpOk (H' := H1) (b := s1.heap.objs.size + 1) (Nat.le_succ _) hfree
  refine ⟨.ref (s1.heap.objs.size + 1), upd H1 (s1.heap.objs.size + 1) (.lst xs.reverse), I3.take (t' := tk) (fun _ _ _ e => e) fp1 ⟨by rw [List.length_reverse]; exact hz, acc.toList, c, vals_rev rv hi, ?_⟩, rfl, q _ hfree⟩
  rw [Array.toArray_toList]
  exact hS
/-- an owned list turned round, a new one: its items go over -/
def dRevO (i : Nat) : DEnv → ER := fun env => match env[i]? with
  | some (.v .ow (.dl xs)) => .ok (.tmp (.dl xs.reverse)) (env.set i .un)
  | _ => .err
theorem parts_rev {K : PySem.W.Frag} {H F : Hp} {vs : List V} {xs : List D} {Ls : List (List Addr)} (ps : Parts K H F vs xs Ls) : Parts K H F vs.reverse xs.reverse Ls.reverse := by
  obtain ⟨h1, h2, h3⟩ := ps
  refine ⟨by simp [h1], by simp [h2], fun i v x Li a b c => ?_⟩
  have hi : i < vs.length := by have := (List.getElem?_eq_some_iff.1 a).1; simpa using this
  rw [List.getElem?_reverse hi] at a
  rw [List.getElem?_reverse (by rw [← h1]; exact hi)] at b
  rw [List.getElem?_reverse (by rw [h2]; exact hi)] at c
  rw [← h1] at b
  rw [h2] at c
  exact h3 _ v x Li a b c
theorem me_revO {X : Cx} {W : WX} {R : Hp} {P : List (Option V)} {i : Nat} {x : Str} {xp p p2 pos pos2 : Pos} (hc : X.calm = true) (hm : X.mg "list" = none) (hm2 : X.mg "reversed" = none) (hg : Gl X "list" := by rfl) (hg2 : Gl X "reversed" := by rfl) (hN : X.N[i]? = some x := by rfl)
    (hv : Vis X.env.scope x := by first | exact Or.inl rfl | exact Or.inr (Or.inl rfl) | exact Or.inr (Or.inr rfl)) (hd : (x == ("__debug__" : Str)) = false := by decide) (hcd : (x == ("__classdict__" : Str)) = false := by decide)
    (hs : starEach [.Name x xp] X.env = (false, eval (.Name x xp) X.env) :: starEach [] X.env := by rfl) (hs2 : starEach [.Call (.Name "reversed" p2) [.Name x xp] [] pos2] X.env = (false, eval (.Call (.Name "reversed" p2) [.Name x xp] [] pos2) X.env) :: starEach [] X.env := by rfl) :
    ME X W R P (.Call (.Name "list" p) [.Call (.Name "reversed" p2) [.Name x xp] [] pos2] [] pos) (dRevO i) := by
  intro G H F σ env L Q I q
  refine w_of (pe_listRev hc hg hm hg2 hm2 (pe_var hN hv hd hcd) hs hs2) ?_
  unfold dRevO at q
  split at q
  · rename_i xs e0
    obtain ⟨u, La, L2, e1, ro, pm, I2⟩ := I.take (.inl rfl) e0
    cases ro with
    | @dl a vs _ Ls h hk hl hi =>
      refine ⟨_, e1, a, vs, rfl, .inl (.inl h), fun p np => ?_⟩
      have ps : Parts X.K H F vs xs Ls := ⟨hk, hl, hi⟩
      have inL : ∀ b ∈ a :: Ls.flatten, b ∈ L := fun b hb => pm.mem_iff.2 (List.mem_append_left _ hb)
      have nd := pm.nodup_iff.1 I.nd
      have nd1 := List.nodup_append.1 nd
      have pL : p ∉ L := fun z => by
        obtain ⟨o, e, _⟩ := I.er.sub p z
        rw [np] at e; cases e
      have ps2 := parts_rev (Parts.keep (H' := upd H p (.lst vs.reverse)) ps (fun b hb => upd_ne fun z => pL (z ▸ inL b (List.mem_cons_of_mem _ hb))) (Same.refl F))
      have perm : Ls.reverse.flatten.Perm Ls.flatten := by
        have : Ls.reverse.Perm Ls := List.reverse_perm _
        exact this.flatten
      have I3 := I2.ext (same_upd (o := .lst vs.reverse) np) (Same.refl F) (I2.fh.trans (same_upd np)) NewF.refl
      refine q (.ref p) _ F L2 (p :: Ls.reverse.flatten) I3 (Same.refl F) NewF.refl (RepX.dl upd_same ps2.1 ps2.2.1 ps2.2.2) ?_ fun b hb => ?_
      · rw [List.cons_append, List.nodup_cons]
        refine ⟨fun z => ?_, ?_⟩
        · rcases List.mem_append.1 z with z | z
          · exact pL (inL p (List.mem_cons_of_mem _ (perm.mem_iff.1 z)))
          · exact pL (pm.mem_iff.2 (List.mem_append_right _ z))
        · refine List.nodup_append.2 ⟨perm.nodup_iff.2 (List.nodup_cons.1 nd1.1).2, nd1.2.1, fun b hb c hc z => nd1.2.2 b (List.mem_cons_of_mem _ (perm.mem_iff.1 hb)) c hc z⟩
      · rcases List.mem_cons.1 hb with rfl | hb
        · exact ⟨I.fh.free np, I.gh.free np⟩
        · exact I.fr b (inL b (List.mem_cons_of_mem _ (perm.mem_iff.1 hb)))
  · exact q.elim
end DX

/-! A comprehension whose items are handed over: a list of owned parts. -/
namespace DX
open PySem PySem.Spec L2
open PyProof.Rows hiding St

def lcO (t : D → DEnv → Option DEnv) (own : List Nat) (me : DEnv → ER) : List D → DEnv → List D → ER
  | [], env, acc => .ok (.tmp (.dl acc)) env
  | x :: xs, env, acc => match t x env with
    | none => .err
    | some e1 => match me e1 with
      | .ok rv e3 => match partV rv e3 with
        | some (d, e4) => if acc.length < sizeLine then lcO t own me xs (forget own e4) (acc ++ [d]) else .err
        | none => .err
      | _ => .err
def dLcO (mi : DEnv → IR) (t : D → DEnv → Option DEnv) (own : List Nat) (me : DEnv → ER) : DEnv → ER := fun env => match mi env with
  | .ok xs e2 => lcO t own me xs (forget own e2) []
  | .raise c e => .raise c e
  | .err => .err
section
variable {X : Cx} {W : WX} {R : Hp} {P : List (Option V)} {pos : Pos} {G H F : Hp} {σ : St} {env : DEnv} {L : List Addr} {tg iter : Expr}
theorem lcO_go {own : List Nat} {J : It} {xs : List D} {t : D → DEnv → Option DEnv} {me : DEnv → ER} {g : TG} {te : TE} {Q : VK}
    (hg : ∀ (G H F : Hp) (σ σ0 : St) (env env' : DEnv) (L : List Addr) (v : V) (d : D) (k : St → Hp → Prop), wipe σ own = σ0 → FI X.K R P G H F σ env L → Rep X.K F v d → t d env = some env' →
      (∀ (σ' : St) (H' F' : Hp) (L' : List Addr), wipe σ' own = σ0 → FI X.K R P G H' F' σ' env' L' → Same F F' → NewF G F F' → k σ' H') → g v σ H k)
    (he : ∀ (G H F : Hp) (σ : St) (env : DEnv) (L : List Addr) (Q : VK), FI X.K R P G H F σ env L → PostV X W0 R P G F σ (me env) Q → te σ H Q)
    (Wk : Walks X.K J xs G F) (I : FI X.K R P G H F σ (DX.forget own env) L) (q : PostV X W R P G F σ (lcO t own me xs (DX.forget own env) []) Q) (Da : Addr) (hD : H Da = none) :
    ∃ W' : Nat → Nat → Hp → Prop, (∃ m, W' 0 m (upd H Da (.lst []))) ∧ ∀ i m H, W' i m H → (J.stop i H ∧ Q (.ref Da) H) ∨ (J.go i H ∧ ∃ Nx : Hp → Prop, (∀ H', Nx H' → ∃ m', m' < m ∧ W' (i + 1) m' H') ∧
      ∀ x H', J.yld i H x H' → g x (wipe σ own) H' fun σ2 H2 => wipe σ2 own = wipe σ own ∧ tYes σ2 H2 fun b H3 => if b = true then te σ2 H3 fun y H4 => ∃ acc, H4 Da = some (.lst acc) ∧ acc.length < sizeLine ∧ Nx (upd H4 Da (.lst (acc ++ [y]))) else Nx H3) := by
  have gD : G Da = none := I.gh.free hD
  let S : Nat → Hp → Prop := fun i H => ∃ (env : DEnv) (F1 : Hp) (L : List Addr) (vs : List V) (acc : List D) (Ls : List (List Addr)), FI X.K R P G H F1 σ (DX.forget own env) L ∧ Same F F1 ∧ NewF G F F1 ∧ OL X.K G H F1 Da vs acc Ls L ∧ PostV X W R P G F1 σ (lcO t own me (xs.drop i) (DX.forget own env) acc) Q
  refine ⟨fun i m H => m = xs.length - i ∧ i ≤ xs.length ∧ S i H, ⟨_, rfl, Nat.zero_le _, env, F, L, [], [], [], ?_, Same.refl F, NewF.refl, ⟨.nil, upd_same, ?_, ?_⟩, by simpa using q⟩, ?_⟩
  · exact I.wr (I.fh.free hD) gD fun z => by obtain ⟨o, e, _⟩ := I.er.sub Da z; rw [hD] at e; cases e
  · refine List.nodup_cons.2 ⟨fun z => ?_, I.nd⟩
    have z : Da ∈ L := by simpa using z
    obtain ⟨o, e, _⟩ := I.er.sub Da z
    rw [hD] at e; cases e
  · intro b hb; obtain rfl := List.mem_singleton.1 hb; exact ⟨I.fh.free hD, gD⟩
  rintro i m H ⟨rfl, hi, env, F1, L, vs, acc, Ls, I, ff, nf, o, q⟩
  by_cases hlt : i < xs.length
  · refine .inr ⟨Wk.go i H hlt I.gh (ff.trans I.fh), fun H' => i + 1 ≤ xs.length ∧ S (i + 1) H', fun H' h => ⟨xs.length - (i + 1), by omega, rfl, h⟩, fun x H' y => ?_⟩
    have ed : xs.drop i = xs[i] :: xs.drop (i + 1) := List.drop_eq_getElem_cons hlt
    rw [ed] at q
    unfold lcO at q
    have I' := I.held o.nd o.fr
    have gg : Same G (addG G H (Da :: Ls.flatten)) := addG_same fun a ha => (o.fr a ha).2
    have atG : ∀ b ∈ Da :: Ls.flatten, ∃ u, addG G H (Da :: Ls.flatten) b = some u ∧ H b = some u ∧ NT u := fun b hb => by
      obtain ⟨u, hu, nt⟩ := o.there b hb
      exact ⟨u, by rw [addG_in hb]; exact hu, hu, nt⟩
    obtain ⟨F2, hh, f2, fh2, nw2, r2⟩ := Wk.yld i H F1 x H' xs[i] I.gh ff I.fh y (List.getElem?_eq_getElem hlt)
    have I2 := I'.ext hh f2 fh2 nw2
    have n2 := I'.newF nw2
    obtain ⟨L3, I3, _⟩ := I2.wipe (own := own)
    rw [forget_idem] at I3
    cases et : t xs[i] (DX.forget own env) with
    | none => rw [et] at q; exact q.elim
    | some e1 =>
      rw [et] at q
      dsimp only at q
      refine hg _ H' F2 _ (wipe σ own) _ e1 L3 x xs[i] _ (wipe_wipe σ own) I3 r2 et fun σ4 H4 F4 L4 w4 I4 s4 n4 => ⟨w4, ?_⟩
      unfold tYes; dsimp only
      rw [if_pos rfl]
      refine he _ H4 F4 σ4 e1 L4 _ I4 ?_
      cases eme : me e1 with
      | err => rw [eme] at q; exact q.elim
      | raise c e3 => rw [eme] at q; exact q.elim
      | ok rv e3 =>
        rw [eme] at q
        dsimp only at q
        intro v H6 F6 L6 Lr I6 s6 n6 r6 nd6 fr6
        cases ef : partV rv e3 with
        | none => rw [ef] at q; exact q.elim
        | some p =>
          obtain ⟨d, e4⟩ := p
          rw [ef] at q
          dsimp only at q
          split at q
          · rename_i hsz
            obtain ⟨L7, Lp, I7, r7, nd7, fr7, _⟩ := partV_ok2 I6 r6 nd6 fr6 ef
            have s16 : Same F1 F6 := f2.trans (s4.trans s6)
            have n16 : NewF (addG G H (Da :: Ls.flatten)) F1 F6 := n2.trans (n4.trans n6)
            have kH : ∀ b ∈ Da :: Ls.flatten, H6 b = H b := fun b hb => by
              obtain ⟨u, g, h, _⟩ := atG b hb
              rw [h]; exact I7.gh _ _ g
            have kF : ∀ b ∈ Da :: Ls.flatten, F6 b = none := fun b hb => by
              obtain ⟨u, g, h, nt⟩ := atG b hb
              exact n16.out g nt (o.fr b hb).1
            have notin : ∀ b, addG G H (Da :: Ls.flatten) b = none → b ∉ Da :: Ls.flatten := fun b e z => by
              obtain ⟨u, g, _⟩ := atG b z
              rw [g] at e; cases e
            obtain ⟨L8, I8⟩ := (I7.held nd7 fr7).forget (dead := own)
            have g9 : Same G (addG (addG G H (Da :: Ls.flatten)) H6 Lp) := gg.trans (addG_same fun a ha => (fr7 a ha).2)
            have sub8 : ∀ b ∈ L8, b ∉ Lp := fun b hb z => by
              have e := (I8.fr b hb).2
              rw [addG_in z] at e
              obtain ⟨u, hu, _⟩ := r7.there b z
              rw [hu] at e; cases e
            have L8n : ∀ b ∈ L8, b ∉ Da :: Ls.flatten := fun b hb => notin b (by
              have e := (I8.fr b hb).2
              rw [addG_out (sub8 b hb)] at e; exact e)
            have hd6 : H6 Da = some (.lst vs) := by rw [kH Da List.mem_cons_self]; exact o.ha
            refine ⟨vs, hd6, by rw [o.ps.1]; exact hsz, hlt, ?_⟩
            -- the addresses of the new part that are still there
            have nd7' := List.nodup_append.1 nd7
            have dLs : Da ∉ Ls.flatten := (List.nodup_cons.1 (List.nodup_append.1 o.nd).1).1
            have dLp : Da ∉ Lp := fun z => notin Da (fr7 Da z).2 List.mem_cons_self
            have I11 := ((I8.swap w4).less g9 I.rg).updOut (o := .lst (vs ++ [v])) (fun z => L8n Da z List.mem_cons_self) (kF Da List.mem_cons_self) gD
            have ps : Parts X.K (upd H6 Da (.lst (vs ++ [v]))) F6 (vs ++ [v]) (acc ++ [d]) (Ls ++ [Lp]) :=
              parts_app (o.ps.keep (fun b hb => by rw [upd_ne fun (z : b = Da) => dLs (z ▸ hb)]; exact kH b (List.mem_cons_of_mem _ hb)) s16) (r7.keep (fun b hb => upd_ne fun (z : b = Da) => dLp (z ▸ hb)) (Same.refl F6))
            refine ⟨e4, F6, L8, vs ++ [v], acc ++ [d], Ls ++ [Lp], I11, ff.trans s16, nf.trans (n16.less gg), ⟨ps, upd_same, ?_, ?_⟩, PostV.later s16 (n16.less gg) q⟩
            · have e : ((Da :: (Ls ++ [Lp]).flatten) ++ L8).Perm (Lp ++ ((Da :: Ls.flatten) ++ L8)) := by
                rw [List.flatten_append]
                simp only [List.flatten_cons, List.flatten_nil, List.append_nil]
                have : (Da :: (Ls.flatten ++ Lp) ++ L8) = (Da :: Ls.flatten) ++ (Lp ++ L8) := by simp
                rw [this, ← List.append_assoc, ← List.append_assoc]
                exact List.perm_append_comm.append_right L8
              refine e.nodup_iff.2 (List.nodup_append.2 ⟨nd7'.1, List.nodup_append.2 ⟨(List.nodup_append.1 o.nd).1, I8.nd, fun b hb c hc z => L8n c hc (z ▸ hb)⟩, fun b hb c hc z => ?_⟩)
              subst z
              rcases List.mem_append.1 hc with w | w
              · exact notin b (fr7 b hb).2 w
              · exact sub8 b w hb
            · intro b hb
              rw [List.flatten_append, ← List.cons_append] at hb
              rcases List.mem_append.1 hb with w | w
              · exact ⟨kF b w, (o.fr b w).2⟩
              · have w : b ∈ Lp := by simpa using w
                exact ⟨(fr7 b w).1, gg.free (fr7 b w).2⟩
          · exact q.elim
  · have e : i = xs.length := by omega
    subst e
    rw [List.drop_length] at q
    refine .inl ⟨Wk.stop _ H (Nat.le_refl _) I.gh (ff.trans I.fh), ?_⟩
    exact q (.ref Da) H F1 L (Da :: Ls.flatten) I (Same.refl F1) NewF.refl (RepX.dl o.ha o.ps.1 o.ps.2.1 o.ps.2.2) o.nd o.fr
theorem lc_tLcO {wi : TI} {scope : Scope} {own : List (Str × Nat)} {elt : Expr} {mi : DEnv → IR} {t : D → DEnv → Option DEnv} {me : DEnv → ER} {Q : VK}
    (hi : ∀ (G H F : Hp) (σ : St) (env : DEnv) (L : List Addr) (k : It → Hp → Prop), FI X.K R P G H F σ env L → IOk X W R P G F σ (mi env) k → wi σ H k)
    (hg : Blk X scope fun Y => MGo Y R P (own.map (·.2)) tg t) (he : Blk X scope fun Y => ME Y W0 R P elt me)
    (I : FI X.K R P G H F σ env L) (q : PostV X W R P G F σ (dLcO mi t (own.map (·.2)) me env) Q) : tLc wi (aLc X scope tg elt).1 tYes (aLc X scope tg elt).2 (own.map (·.2)) σ H Q := by
  refine hi G H F σ env L _ I ?_
  unfold dLcO at q
  cases em : mi env with
  | err => rw [em] at q; exact q
  | raise c e => rw [em] at q; exact q
  | ok xs e2 =>
    rw [em] at q
    dsimp only at q
    intro J H' F' L' I' s n Wk D hD
    obtain ⟨L3, I3⟩ := I'.forget (dead := own.map (·.2))
    exact lcO_go (g := (aLc X scope tg elt).1) (te := (aLc X scope tg elt).2) (fun G H F σ σ0 env env' L v d k hw I r e q s0 H0 C cl fp => hg s0 H0 C cl fp G H F σ σ0 env env' L v d k hw I r e q)
      (fun G H F σ env L Q I q s0 H0 C cl fp => he s0 H0 C cl fp G H F σ env L Q I q) Wk I3 (PostV.later s n q) D hD
theorem me_lcO {elt : Expr} {scope : Scope} {own : List (Str × Nat)} {mi : DEnv → IR} {t : D → DEnv → Option DEnv} {me : DEnv → ER} (hc : X.calm = true) (hN : X.N.Nodup) (hi : MI X W R P tg iter mi) (ok : BlkOk X.N X.env.scope scope own)
    (hg : Blk X scope fun Y => MGo Y R P (own.map (·.2)) tg t) (he : Blk X scope fun Y => ME Y W0 R P elt me) (hs : ∀ x, foldedSetIterable iter X.env x = pure x := by intro _; rfl) :
    ME X W R P (.ListComp elt [⟨tg, iter, [], 0⟩] scope pos) (dLcO mi t (own.map (·.2)) me) := by
  intro G H F σ env L Q I q
  obtain ⟨wi, pi, hi⟩ := hi
  exact w_of (pe_lc (g := (aLc X scope tg elt).1) (tt := tYes) (te := (aLc X scope tg elt).2) hc hN pi ok (fun s H C cl fp => ⟨fun pins s1 σ H1 v u Q I r h => h s H C cl fp pins s1 u I r⟩) (fun _ _ _ _ _ => pts_nil) (fun s H C cl fp => ⟨fun pins s1 σ H1 Q I h => h s H C cl fp pins s1 I⟩) hs)
    (lc_tLcO hi hg he I q)
theorem ms_setLcO {i : Nat} {y : Str} {py spos : Pos} {elt : Expr} {scope : Scope} {own : List (Str × Nat)} {mi : DEnv → IR} {t : D → DEnv → Option DEnv} {me : DEnv → ER} (hc : X.calm = true) (hN : X.N.Nodup) (hi : MI X W R P tg iter mi) (ok : BlkOk X.N X.env.scope scope own)
    (hg : Blk X scope fun Y => MGo Y R P (own.map (·.2)) tg t) (he : Blk X scope fun Y => ME Y W0 R P elt me) (hy : X.N[i]? = some y := by rfl) (hyl : X.env.scope.names.lookup y = some .local := by rfl)
    (hsw : swapsWith (.ListComp elt [⟨tg, iter, [], 0⟩] scope pos) (some (.Name y py)) spos.line X.env = pure true := by rfl) (hs : ∀ x, foldedSetIterable iter X.env x = pure x := by intro _; rfl) :
    MS X W R P (.Assign [.Name y py] (.ListComp elt [⟨tg, iter, [], 0⟩] scope pos) spos) (dSet i (dLcO mi t (own.map (·.2)) me)) := by
  intro G H F σ env L D I q
  obtain ⟨wi, pi, hi⟩ := hi
  exact ws_of (ps_setLc (g := (aLc X scope tg elt).1) (tt := tYes) (te := (aLc X scope tg elt).2) hc hN hy hyl hsw pi ok (fun s H C cl fp => ⟨fun pins s1 σ H1 v u Q I r h => h s H C cl fp pins s1 u I r⟩) (fun _ _ _ _ _ => pts_nil) (fun s H C cl fp => ⟨fun pins s1 σ H1 Q I h => h s H C cl fp pins s1 I⟩) hs)
    (lc_tLcO hi hg he I (set_post q))
end
end DX

/-! range(i, j, -1) -/
namespace DX
open PySem PySem.Spec L2
open PyProof.Rows hiding St

noncomputable def mR3 (ma mb mc : DEnv → ER) : DEnv → IR := fun env => match mArgs [ma, mb, mc] env with
  | .ok [.fz (.int i), .fz (.int j), .fz (.int c)] e1 => @ite _ (-(2 ^ 62) ≤ i ∧ i < 2 ^ 62 ∧ -(2 ^ 62) ≤ j ∧ j < 2 ^ 62 ∧ c = -1) (Classical.propDecidable _) (.ok ((List.range (i - j).toNat).map fun k => D.int (i - (k : Nat))) e1) .err
  | .raise c e => .raise c e
  | _ => .err
theorem walks_down {K : PySem.W.Frag} {G F : Hp} {lo : Int} {n : Nat} : Walks K (Itc lo (-1) n) ((List.range n).map fun k => D.int (lo - (k : Nat))) G F where
  go := fun i H hi _ _ => by show i < n; simpa using hi
  stop := fun i H hi _ _ => by show n ≤ i; simpa using hi
  yld := fun i H F1 x H' d gh f1 fh y e => by
    obtain ⟨rfl, rfl⟩ := y
    rw [List.getElem?_map] at e
    cases q : (List.range n)[i]? with
    | none => rw [q] at e; cases e
    | some k =>
      rw [q] at e
      cases e
      have : k = i := by
        obtain ⟨h1, h2⟩ := List.getElem?_eq_some_iff.mp q
        simpa using h2.symm
      subst this
      have e2 : lo + ((k : Nat) : Int) * -1 = lo - (k : Nat) := by omega
      rw [e2]
      exact ⟨F1, Same.refl _, Same.refl _, fh, NewF.refl, .int _⟩
section
variable {X : Cx} {W : WX} {R : Hp} {P : List (Option V)} {tg : Expr}
theorem mi_R3 {a b c : Expr} {ma mb' mc : DEnv → ER} {p pos' : Pos} (hm : X.mg "range" = none) (hi : ME X W R P a ma) (hi2 : ME X W R P b mb') (hi3 : ME X W R P c mc) (hgl : Gl X "range" := by rfl)
    (hst : starEach [a, b, c] X.env = (false, eval a X.env) :: starEach [b, c] X.env := by rfl) (hst2 : starEach [b, c] X.env = (false, eval b X.env) :: starEach [c] X.env := by rfl) (hst3 : starEach [c] X.env = (false, eval c X.env) :: starEach [] X.env := by rfl)
    (hpl : (backTo pos' (starEach [b, c] X.env)).any (·.1) = false := by rfl) :
    MI X W R P tg (.Call (.Name "range" p) [a, b, c] [] pos') (mR3 ma mb' mc) := by
  refine ⟨_, pi_range3 hgl hm (pa_cons pe_w (pa_cons pe_w (pa_cons pe_w pa_nil hst3) hst2) hst) hst hpl, fun G H F σ env L k I q => ?_⟩
  show tWa X [a, b, c] σ H _
  refine run_args (.cons hi (.cons hi2 (.cons hi3 .nil))) I ?_
  unfold mR3 at q
  cases e : mArgs [ma, mb', mc] env with
  | err => rw [e] at q; exact q
  | raise c env' => rw [e] at q; exact q
  | ok rvs env' =>
    rw [e] at q
    intro vs H' F' L' Lr I' s n hs nd fr
    split at q
    · rename_i i j c0 e1 h1
      cases h1
      cases hs with
      | cons h1 t1 =>
        cases t1 with
        | cons h2 t2 =>
          cases t2 with
          | cons h3 t3 =>
            cases t3
            obtain ⟨rfl, r1⟩ := h1
            obtain ⟨rfl, r2⟩ := h2
            obtain ⟨rfl, r3⟩ := h3
            cases r1; cases r2; cases r3
            split at q
            · rename_i hj
              obtain ⟨h1, h2, h3, h4, rfl⟩ := hj
              exact ⟨i, j, -1, _, rfl, RgC.neg h1 h2 h3 h4, q _ H' F' L' I' s n walks_down⟩
            · exact q.elim
    · rename_i h1; cases h1
    · exact q.elim
end
end DX

/-! sorted(d), the keys tuples -/
namespace DX
open PySem PySem.Spec L2
open PyProof.Rows hiding St

def gSortedDT : List D → Option Val
  | [.dT kvs] => if sortOk (kvs.map fun kv => keyTD kv.1) = true then some (.tmp (.lst ((kvs.map fun kv => keyTD kv.1).mergeSort leD))) else none
  | _ => none
section
variable {X : Cx} {pins : List (Addr × Obj)} {σ : St} {H F : Hp} {s : Shared}
theorem reads_atoms {h : Heap} {n : Nat} : ∀ {k : List Key} {vs : List V} {us : List Value}, Vals vs us → Reps X.K F vs (k.map keyD) → ReadsAll h us ((k.map keyD).map (pyN n)) []
  | [], vs, us, r, hr => by
    cases vs with
    | cons => have := hr.1; simp at this
    | nil => cases r; exact .nil
  | x :: k, vs, us, r, hr => by
    cases vs with
    | nil => have := hr.1; simp at this
    | cons v vs =>
      cases r with
      | cons r0 r1 =>
        have h0 := hr.2 0 v (keyD x) rfl rfl
        have hk := reads_atoms (h := h) (n := n) r1 (⟨by have := hr.1; simpa using this, fun i v x a b => hr.2 (i + 1) v x (by simpa using a) (by simpa using b)⟩ : Reps X.K F vs (k.map keyD))
        cases x with
        | inl i =>
          cases h0
          obtain ⟨t, rfl⟩ := r0
          have e : pyN n (keyD (Sum.inl i)) = .int i := by cases n <;> rfl
          simp only [List.map_cons, e]
          exact .cons (as := []) (.int _ _) hk
        | inr z =>
          cases h0
          obtain ⟨t, rfl⟩ := r0
          have e : pyN n (keyD (Sum.inr z)) = .str z := by cases n <;> rfl
          simp only [List.map_cons, e]
          exact .cons (as := []) (.str _ _) hk
theorem reads_keyT (I : Inv X pins σ H s) (fh : Same F H) {v : V} {u : Value} {k : List Key} (h : Rep X.K F v (keyTD k)) (r : RelV v u) : Reads s.heap u (pyD (keyTD k)) [] := by
  have hh := h
  unfold keyTD at hh
  cases hh with
  | @tup a vs xs hq hk hl hi =>
    obtain rfl : u = Value.ref a := r
    obtain ⟨vs2, its, rv, hs, ht, _⟩ := rep_tup I ((Rep.tup hq hk hl hi : Rep X.K F (.ref a) (.tup _)).toH fh)
    obtain ⟨o, ho, hc, n0, hd⟩ := ht
    exact .tuple ho hc hd (by simpa using reads_atoms (h := s.heap) (n := 3) rv hs)
theorem callSortedDT (hc : X.calm = true) (hu : X.A.units + 64 < cLine) : CallR X (.builtin "sorted") (rG X.K gSortedDT) := by
  intro pins s σ H xs us Q I r ⟨σ', F, ds, rv, fh, h, e, k⟩
  unfold gSortedDT at e; split at e
  · rename_i kvsD
    split at e
    · rename_i hok
      cases e
      obtain ⟨x, rfl, hx⟩ := one h
      obtain ⟨u, eu, rx⟩ := vals1 r
      subst eu
      cases hx with
      | @dT d kvs _ hd hi =>
        obtain rfl : u = Value.ref d := rx
        obtain ⟨z, hs, ks, pr, o, es, ep, ho, hx, hdt, he, hn⟩ := (show ObjOk X.prog X.w H s.heap d (.dT kvs) from hd.ok I.hok)
        have l1 : es.size = ks.length := size_of_entries he
        have l2 : kvs.length = ks.length := Paired.length pr
        refine Calls.call_function_entry PyProof.Rows.kind_sorted PyProof.Rows.plain_sorted PyProof.Rows.entry_sorted (PyProof.Rows.args_sorted1 _) ?_
        unfold Builtin.«sorted»
        refine wpAny_bind (m := checkCount "sorted" 1 1 _) (wpAny_pure ?_)
        refine wpAny_bind (PySem.W.kdu_collect (A := X.A.in1) (kdl_raw hs hx hdt) (I.ok.hd hc) ho (by omega) fun h' tk acc hk it => ?_)
        have ea : acc.toList = ks.map fun x => Value.ref x.2.1 := by
          have hl : acc.toList.length = ks.length := by rw [Array.length_toList, it.1]; exact l1
          apply List.ext_getElem?
          intro j
          rw [List.getElem?_map]
          cases hj : acc.toList[j]? with
          | none =>
            have h1 := List.getElem?_eq_none_iff.mp hj
            rw [List.getElem?_eq_none (by omega)]
            all_goals rfl
          | some v =>
            obtain ⟨en, hen, hv⟩ := it.2 j v (by rw [← Array.getElem?_toList]; exact hj)
            have qe := entry_at he j
            rw [hen] at qe
            cases hb : ks[j]? with
            | none =>
              rw [hb] at qe
              exact nomatch (show some en = none from qe)
            | some b =>
              rw [hb] at qe
              have e2 : en = entryOfKey (tupleKind (mixKind X.prog X.w)) b := Option.some.inj qe
              rw [hv, e2]
              all_goals rfl
        have eb : acc.toList = (ks.map fun x => x.2.1).map Value.ref := by rw [ea, List.map_map]; all_goals rfl
        have I1 : Inv X pins σ H { s with heap := h', toks := tk } := I.kept hk
        have hal : acc.toList.length = ks.length := by rw [eb]; simp
        refine wpAny_bind (wpAny_newList ?_ (by rw [hal]; omega))
        have hoL : (h'.push (seqObj "list" acc.toList.toArray 0)).get? h'.objs.size = some (seqObj "list" acc.toList.toArray 0) := Heap.get?_push_size _ rfl
        show wpAny _ _ _ _ _ { s with heap := h'.push (seqObj "list" acc.toList.toArray 0), toks := tk }
        obtain ⟨F', s1, s2, s3, rr⟩ := lay_keys (K := X.K) (isKeys_of pr) fh
        rw [keysT_eq hi] at rr
        generalize hys : (kvsD.map fun kv => keyTD kv.1) = ys at *
        have ysk : ∀ y ∈ ys, ∃ k, y = keyTD k := fun y hy => by
          rw [← hys] at hy
          obtain ⟨kv, _, rfl⟩ := List.mem_map.1 hy
          exact ⟨_, rfl⟩
        obtain ⟨h1, h2, h3⟩ := sort_prem hok
        have rvl : Vals ((ks.map fun x => x.2.1).map V.ref) acc.toList := by rw [eb]; exact vals_refs _
        generalize (ks.map fun x => x.2.1).map V.ref = vs2 at *
        have l4 := rvl.length
        have l5 := rr.1
        have em : (vs2.zip ys).map (fun p => pyD p.2) = ys.map pyD := by
          rw [show (fun p : V × D => pyD p.2) = pyD ∘ (fun p : V × D => p.2) from rfl, ← List.map_map]
          congr 1
          exact List.map_snd_zip (by omega)
        have E1 : PySem.W.EachIs (fun u (p : V × D) => RelV p.1 u) acc.toList (vs2.zip ys) := zip_each l4 l5 fun i v u a b => by
          obtain ⟨u', hu', q⟩ := rvl.get a
          rw [hu'] at b; cases b; exact q
        have E2 : PySem.W.EachIs (fun u (p : V × D) => ∃ as, Reads (h'.push (seqObj "list" acc.toList.toArray 0)) u (pyD p.2) as ∧ h'.objs.size ∉ as) acc.toList (vs2.zip ys) := by
          refine (PySem.W.each_mem E1).mono fun u p ⟨q, hm⟩ => ?_
          have rp := reps_zip rr p hm
          obtain ⟨k, hk⟩ := ysk _ (List.of_mem_zip hm).2
          rw [hk] at rp ⊢
          have rd := reads_keyT I1 s2 rp q
          exact ⟨[], PyProof.Rows.Reads.keeps (fun _ _ e => Heap.get?_push_of_some _ e) rd, by simp⟩
        refine wpAny_bind (wpAny_holding (PySem.W.list_sort_data (s := { s with heap := h'.push (seqObj "list" acc.toList.toArray 0), toks := tk }) (enc := fun p : V × D => pyD p.2) hoL E1 E2 (by rw [em]; exact h2) (by rw [em]; exact h3) (by rw [List.length_zip]; omega)
          (fun p _ => by have q : (pyD p.2).depth ≤ 4 := depth_le 4 p.2; show X.A.in1.units + 1 + _ < _; have : X.A.in1.units = X.A.units + 1 := rfl; omega) fun out ho eo => ?_))
        obtain ⟨e', he'⟩ := PyProof.Rows.sortedHeap_at (vs := acc.toList) (out := List.toArray out) hoL
        have hv := each_vals eo
        have hlen : (((vs2.zip ys).mergeSort (PySem.W.dataLe false fun p : V × D => pyD p.2)).map (·.1)).length ≤ sizeLine := by rw [List.length_map, List.length_mergeSort, List.length_zip]; omega
        have es' : ys.mergeSort leD = ((vs2.zip ys).mergeSort (PySem.W.dataLe false fun p : V × D => pyD p.2)).map (·.2) := by
          have q := mergeSort_snd leD (vs2.zip ys)
          rw [List.map_snd_zip (by omega)] at q
          exact q.symm
        have RR := reps_of_mem (K := X.K) (F := F') (ps := (vs2.zip ys).mergeSort (PySem.W.dataLe false fun p : V × D => pyD p.2)) fun p hp => reps_zip rr p (List.mem_mergeSort.1 hp)
        have n : H h'.objs.size = none := I1.hok.fresh (Nat.le_refl _)
        have n2 : F' h'.objs.size = none := s2.free n
        refine wpAny_pure ⟨_, rfl, .ref h'.objs.size, upd H h'.objs.size (.lst (((vs2.zip ys).mergeSort (PySem.W.dataLe false fun p : V × D => pyD p.2)).map (·.1))), I1.laid (t' := tk) (fun b ob eb' => ?_) (Nat.le_refl _) ⟨hlen, out, e', hv, he'⟩, rfl, ?_⟩
        · have hb : b < h'.objs.size := Heap.lt_size eb'
          rw [PyProof.Rows.sortedHeap_old (Nat.ne_of_lt hb) (by rw [size_push']; exact Nat.lt_succ_of_lt hb)]
          exact Heap.get?_push_of_some _ eb'
        · refine k (.ref _) _ F' [h'.objs.size] (same_upd n) s1 (s2.trans (same_upd n)) s3 (.lst upd_same (by rw [es']; exact RR)) (by simp) fun a ha => ?_
          obtain rfl := List.mem_singleton.1 ha
          exact ⟨n, n2⟩
    · cases e
  · cases e
end
end DX

/-! a text times a number -/
namespace DX
open PySem PySem.Spec L2
open PyProof.Rows hiding St

theorem mulOk_small {z : Str} {n : Int} (h0 : 0 ≤ n) (h1 : n ≤ 1000) (h2 : z.length ≤ 1000) : PySem.MulOk z n := by
  refine ⟨by simp; omega, fun a _ => ?_, fun a _ => ?_⟩
  · have : (1000 : Int) ≤ (2 ^ 63 - 1) / n := by
      rw [Int.le_ediv_iff_mul_le (by omega)]
      omega
    omega
  · unfold Builtin.Str.tooLong sizeLine
    have : z.length * n.toNat ≤ 1000 * 1000 := Nat.mul_le_mul h2 (by omega)
    simp
    omega
def gMulS : List D → Option Val
  | [.str z, .int n] => if 0 ≤ n ∧ n ≤ 1000 ∧ z.length ≤ 1000 then some (.fz (.str (Txt.mul z n))) else none
  | _ => none
section
variable {X : Cx}
theorem op_mul_str : OpR X (binaryOp .Mult) (fun x y H Q => ∃ z n, x = .str z ∧ y = .int n ∧ PySem.MulOk z n ∧ Q (.str (Txt.mul z n)) H) := by
  intro pins s σ H x y v u Q I rx ry h
  obtain ⟨z, n, rfl, rfl, hz, q⟩ := h
  obtain ⟨t, rfl⟩ := rx
  obtain ⟨t', rfl⟩ := ry
  exact SB.mul hz fun t' tk => ⟨.str (Txt.mul z n), H, I.tok _, ⟨_, rfl⟩, q⟩
theorem opd_mulS : OpR X (binaryOp .Mult) (r2G X.K gMulS) := opImp op_mul_str fun x y H Q ⟨σ, F, ds, rv, fh, h, e, k⟩ => by
  obtain ⟨dx, dy, rfl, hx, hy⟩ := rd2 h
  cases hx <;> cases hy <;> simp only [gMulS] at e <;> first | (cases e; done) | skip
  split at e
  · rename_i hm
    cases e
    exact ⟨_, _, rfl, rfl, mulOk_small hm.1 hm.2.1 hm.2.2, k.atom (X := X) fh (.str _)⟩
  · cases e
end
/-- one letter, many times -/
theorem mul_letter (c n : Nat) : (Txt.mul ⟨#[c]⟩ (n : Int)).cps.toList = List.replicate n c := by
  have fl : ∀ (n : Nat) (acc : Array Nat), ((List.replicate n (#[c] : Array Nat)).foldl (· ++ ·) acc).toList = acc.toList ++ List.replicate n c := by
    intro n
    induction n with
    | zero => intro acc; simp
    | succ n ih => intro acc; rw [List.replicate_succ, List.foldl_cons, ih]; simp [List.replicate_succ]
  unfold Txt.mul
  by_cases h : (n : Int) < 1
  · have : n = 0 := by omega
    subst this
    rfl
  · rw [if_neg h]
    by_cases h1 : n = 1
    · subst h1; rfl
    · have : ¬ (((n : Int) == 1 || (⟨#[c]⟩ : Str).length == 0) = true) := by
        simp [Str.length]
        omega
      rw [if_neg this]
      show ((List.replicate (n : Int).toNat (#[c] : Array Nat)).foldl (· ++ ·) #[]).toList = _
      rw [fl]
      simp
end DX

/-! A comprehension over a list that is only read, its items tuples with owned parts. -/
namespace DX
open PySem PySem.Spec L2
open PyProof.Rows hiding St

/-- an item of what is only read -/
def Itm (K : PySem.W.Frag) (R F : Hp) (v : V) (d : D) : Prop := ∃ L, RepX K R F true v d L
theorem Itm.mono {K : PySem.W.Frag} {R F F' : Hp} {v : V} {d : D} (h : Itm K R F v d) (s : Same F F') : Itm K R F' v d := by
  obtain ⟨L, h⟩ := h
  exact ⟨L, h.mono (Same.refl R) s⟩
structure WalksR (K : PySem.W.Frag) (R : Hp) (J : It) (xs : List D) (G F0 : Hp) : Prop where
  go : ∀ i H, i < xs.length → Same G H → Same F0 H → J.go i H
  stop : ∀ i H, xs.length ≤ i → Same G H → Same F0 H → J.stop i H
  yld : ∀ i H F x H' d, Same G H → Same F0 F → Same F H → J.yld i H x H' → xs[i]? = some d → ∃ F', Same H H' ∧ Same F F' ∧ Same F' H' ∧ NewF H F F' ∧ Itm K R F' x d
theorem walksR_list {K : PySem.W.Frag} {R G F : Hp} {a : Addr} {vs : List V} {xs : List D} (hl : ∀ H, Same G H → SqL K H a vs) (hn : vs.length = xs.length) (hr : ∀ (i : Nat) (v : V) (x : D), vs[i]? = some v → xs[i]? = some x → Itm K R F v x) : WalksR K R (Itl K a) xs G F where
  go := fun i H hi gh fh => ⟨vs, vs[i]'(by rw [hn]; exact hi), hl H gh, List.getElem?_eq_getElem _⟩
  stop := fun i H hi gh fh => ⟨vs, hl H gh, by rw [hn]; exact hi⟩
  yld := fun i H F1 x H' d gh f1 fh y e => by
    obtain ⟨rfl, y⟩ := y
    have ev := y vs (hl H' gh)
    exact ⟨F1, Same.refl _, Same.refl _, fh, NewF.refl, (hr i x d ev e).mono f1⟩
def slotR : D → Slot
  | .ow d => .v .rd d
  | d => .v .fz d
def setRd : List Nat → List D → DEnv → Option DEnv
  | [], [], e => some e
  | i :: is, x :: xs, e => match e[i]? with
    | some s => if freeS s = true then setRd is xs (e.set i (slotR x)) else none
    | none => none
  | _, _, _ => none
def gTpR (is : List Nat) (t : D → DEnv → Option DEnv) : D → DEnv → Option DEnv
  | .ow (.dt xs), e => setRd is xs e
  | .ow _, _ => none
  | d, e => t d e
def dLcR (i : Nat) (t : D → DEnv → Option DEnv) (own : List Nat) (me : DEnv → ER) : DEnv → ER := fun env => match env[i]? with
  | some (.v .rd (.dl xs)) => lcL t own dYes me xs (forget own env) []
  | some (.v .rd (.lst xs)) => lcL t own dYes me xs (forget own env) []
  | _ => .err
section
variable {X : Cx} {R : Hp} {P : List (Option V)} {pos : Pos} {G H F : Hp} {σ σ' : St} {env : DEnv} {L : List Addr} {tg iter : Expr}
theorem lcR_go {W : WX} {own : List Nat} {J : It} {xs : List D} {t : D → DEnv → Option DEnv} {tt : DEnv → TR} {me : DEnv → ER} {g : TG} {tw : TT} {te : TE} {Q : VK}
    (hg : ∀ (G H F : Hp) (σ σ0 : St) (env env' : DEnv) (L : List Addr) (v : V) (d : D) (k : St → Hp → Prop), wipe σ own = σ0 → FI X.K R P G H F σ env L → Itm X.K R F v d → t d env = some env' →
      (∀ (σ' : St) (H' F' : Hp) (L' : List Addr), wipe σ' own = σ0 → FI X.K R P G H' F' σ' env' L' → Same F F' → NewF G F F' → k σ' H') → g v σ H k)
    (ht : ∀ (G H F : Hp) (σ : St) (env : DEnv) (L : List Addr) (Q : Bool → Hp → Prop), FI X.K R P G H F σ env L → PostT X W0 R P G F σ (tt env) Q → tw σ H Q)
    (he : ∀ (G H F : Hp) (σ : St) (env : DEnv) (L : List Addr) (Q : VK), FI X.K R P G H F σ env L → PostV X W0 R P G F σ (me env) Q → te σ H Q)
    (Wk : WalksR X.K R J xs G F) (I : FI X.K R P G H F σ (DX.forget own env) L) (q : PostV X W R P G F σ (lcL t own tt me xs (DX.forget own env) []) Q) (Da : Addr) (hD : H Da = none) :
    ∃ W' : Nat → Nat → Hp → Prop, (∃ m, W' 0 m (upd H Da (.lst []))) ∧ ∀ i m H, W' i m H → (J.stop i H ∧ Q (.ref Da) H) ∨ (J.go i H ∧ ∃ Nx : Hp → Prop, (∀ H', Nx H' → ∃ m', m' < m ∧ W' (i + 1) m' H') ∧
      ∀ x H', J.yld i H x H' → g x (wipe σ own) H' fun σ2 H2 => wipe σ2 own = wipe σ own ∧ tw σ2 H2 fun b H3 => if b = true then te σ2 H3 fun y H4 => ∃ acc, H4 Da = some (.lst acc) ∧ acc.length < sizeLine ∧ Nx (upd H4 Da (.lst (acc ++ [y]))) else Nx H3) := by
  have gD : G Da = none := I.gh.free hD
  have lD : ∀ {G2 : Hp} {F2 H2 : Hp} {σ2 : St} {e2 : DEnv} {L2 : List Addr}, FI X.K R P G2 H2 F2 σ2 e2 L2 → G2 Da ≠ none → Da ∉ L2 := fun I2 n z => n (I2.fr Da z).2
  let S : Nat → Hp → Prop := fun i H => ∃ (env : DEnv) (F1 : Hp) (L : List Addr) (vs : List V) (acc : List D), FI X.K R P G H F1 σ (DX.forget own env) L ∧ Same F F1 ∧ NewF G F F1 ∧ H Da = some (.lst vs) ∧ Reps X.K F1 vs acc ∧ Da ∉ L ∧ F1 Da = none ∧ PostV X W R P G F1 σ (lcL t own tt me (xs.drop i) (DX.forget own env) acc) Q
  refine ⟨fun i m H => m = xs.length - i ∧ i ≤ xs.length ∧ S i H, ⟨_, rfl, Nat.zero_le _, env, F, L, [], [], ?_, Same.refl F, NewF.refl, upd_same, ⟨rfl, fun _ _ _ e => by simp at e⟩, ?_, I.fh.free hD, by simpa using q⟩, ?_⟩
  · exact I.wr (I.fh.free hD) gD fun z => by obtain ⟨o, e, _⟩ := I.er.sub Da z; rw [hD] at e; cases e
  · exact fun z => by obtain ⟨o, e, _⟩ := I.er.sub Da z; rw [hD] at e; cases e
  rintro i m H ⟨rfl, hi, env, F1, L, vs, acc, I, ff, nf, hv, hr, nL, fD, q⟩
  by_cases hlt : i < xs.length
  · refine .inr ⟨Wk.go i H hlt I.gh (ff.trans I.fh), fun H' => i + 1 ≤ xs.length ∧ S (i + 1) H', fun H' h => ⟨xs.length - (i + 1), by omega, rfl, h⟩, fun x H' y => ?_⟩
    have ed : xs.drop i = xs[i] :: xs.drop (i + 1) := List.drop_eq_getElem_cons hlt
    rw [ed] at q
    unfold lcL at q
    have I' := I.held (Lr := [Da]) (List.nodup_cons.2 ⟨nL, I.nd⟩) (fun a ha => by obtain rfl := List.mem_singleton.1 ha; exact ⟨fD, gD⟩)
    have g2 : addG G H [Da] Da = some (.lst vs) := by rw [addG_in (by simp), hv]
    have g2n : addG G H [Da] Da ≠ none := by rw [g2]; simp
    have gg : Same G (addG G H [Da]) := addG_same fun a ha => by obtain rfl := List.mem_singleton.1 ha; exact gD
    have gl : ∀ a, addG G H [Da] a = none → G a = none := fun a e => gg.free e
    obtain ⟨F2, hh, f2, fh2, nw2, r2⟩ := Wk.yld i H F1 x H' xs[i] I.gh ff I.fh y (List.getElem?_eq_getElem hlt)
    have I2 := I'.ext hh f2 fh2 nw2
    have n2 := I'.newF nw2
    obtain ⟨L3, I3, _⟩ := I2.wipe (own := own)
    rw [forget_idem] at I3
    cases et : t xs[i] (DX.forget own env) with
    | none => rw [et] at q; exact q.elim
    | some e1 =>
      rw [et] at q
      dsimp only at q
      refine hg _ H' F2 _ (wipe σ own) _ e1 L3 x xs[i] _ (wipe_wipe σ own) I3 r2 et fun σ4 H4 F4 L4 w4 I4 s4 n4 => ⟨w4, ?_⟩
      have fin : ∀ {e5 : DEnv} {H5 F5 : Hp} {L5 : List Addr}, FI X.K R P (addG G H [Da]) H5 F5 σ4 e5 L5 → ∃ L6, FI X.K R P G H5 F5 σ (DX.forget own e5) L6 ∧ Da ∉ L6 := fun I5 => by
        obtain ⟨L6, I6⟩ := I5.forget (dead := own)
        exact ⟨L6, (I6.swap w4).less gg I.rg, lD I6 g2n⟩
      refine ht _ H4 F4 σ4 e1 L4 _ I4 ?_
      cases ett : tt e1 with
      | err => rw [ett] at q; exact q.elim
      | raise c e2 => rw [ett] at q; exact q.elim
      | ok b e2 =>
        rw [ett] at q
        intro H5 F5 L5 I5 s5 n5
        have s15 : Same F1 F5 := f2.trans (s4.trans s5)
        have n15 : NewF (addG G H [Da]) F1 F5 := n2.trans (n4.trans n5)
        cases b with
        | false =>
          rw [if_neg (by simp)]
          dsimp only at q
          obtain ⟨L6, I6, m6⟩ := fin I5
          have d5 : F5 Da = none := n15.out g2 (fun _ z => by cases z) fD
          have hv5 : H5 Da = some (.lst vs) := I5.gh _ _ g2
          exact ⟨hlt, e2, F5, L6, vs, acc, I6, ff.trans s15, nf.trans (n15.less gg), hv5, hr.mono s15, m6, d5, PostV.later s15 (n15.less gg) q⟩
        | true =>
          rw [if_pos rfl]
          dsimp only at q
          refine he _ H5 F5 σ4 e2 L5 _ I5 ?_
          cases eme : me e2 with
          | err => rw [eme] at q; exact q.elim
          | raise c e3 => rw [eme] at q; exact q.elim
          | ok rv e3 =>
            rw [eme] at q
            dsimp only at q
            intro v H6 F6 L6 Lr I6 s6 n6 r6 nd6 fr6
            cases ef : frzV e3 rv with
            | none => rw [ef] at q; exact q.elim
            | some p =>
              obtain ⟨d, e4⟩ := p
              rw [ef] at q
              dsimp only at q
              split at q
              · rename_i hsz
                obtain ⟨F7, L7, I7, s7, n7, r7, _, _⟩ := frzV_ok I6 r6 nd6 fr6 ef
                have s17 : Same F1 F7 := s15.trans (s6.trans s7)
                have n17 : NewF (addG G H [Da]) F1 F7 := n15.trans (n6.trans n7)
                obtain ⟨L8, I8, m8⟩ := fin I7
                have d7 : F7 Da = none := n17.out g2 (fun _ z => by cases z) fD
                refine ⟨vs, I7.gh _ _ g2, by rw [hr.1]; exact hsz, hlt, e4, F7, L8, vs ++ [v], acc ++ [d], I8.wr d7 gD m8, ff.trans s17, nf.trans (n17.less gg), upd_same, Reps.append (hr.mono s17) ⟨rfl, ?_⟩, m8, d7, PostV.later s17 (n17.less gg) q⟩
                intro j v' d' a b
                cases j with
                | zero => cases a; cases b; exact r7
                | succ j => simp at a
              · exact q.elim
  · have e : i = xs.length := by omega
    subst e
    rw [List.drop_length] at q
    refine .inl ⟨Wk.stop _ H (Nat.le_refl _) I.gh (ff.trans I.fh), ?_⟩
    exact q (.ref Da) H F1 L [Da] I (Same.refl F1) NewF.refl (.lst hv hr) (List.nodup_cons.2 ⟨nL, I.nd⟩) fun a ha => by obtain rfl := List.mem_singleton.1 ha; exact ⟨fD, gD⟩
def MGoR (X : Cx) (R : Hp) (P : List (Option V)) (own : List Nat) (tg : Expr) (t : D → DEnv → Option DEnv) : Prop :=
  ∀ (G H F : Hp) (σ σ0 : St) (env env' : DEnv) (L : List Addr) (v : V) (d : D) (k : St → Hp → Prop), wipe σ own = σ0 → FI X.K R P G H F σ env L → Itm X.K R F v d → t d env = some env' →
    (∀ (σ' : St) (H' F' : Hp) (L' : List Addr), wipe σ' own = σ0 → FI X.K R P G H' F' σ' env' L' → Same F F' → NewF G F F' → k σ' H') → tWg X tg v σ H k
theorem part_setR {v : V} {x : D} {Li : List Addr} {i : Nat} (I : FI X.K R P G H F σ env L) (r : RepX X.K R F true v x Li) (hi : i < env.length) :
    ∃ L', FI X.K R P G H F (σ.set i (some v)) (env.set i (slotR x)) L' := by
  cases r with
  | pf r =>
    have e : slotR x = .v .fz x := by cases r <;> rfl
    rw [e]
    obtain ⟨L', I', _⟩ := I.putFz r hi
    exact ⟨L', I'⟩
  | @po _ d _ r =>
    obtain ⟨L', e, m, n⟩ := I.er.set (Lr := []) (o := some v) (s := .v .rd d) (fun _ _ _ _ t => .rd (.inr ⟨_, r⟩) t) hi
    have m' : ∀ a ∈ L', a ∈ L := fun a ha => (m a ha).elim (fun z => nomatch z) id
    exact ⟨L', I.fh, I.gh, I.rg, e, n (by simpa using I.nd), fun a ha => I.fr a (m' a ha)⟩
theorem partsR_ok {own : List Nat} {es : List Expr} {is : List Nat} (h : MNs X es is) : ∀ {σ σ0 : St} {env env' : DEnv} {L : List Addr} {vs : List V} {xs : List D} {Ls : List (List Addr)} {k : St → Hp → Prop}, (∀ i ∈ is, i ∈ own) → wipe σ own = σ0 → FI X.K R P G H F σ env L → Parts X.K R F vs xs Ls →
    setRd is xs env = some env' → (∀ (σ' : St) (H' F' : Hp) (L' : List Addr), wipe σ' own = σ0 → FI X.K R P G H' F' σ' env' L' → Same F F' → NewF G F F' → k σ' H') → tWgs X es vs σ H k ∧ vs.length = es.length := by
  induction h with
  | nil =>
    intro σ σ0 env env' L vs xs Ls k ho hw I ps e q
    cases xs with
    | nil => cases e; cases vs with
      | nil => exact ⟨⟨rfl, q _ _ _ _ hw I (Same.refl F) NewF.refl⟩, rfl⟩
      | cons v vs => have := ps.1; simp at this
    | cons d ds => cases e
  | @cons e0 i es is h0 hr ih =>
    intro σ σ0 env env' L vs xs Ls k ho hw I ps e q
    cases xs with
    | nil => cases e
    | cons x xs =>
      cases vs with
      | nil => have := ps.1; simp at this
      | cons v vs =>
        cases Ls with
        | nil => have := ps.2.1; simp at this
        | cons Li Ls =>
          unfold setRd at e
          cases ei : env[i]? with
          | none => rw [ei] at e; cases e
          | some s =>
            rw [ei] at e
            dsimp only at e
            split at e
            · have r0 := ps.2.2 0 v x Li rfl rfl rfl
              have rr : Parts X.K R F vs xs Ls := ⟨by have := ps.1; simpa using this, by have := ps.2.1; simpa using this, fun i v x Li a b c => ps.2.2 (i + 1) v x Li (by simpa using a) (by simpa using b) (by simpa using c)⟩
              obtain ⟨L', I'⟩ := part_setR I r0 (getElem?_lt ei)
              obtain ⟨t, l⟩ := ih (σ0 := σ0) (fun j hj => ho j (List.mem_cons_of_mem _ hj)) (by rw [wipe_put (ho i List.mem_cons_self), hw]) I' rr e q
              exact ⟨⟨v, vs, rfl, h0 v σ H _ t⟩, by simp [l]⟩
            · cases e
theorem mgoR_tup {own : List Nat} {es : List Expr} {k : Nat} {is : List Nat} {ts : List (D → DEnv → Option DEnv)} (hc : X.calm = true) (h : MGos X R P own es ts) (hg : MNs X es is) (ho : ∀ i ∈ is, i ∈ own) (hp : PGs X es (tWgs X es)) (hn : (assignEach es X.env).length = es.length := by rfl) (hst : (assignEach es X.env).findIdx? (·.1) = none := by rfl) : MGoR X R P own (.Tuple es k pos) (gTpR is (gTp ts)) := by
  intro G H F σ σ0 env env' L v d k hw I r e q
  obtain ⟨Li, r⟩ := r
  cases r with
  | pf r =>
    have e2 : gTp ts d env = some env' := by cases r <;> exact e
    exact mgo_tup hc h hp hn hst G H F σ σ0 env env' L v d k hw I r e2 q
  | po r =>
    cases r with
    | @dt a vs xs Ls ha hk hl hi =>
      have pk := partsR_ok hg ho hw I ⟨hk, hl, hi⟩ e q
      exact wg_of (pg_tup hc hp hn hst) ⟨_, _, rfl, SqT.mono I.fh (.inl (.inl ha)), pk.2, pk.1⟩
    | _ => cases e
theorem lc_rd {W : WX} {scope : Scope} {own : List (Str × Nat)} {elt : Expr} {i : Nat} {t : D → DEnv → Option DEnv} {me : DEnv → ER} {Q : VK} (hi : ME X W R P iter (dVar i))
    (hg : Blk X scope fun Y => MGoR Y R P (own.map (·.2)) tg t) (he : Blk X scope fun Y => ME Y W0 R P elt me)
    (I : FI X.K R P G H F σ env L) (q : PostV X W R P G F σ (dLcR i t (own.map (·.2)) me env) Q) : tLc (iList X.K (tW X iter)) (aLc X scope tg elt).1 tYes (aLc X scope tg elt).2 (own.map (·.2)) σ H Q := by
  have go : ∀ {dd : D} {a : Addr} {vs : List V} {xs : List D}, env[i]? = some (.v .rd dd) → σ[i]? = some (some (.ref a)) → (∀ H, Same G H → SqL X.K H a vs) → vs.length = xs.length → (∀ (i : Nat) (v : V) (x : D), vs[i]? = some v → xs[i]? = some x → Itm X.K R F v x) → PostV X W R P G F σ (lcL t (own.map (·.2)) dYes me xs (forget (own.map (·.2)) env) []) Q →
      tLc (iList X.K (tW X iter)) (aLc X scope tg elt).1 tYes (aLc X scope tg elt).2 (own.map (·.2)) σ H Q := fun {dd a vs xs} e es hl hn hr q => by
    refine me_run hi I ?_
    have ev : dVar i env = .ok (.br i) env := by unfold dVar; rw [e]
    rw [ev]
    intro v H' F' L' Lr I' s n r nd fr
    have ev : v = .ref a := by
      have := r.2; rw [es] at this; simpa using this.symm
    subst ev
    refine ⟨a, rfl, ⟨vs, hl H' I'.gh⟩, ?_⟩
    intro D hD
    obtain ⟨L3, I4⟩ := I'.forget (dead := own.map (·.2))
    exact lcR_go (g := (aLc X scope tg elt).1) (tw := tYes) (te := (aLc X scope tg elt).2) (fun G H F σ σ0 env env' L v d k hw I r e q s0 H0 C cl fp => hg s0 H0 C cl fp G H F σ σ0 env env' L v d k hw I r e q) tt_yes
      (fun G H F σ env L Q I q s0 H0 C cl fp => he s0 H0 C cl fp G H F σ env L Q I q) (walksR_list hl hn fun i v x a b => (hr i v x a b).mono s) I4 (PostV.later s n q) D hD
  unfold dLcR at q
  split at q
  · rename_i xs e
    obtain ⟨v, e1, _⟩ := slot_read I e
    have rr := rd_slot I.er e e1
    rcases rr with r | ⟨L2, r⟩
    · cases r
    · cases r with
      | @dl a vs _ Ls h hk hl hi' =>
        exact go e e1 (fun H gh => .inl (.inl (I.rg.trans gh _ _ h))) hk (fun i v x a b => by
          have hli : i < Ls.length := by rw [hl]; exact (List.getElem?_eq_some_iff.1 a).1
          exact ⟨_, hi' i v x _ a b (List.getElem?_eq_getElem hli)⟩) q
  · rename_i xs e
    obtain ⟨v, e1, _⟩ := slot_read I e
    have rr := rd_slot I.er e e1
    rcases rr with r | ⟨L2, r⟩
    · cases r with
      | @lst a vs _ h hi' => exact go e e1 (fun H gh => .inl (Rd.mono (I.rg.trans gh) h)) hi'.1 (fun i v x a b => ⟨[], .pf (hi'.2 i v x a b)⟩) q
    · cases r with
      | @lst a vs _ h hi' => exact go e e1 (fun H gh => .inl (.inl (I.rg.trans gh _ _ h))) hi'.1 (fun i v x a b => ⟨[], .pf (hi'.2 i v x a b)⟩) q
  · exact q.elim
theorem me_lcR {W : WX} {elt : Expr} {scope : Scope} {own : List (Str × Nat)} {i : Nat} {t : D → DEnv → Option DEnv} {me : DEnv → ER} (hc : X.calm = true) (hN : X.N.Nodup) (hi : ME X W R P iter (dVar i)) (ok : BlkOk X.N X.env.scope scope own)
    (hg : Blk X scope fun Y => MGoR Y R P (own.map (·.2)) tg t) (he : Blk X scope fun Y => ME Y W0 R P elt me) (hs : ∀ x, foldedSetIterable iter X.env x = pure x := by intro _; rfl) :
    ME X W R P (.ListComp elt [⟨tg, iter, [], 0⟩] scope pos) (dLcR i t (own.map (·.2)) me) := by
  intro G H F σ env L Q I q
  exact w_of (pe_lc (g := (aLc X scope tg elt).1) (tt := tYes) (te := (aLc X scope tg elt).2) hc hN (pi_list pe_w) ok (fun s H C cl fp => ⟨fun pins s1 σ H1 v u Q I r h => h s H C cl fp pins s1 u I r⟩) (fun _ _ _ _ _ => pts_nil) (fun s H C cl fp => ⟨fun pins s1 σ H1 Q I h => h s H C cl fp pins s1 I⟩) hs)
    (lc_rd hi hg he I q)
end
end DX
namespace DX
open PySem PySem.Spec L2
open PyProof.Rows hiding St
/-- x.clear(), x a list of owned items -/
def dClrO (i : Nat) : DEnv → ER := fun env => match env[i]? with
  | some (.v .ow (.dl _)) => .ok (.fz .non) (env.set i (.v .ow (.dl [])))
  | _ => .err
theorem me_clrO {X : Cx} {W : WX} {R : Hp} {P : List (Option V)} {i : Nat} {x : Str} {xp apos cpos : Pos} (hN : X.N[i]? = some x := by rfl) (hv : Vis X.env.scope x := by first | exact Or.inl rfl | exact Or.inr (Or.inl rfl) | exact Or.inr (Or.inr rfl))
    (hd : (x == ("__debug__" : Str)) = false := by decide) (hcd : (x == ("__classdict__" : Str)) = false := by decide)
    (hbase : attributeBase (.Name x xp) "clear" X.env (eval (.Name x xp) X.env) = eval (.Name x xp) X.env := by rfl) (hline : (apos.endLine == cpos.line) = true := by rfl) :
    ME X W R P (.Call (.Attribute (.Name x xp) "clear" apos) [] [] cpos) (dClrO i) := by
  intro G H F σ env L Q I q
  refine w_of (pe_bm0 PySem.F.plainAttrs_list PySem.F.slot_list_clear PySem.F.type_list_clear mt_clear (pe_var hN hv hd hcd) hbase hline) ?_
  unfold dClrO at q
  split at q
  · rename_i xs e2
    obtain ⟨w, La, L3, e3, ro, pm, I3⟩ := I.take (.inl rfl) e2
    cases ro with
    | @dl a vs _ Ls h hk hl hi =>
      have ndq := pm.nodup_iff.1 I.nd
      have ndq' := List.nodup_append.1 ndq
      have aL3 : a ∉ L3 := fun z => ndq'.2.2 a List.mem_cons_self a z rfl
      have fa := I.fr a (pm.mem_iff.2 (List.mem_append_left _ List.mem_cons_self))
      refine ⟨.ref a, e3, .inl ⟨rfl, _, .inl (.inl h)⟩, a, vs, rfl, rfl, h, ?_⟩
      have I4 := I3.updOut (o := .lst []) aL3 fa.1 fa.2
      obtain ⟨L5, er5, p5⟩ := I4.er.fill (i := i) (m := .ow) (.inl rfl) (List.getElem?_set_self (getElem?_lt e2)) e3 (RepX.dl (xs := []) (Ls := []) upd_same rfl rfl (fun _ _ _ _ a => by simp at a))
      rw [List.set_set] at er5
      have I5 := I4.envTo er5 (p5.nodup_iff.2 (List.nodup_append.2 ⟨by simp, I3.nd, fun b hb c hc z => by
        have : b = a := by simpa using hb
        subst this; subst z; exact aL3 hc⟩)) fun b hb => by
        rcases List.mem_append.1 (p5.mem_iff.1 hb) with z | z
        · have : b = a := by simpa using z
          subst this; exact fa
        · exact I4.fr b z
      exact POk.now q I5 .non
  · exact q.elim
end DX

namespace DX
open PySem PySem.Spec L2
open PyProof.Rows hiding St

/-- numbers below 2 to the k -/
def Bd (k : Nat) (a : Int) : Prop := a.natAbs < 2 ^ k
theorem Bd.mono {k m : Nat} {a : Int} (h : Bd k a) (l : k ≤ m) : Bd m a := Nat.lt_of_lt_of_le h (Nat.pow_le_pow_right (by decide) l)
theorem Bd.le {k : Nat} {a b : Int} (h : Bd k a) (l : b.natAbs ≤ a.natAbs) : Bd k b := Nat.lt_of_le_of_lt l h
theorem Bd.add {k m n : Nat} {a b : Int} (ha : Bd k a) (hb : Bd m b) (h1 : k + 1 ≤ n) (h2 : m + 1 ≤ n) : Bd n (a + b) := by
  have ha := Bd.mono (m := n - 1) ha (by omega)
  have hb := Bd.mono (m := n - 1) hb (by omega)
  unfold Bd at *
  have e : 2 ^ n = 2 ^ (n - 1) + 2 ^ (n - 1) := by
    obtain ⟨j, rfl⟩ : ∃ j, n = j + 1 := ⟨n - 1, by omega⟩
    rw [Nat.pow_succ]; simp; omega
  omega
theorem Bd.neg {k : Nat} {a : Int} (h : Bd k a) : Bd k (-a) := by unfold Bd at *; omega
theorem Bd.sub {k m n : Nat} {a b : Int} (ha : Bd k a) (hb : Bd m b) (h1 : k + 1 ≤ n) (h2 : m + 1 ≤ n) : Bd n (a - b) := by
  rw [Int.sub_eq_add_neg]; exact ha.add hb.neg h1 h2
theorem Bd.mul {k m n : Nat} {a b : Int} (ha : Bd k a) (hb : Bd m b) (h1 : k + m ≤ n) : Bd n (a * b) := by
  refine Bd.mono (k := k + m) (m := n) ?_ h1
  unfold Bd at *
  rw [Int.natAbs_mul, Nat.pow_add]
  exact Nat.mul_lt_mul'' ha hb
theorem log2_le_of {k n : Nat} (h : n < 2 ^ k) : n.log2 ≤ k := by
  by_cases e : n = 0
  · subst e; simp [Nat.log2_zero]
  · exact Nat.le_of_lt ((Nat.log2_lt e).2 h)
theorem mulOk {k m : Nat} {a b : Int} (ha : Bd k a) (hb : Bd m b) (h : k + m < 134217720) : MulOk a b := Nat.lt_of_le_of_lt (Nat.add_le_add (log2_le_of ha) (log2_le_of hb)) h
theorem divOk {k : Nat} {b : Int} (hb : Bd k b) (h0 : 0 < b) (h : k < 9000) : DivOk b := ⟨h0, Nat.lt_of_le_of_lt (log2_le_of hb) h⟩
theorem gMul_ok {k m : Nat} {a b : Int} (ha : Bd k a) (hb : Bd m b) (h : k + m < 134217720) : gMul [.int a, .int b] = some (.fz (.int (a * b))) := if_pos (mulOk ha hb h)
theorem gDiv_ok {k : Nat} {a b : Int} (hb : Bd k b) (h0 : 0 < b) (h : k < 9000) : gDiv [.int a, .int b] = some (.fz (.int (a / b))) := if_pos (divOk hb h0 h)
theorem gMod_ok {a b : Int} (h0 : 0 < b) : gMod [.int a, .int b] = some (.fz (.int (a % b))) := if_pos h0
theorem bd_small (k : Nat) {a : Int} (h : a.natAbs < 2 ^ k) : Bd k a := h
theorem Bd.ediv {k : Nat} {a b : Int} (h : Bd k a) : Bd k (a / b) := h.le (Int.natAbs_ediv_le_natAbs a b)
theorem Bd.emod {k : Nat} {a b : Int} (h0 : 0 < b) (h : Bd k b) : Bd k (a % b) := by
  unfold Bd at *
  have := Int.emod_nonneg a (Int.ne_of_gt h0)
  have := Int.emod_lt_of_pos a h0
  omega

theorem deq_int (a b : Int) : deq (.int a) (.int b) = some (decide (a = b)) := by
  show some (a == b) = _
  rfl
theorem gEq_int (a b : Int) : gEq [.int a, .int b] = some (.fz (.bl (decide (a = b)))) := rfl
theorem gNe_int (a b : Int) : gNe [.int a, .int b] = some (.fz (.bl (!decide (a = b)))) := rfl
theorem gLt_int (a b : Int) : gLt [.int a, .int b] = some (.fz (.bl (decide (a < b)))) := rfl
theorem gGt_int (a b : Int) : gGt [.int a, .int b] = some (.fz (.bl (decide (b < a)))) := rfl
theorem gLe_int (a b : Int) : gLe [.int a, .int b] = some (.fz (.bl (decide (a ≤ b)))) := rfl
theorem gGe_int (a b : Int) : gGe [.int a, .int b] = some (.fz (.bl (decide (b ≤ a)))) := rfl

/-- a loop whose body always goes on -/
theorem forL_inv {t : D → DEnv → Option DEnv} {dead : List Nat} {body : DEnv → FR} (Inv : Nat → DEnv → Prop) :
    ∀ (xs : List D) (n : Nat) (env : DEnv), Inv n env →
      (∀ (i : Nat) (x : D) (e : DEnv), xs[i]? = some x → Inv (n + i) e → ∃ e1 e2, t x (forget dead e) = some e1 ∧ (body e1 = .next e2 ∨ body e1 = .cnt e2) ∧ Inv (n + i + 1) e2) →
      ∃ e, forL t dead body xs env = .next (forget dead e) ∧ Inv (n + xs.length) e
  | [], n, env, h, _ => ⟨env, rfl, h⟩
  | x :: xs, n, env, h, st => by
    obtain ⟨e1, e2, h1, h2, h3⟩ := st 0 x env rfl h
    obtain ⟨e, r, ri⟩ := forL_inv Inv xs (n + 1) e2 h3 fun i y e' hy hi => by
      have := st (i + 1) y e' hy (by rwa [show n + (i + 1) = n + 1 + i by omega])
      rwa [show n + (i + 1) + 1 = n + 1 + i + 1 by omega] at this
    refine ⟨e, ?_, by rwa [List.length_cons, show n + (xs.length + 1) = n + 1 + xs.length by omega]⟩
    simp only [forL, h1]
    rcases h2 with h2 | h2 <;> simp only [h2, r]

theorem atI_nn {α : Type} (xs : List α) (i : Nat) : atI xs (i : Int) = xs[i]? := by
  unfold atI ixN
  rw [if_pos (Int.natCast_nonneg i)]
  by_cases h : i < xs.length
  · rw [if_pos (by omega)]; simp
  · rw [if_neg (by omega)]; simp [List.getElem?_eq_none (Nat.le_of_not_lt h)]
def rng (n : Nat) : List D := (List.range n).map fun k => D.int (k : Nat)
theorem rng_get {n i : Nat} {x : D} (h : (rng n)[i]? = some x) : x = .int (i : Nat) ∧ i < n := by
  simp only [rng, List.getElem?_map, Option.map_eq_some_iff] at h
  obtain ⟨j, hj, rfl⟩ := h
  obtain ⟨hi, rfl⟩ := List.getElem?_eq_some_iff.1 hj
  simp only [List.length_range] at hi
  exact ⟨by simp, hi⟩
theorem rng_len (n : Nat) : (rng n).length = n := by simp [rng]
noncomputable def forR1 (rv : Val) (t : D → DEnv → Option DEnv) (dead : List Nat) (mb : DEnv → FR) (e1 : DEnv) : FR := match rv with
  | .fz (.int j) => @ite _ (-(2 ^ 62) ≤ j ∧ j < 2 ^ 62) (Classical.propDecidable _) (forL t dead mb ((List.range j.toNat).map fun k => D.int (0 + (k : Nat))) e1) .err
  | _ => .err
theorem dForR1_eq (m : DEnv → ER) (t : D → DEnv → Option DEnv) (dead : List Nat) (mb : DEnv → FR) (env : DEnv) : dForR1 m t dead mb env = (m env).thn fun rv e1 => forR1 rv t dead mb e1 := by
  unfold dForR1
  congr
theorem forR1_nat {n : Nat} (h : n < 4611686018427387904) (t : D → DEnv → Option DEnv) (dead : List Nat) (mb : DEnv → FR) (e1 : DEnv) : forR1 (.fz (.int (n : Nat))) t dead mb e1 = forL t dead mb (rng n) e1 := by
  simp only [forR1, rng]
  rw [if_pos (by omega)]
  simp
/-- a loop over range whose body always goes on -/
theorem forRng {t : D → DEnv → Option DEnv} {dead : List Nat} {body : DEnv → FR} (Inv : Nat → DEnv → Prop) (n : Nat) (env : DEnv) (h0 : Inv 0 env)
    (st : ∀ (i : Nat) (e : DEnv), i < n → Inv i e → ∃ e1 e2, t (.int (i : Nat)) (forget dead e) = some e1 ∧ (body e1 = .next e2 ∨ body e1 = .cnt e2) ∧ Inv (i + 1) e2) :
    ∃ e, forL t dead body (rng n) env = .next (forget dead e) ∧ Inv n e := by
  have := forL_inv Inv (rng n) 0 env h0 fun i x e hx hi => by
    obtain ⟨rfl, hn⟩ := rng_get hx
    rw [Nat.zero_add] at hi ⊢
    exact st i e hn hi
  simpa [rng_len] using this
theorem atI_0 {α : Type} (xs : List α) : atI xs 0 = xs[0]? := atI_nn xs 0
theorem atI_1 {α : Type} (xs : List α) : atI xs 1 = xs[1]? := atI_nn xs 1
theorem atI_lit {α : Type} (xs : List α) (n : Nat) : atI xs (no_index (OfNat.ofNat n) : Int) = xs[(OfNat.ofNat n : Nat)]? := atI_nn xs n
theorem Bd.lit {k : Nat} {a : Int} (h : a.natAbs.blt (2 ^ k) = true := by decide) : Bd k a := by
  have e := Nat.blt_eq (x := a.natAbs) (y := 2 ^ k)
  unfold Bd
  exact e ▸ h
theorem int_abs (a : Int) : (if a < 0 then -a else a) = (a.natAbs : Int) := by split <;> omega
theorem gMax1 (n : Nat) : gMax [.int 1, .int (n : Nat)] = some (.fz (.int ((max 1 n : Nat) : Int))) := by
  simp only [gMax]
  congr 3
  split <;> omega
theorem cutL_len {α : Type} (xs : List α) (lo hi : Option Int) : (cutL xs lo hi).length ≤ xs.length := by simp [cutL]; omega
theorem gSlice_scr (ns : List Int) (lo hi : Option Int) : gSlice lo hi (.scr ns) = some (.tmp (.lst ((cutL ns lo hi).map D.int))) := rfl
theorem share_key {k m : Nat} {a b : Int} (hb : 0 < b) (Ba : Bd k a) (Bb : Bd m b) : 0 < b / (Int.gcd a b : Nat) ∧ Int.gcd (a / (Int.gcd a b : Nat)) (b / (Int.gcd a b : Nat)) = 1 ∧ a / (Int.gcd a b : Nat) * b = a * (b / (Int.gcd a b : Nat)) ∧ Bd k (a / (Int.gcd a b : Nat)) ∧ Bd m (b / (Int.gcd a b : Nat)) := by
  have hg : 0 < Int.gcd a b := Int.gcd_pos_of_ne_zero_right a (by omega)
  have d1 : (Int.gcd a b : Int) ∣ a := Int.gcd_dvd_left a b
  have d2 : (Int.gcd a b : Int) ∣ b := Int.gcd_dvd_right a b
  obtain ⟨x, hx⟩ := d1
  obtain ⟨y, hy⟩ := d2
  have hgi : (0 : Int) < (Int.gcd a b : Nat) := by omega
  have ex : a / (Int.gcd a b : Nat) = x := Int.ediv_eq_of_eq_mul_right (by omega) hx
  have ey : b / (Int.gcd a b : Nat) = y := Int.ediv_eq_of_eq_mul_right (by omega) hy
  refine ⟨?_, ?_, ?_, Ba.ediv, Bb.ediv⟩
  · rw [ey]
    rw [hy] at hb
    exact Int.pos_of_mul_pos_right hb (by omega)
  · rw [ex, ey]
    have e1 : Int.gcd a b = Int.gcd ((Int.gcd a b : Nat) * x) ((Int.gcd a b : Nat) * y) := by rw [← hx, ← hy]
    rw [Int.gcd_mul_left, Int.natAbs_natCast] at e1
    exact Nat.eq_of_mul_eq_mul_left hg (by omega)
  · rw [ex, ey]
    generalize (Int.gcd a b : Int) = g at hx hy
    grind

theorem lowest_eq {p q r s : Int} (hq : 0 < q) (hs : 0 < s) (h1 : Int.gcd p q = 1) (h2 : Int.gcd r s = 1) (e : r * q = p * s) : r = p ∧ s = q := by
  have en : r.natAbs * q.natAbs = p.natAbs * s.natAbs := by rw [← Int.natAbs_mul, ← Int.natAbs_mul, e]
  have c1 : Nat.Coprime q.natAbs p.natAbs := by rw [Nat.coprime_comm]; exact h1
  have c2 : Nat.Coprime s.natAbs r.natAbs := by rw [Nat.coprime_comm]; exact h2
  have d1 : s.natAbs ∣ q.natAbs := c2.dvd_of_dvd_mul_left ⟨p.natAbs, by rw [en, Nat.mul_comm]⟩
  have d2 : q.natAbs ∣ s.natAbs := c1.dvd_of_dvd_mul_left ⟨r.natAbs, by rw [← en, Nat.mul_comm]⟩
  have es : s = q := by have := Nat.dvd_antisymm d1 d2; omega
  subst es
  exact ⟨Int.eq_of_mul_eq_mul_right (by omega) e, rfl⟩
theorem gEq_pair (a b c d : Int) : gEq [.tup [.int a, .int b], .tup [.int c, .int d]] = some (.fz (.bl (decide (a = c) && (decide (b = d) && true)))) := rfl
theorem gNe_pair (a b c d : Int) : gNe [.tup [.int a, .int b], .tup [.int c, .int d]] = some (.fz (.bl (!(decide (a = c) && (decide (b = d) && true))))) := rfl
/-- a comprehension whose element is told of each one alone -/
theorem lcL_all {t : D → DEnv → Option DEnv} {own : List Nat} {me : DEnv → ER} {env : DEnv} (Q : D → D → Prop) : ∀ (xs acc : List D), acc.length + xs.length ≤ sizeLine →
    (∀ x ∈ xs, ∃ e1 rv e3 d e4, t x env = some e1 ∧ me e1 = .ok rv e3 ∧ frzV e3 rv = some (d, e4) ∧ forget own e4 = env ∧ Q x d) →
    ∃ ys, lcL t own dYes me xs env acc = .ok (.tmp (.lst (acc ++ ys))) env ∧ ys.length = xs.length ∧ ∀ (i : Nat) (x y : D), xs[i]? = some x → ys[i]? = some y → Q x y
  | [], acc, _, _ => ⟨[], by simp [lcL], rfl, fun i x y h => by simp at h⟩
  | x :: xs, acc, hl, h => by
    obtain ⟨e1, rv, e3, d, e4, h1, h2, h3, h4, h5⟩ := h x List.mem_cons_self
    rw [List.length_cons] at hl
    obtain ⟨ys, r, l, q⟩ := lcL_all Q xs (acc ++ [d]) (by rw [List.length_append]; simp; omega) fun y hy => h y (List.mem_cons_of_mem _ hy)
    have hlt : acc.length < sizeLine := by omega
    refine ⟨d :: ys, ?_, by simp [l], fun i x' y' a b => ?_⟩
    · simp only [lcL, h1, dYes, h2, h3, h4, hlt, if_true]
      rw [r]
      simp
    · cases i with
      | zero => cases a; cases b; exact h5
      | succ i => exact q i x' y' (by simpa using a) (by simpa using b)
theorem lcm_step {low q : Int} (h1 : 0 < low) (h2 : 0 < q) : 0 < low * (q / (Int.gcd low q : Nat)) ∧ q ∣ low * (q / (Int.gcd low q : Nat)) ∧ low * (q / (Int.gcd low q : Nat)) ≤ low * q := by
  have hg : 0 < Int.gcd low q := Int.gcd_pos_of_ne_zero_right low (by omega)
  obtain ⟨u, hu⟩ : (Int.gcd low q : Int) ∣ low := Int.gcd_dvd_left low q
  obtain ⟨v, hv⟩ : (Int.gcd low q : Int) ∣ q := Int.gcd_dvd_right low q
  have hgi : (0 : Int) < (Int.gcd low q : Nat) := by omega
  have ev : q / (Int.gcd low q : Nat) = v := Int.ediv_eq_of_eq_mul_right (by omega) hv
  rw [ev]
  have hv0 : 0 < v := Int.pos_of_mul_pos_right (by rw [← hv]; exact h2) (by omega)
  refine ⟨Int.mul_pos h1 hv0, ⟨u, ?_⟩, ?_⟩
  · generalize (Int.gcd low q : Int) = g at hu hv
    grind
  · refine Int.mul_le_mul_of_nonneg_left ?_ (by omega)
    rw [← ev]
    exact Int.ediv_le_self _ (by omega)
theorem mR1_nat {n : Nat} (h : n < 4611686018427387904) (env : DEnv) : mR1 (dC (.int (n : Nat))) env = .ok (rng n) env := by
  simp only [mR1, dC]
  rw [if_pos (by omega)]
  simp [rng]
theorem forR1_two (t : D → DEnv → Option DEnv) (dead : List Nat) (mb : DEnv → FR) (e : DEnv) : forR1 (.fz (.int 2)) t dead mb e = forL t dead mb [.int 0, .int 1] e := forR1_nat (n := 2) (by decide) t dead mb e
end DX

namespace DX
open PySem PySem.Spec L2
open PyProof.Rows hiding St

/-! ### rows of texts -/
abbrev TRow : Type := List Str
def row (r : TRow) : D := .tup (r.map .str)
def cpsL (z : Str) : List Nat := z.cps.toList
theorem cpsL_inj {a b : Str} (h : cpsL a = cpsL b) : a = b := by
  cases a; cases b; congr 1; exact Array.toList_inj.1 h
theorem cpsL_map_inj : ∀ {xs ys : TRow}, xs.map cpsL = ys.map cpsL → xs = ys
  | [], [], _ => rfl
  | [], _ :: _, h => by simp at h
  | _ :: _, [], h => by simp at h
  | x :: xs, y :: ys, h => by
    simp only [List.map_cons, List.cons.injEq] at h
    rw [cpsL_inj h.1, cpsL_map_inj h.2]
theorem pyD_row (r : TRow) : pyD (row r) = .tuple (r.map .str) := by
  show PyData.tuple ((r.map D.str).map (pyN 3)) = _
  rw [List.map_map]
  rfl
theorem rowLt_strs : ∀ xs ys : TRow, PySem.W.rowLt (xs.map .str) (ys.map .str) = decide (xs.map cpsL < ys.map cpsL)
  | [], [] => by
    have e : PySem.W.rowLt [] [] = false := PyProof.Rows.lex_irrefl _
    simp [e]
  | [], y :: ys => by
    have e : PySem.W.rowLt [] (PyData.str y :: ys.map .str) = true := by
      unfold PySem.W.rowLt
      rw [PySem.W.toks_all_cons]
      simp only [PySem.W.keyToksAll]
      rw [PyProof.Rows.lex_diff (O := PyProof.Rows.itemOrd) (by simp)]
      rfl
    simpa using e
  | x :: xs, [] => by
    have e : PySem.W.rowLt (PyData.str x :: xs.map .str) [] = false := by
      unfold PySem.W.rowLt
      rw [PySem.W.toks_all_cons]
      simp only [PySem.W.keyToksAll]
      rw [PyProof.Rows.lex_diff (O := PyProof.Rows.itemOrd) (by simp)]
      rfl
    simpa using e
  | x :: xs, y :: ys => by
    have e : PySem.W.rowLt (PyData.str x :: xs.map .str) (PyData.str y :: ys.map .str) = if x = y then PySem.W.rowLt (xs.map .str) (ys.map .str) else decide (cpsL x < cpsL y) := by
      unfold PySem.W.rowLt
      rw [PySem.W.dataLt_cons (by simp [PySem.W.alike]), PySem.W.dataLt_str]
      simp only [PyData.eqv, beq_iff_eq]
      rfl
    show PySem.W.rowLt (PyData.str x :: xs.map .str) (PyData.str y :: ys.map .str) = _
    rw [e]
    by_cases h : x = y
    · rw [if_pos h, rowLt_strs xs ys]
      simp [h, List.cons_lt_cons_iff]
    · rw [if_neg h]
      have : ¬ cpsL x = cpsL y := fun q => h (cpsL_inj q)
      simp [this, List.cons_lt_cons_iff]
def leRow (a b : TRow) : Bool := leD (row a) (row b)
theorem leRow_eq (a b : TRow) : leRow a b = decide (a.map cpsL ≤ b.map cpsL) := by
  show (!PySem.W.dataLt (pyD (row b)) (pyD (row a))) = _
  rw [pyD_row, pyD_row, PySem.W.dataLt_tuple]
  show (!PySem.W.rowLt (b.map .str) (a.map .str)) = _
  rw [rowLt_strs]
  by_cases h : b.map cpsL < a.map cpsL
  · have h' : ¬ a.map cpsL ≤ b.map cpsL := fun r => List.not_lt.mpr r h
    simp [h, h']
  · have h' : a.map cpsL ≤ b.map cpsL := List.not_lt.mp h
    simp [h, h']
theorem leRow_trans (a b c : TRow) (h1 : leRow a b = true) (h2 : leRow b c = true) : leRow a c = true := by
  rw [leRow_eq, decide_eq_true_eq] at *
  exact List.le_trans h1 h2
theorem leRow_total (a b : TRow) : (leRow a b || leRow b a) = true := by
  rw [leRow_eq, leRow_eq, Bool.or_eq_true, decide_eq_true_eq, decide_eq_true_eq]
  exact List.le_total _ _
theorem leRow_anti (a b : TRow) (h1 : leRow a b = true) (h2 : leRow b a = true) : a = b := by
  rw [leRow_eq, decide_eq_true_eq] at *
  exact cpsL_map_inj (List.le_antisymm h1 h2)
def sortRows (xs : List TRow) : List TRow := xs.mergeSort leRow
theorem sortRows_perm {xs ys : List TRow} (p : xs.Perm ys) : sortRows xs = sortRows ys := by
  refine List.Perm.eq_of_pairwise (le := fun a b => leRow a b = true) (fun a b _ _ h1 h2 => leRow_anti a b h1 h2) ?_ ?_ (((List.mergeSort_perm xs leRow).trans p).trans (List.mergeSort_perm ys leRow).symm)
  · exact List.pairwise_mergeSort (fun a b c => leRow_trans a b c) leRow_total xs
  · exact List.pairwise_mergeSort (fun a b c => leRow_trans a b c) leRow_total ys
theorem sortRows_mem {xs : List TRow} {r : TRow} : r ∈ sortRows xs ↔ r ∈ xs := List.mem_mergeSort
theorem sortStr_perm {xs ys : List Str} (p : xs.Perm ys) : sortStr xs = sortStr ys := by
  refine List.Perm.eq_of_pairwise (le := fun a b => leS a b = true) (fun a b _ _ h1 h2 => leS_anti a b h1 h2) ?_ ?_ (((List.mergeSort_perm xs leS).trans p).trans (List.mergeSort_perm ys leS).symm)
  · exact List.pairwise_mergeSort (fun a b c => leS_trans a b c) leS_total xs
  · exact List.pairwise_mergeSort (fun a b c => leS_trans a b c) leS_total ys
theorem map_row_sort (xs : List TRow) : (xs.map row).mergeSort leD = (sortRows xs).map row := by
  symm
  exact List.map_mergeSort fun _ _ _ _ => rfl
theorem alike_strs : ∀ xs ys : TRow, PySem.W.alikeAll (xs.map .str) (ys.map .str) = true
  | [], _ => by simp [PySem.W.alikeAll]
  | _ :: _, [] => by simp [PySem.W.alikeAll]
  | x :: xs, y :: ys => by
    show PySem.W.alikeAll (.str x :: xs.map .str) (.str y :: ys.map .str) = true
    rw [PySem.W.alikeAll, alike_strs xs ys]
    simp [PySem.W.alike]
theorem sortOk_rows {xs : List TRow} (h : ∀ r ∈ xs, r ≠ []) : sortOk (xs.map row) = true := by
  simp only [sortOk, Bool.and_eq_true, Bool.or_eq_true, List.all_eq_true, List.mem_map, forall_exists_index, and_imp, forall_apply_eq_imp_iff₂]
  refine ⟨⟨fun r _ => ?_, fun r _ r' _ => ?_⟩, .inl fun r hr => ?_⟩
  · show (r.map D.str).all (okN 3) = true
    rw [List.all_eq_true]
    intro x hx
    obtain ⟨z, _, rfl⟩ := List.mem_map.1 hx
    rfl
  · rw [pyD_row, pyD_row]
    show PySem.W.alikeAll _ _ = true
    exact alike_strs r r'
  · cases r with
    | nil => exact absurd rfl (h _ hr)
    | cons a as => rfl
theorem gSortedT_rows {xs : List TRow} (h : ∀ r ∈ xs, r ≠ []) (hl : xs.length ≤ sizeLine) : gSortedT [.lst (xs.map row)] = some (.tmp (.lst ((sortRows xs).map row))) := by
  simp only [gSortedT]
  rw [if_pos ⟨sortOk_rows h, by rw [List.length_map]; exact hl⟩, map_row_sort]
theorem asStrs_strs : ∀ zs : List Str, asStrs (zs.map D.str) = some zs
  | [] => rfl
  | z :: zs => by simp only [List.map_cons, asStrs, asStrs_strs zs]; rfl
theorem gSorted_strs {zs : List Str} (hl : zs.length < 64) : gSorted [.lst (zs.map D.str)] = some (.tmp (.lst ((sortStr zs).map D.str))) := by
  simp only [gSorted, asStrs_strs, Option.bind_some]
  rw [if_pos hl]
/-! equality -/
theorem deqL_strs (n : Nat) : ∀ xs ys : List Str, deqL (deqN (n + 1)) (xs.map D.str) (ys.map D.str) = some (decide (xs = ys))
  | [], [] => by simp [deqL]
  | [], _ :: _ => by simp [deqL]
  | _ :: _, [] => by simp [deqL]
  | x :: xs, y :: ys => by
    simp only [List.map_cons, deqL]
    rw [deqL_strs n xs ys, show deqN (n + 1) (.str x) (.str y) = some (x == y) from rfl]
    by_cases h : x = y <;> by_cases h' : xs = ys <;> simp [h, h']
theorem deqN_row (n : Nat) (a b : TRow) : deqN (n + 2) (row a) (row b) = some (decide (a = b)) := by
  show deqL (deqN (n + 1)) (a.map D.str) (b.map D.str) = _
  exact deqL_strs n a b
theorem deqL_rows (n : Nat) : ∀ xs ys : List TRow, deqL (deqN (n + 2)) (xs.map row) (ys.map row) = some (decide (xs = ys))
  | [], [] => by simp [deqL]
  | [], _ :: _ => by simp [deqL]
  | _ :: _, [] => by simp [deqL]
  | x :: xs, y :: ys => by
    simp only [List.map_cons, deqL]
    rw [deqL_rows n xs ys, deqN_row n x y]
    by_cases h : x = y <;> by_cases h' : xs = ys <;> simp [h, h']
theorem deq_row (a b : TRow) : deq (row a) (row b) = some (decide (a = b)) := deqN_row 18 a b
theorem deq_rows (xs ys : List TRow) : deq (.lst (xs.map row)) (.lst (ys.map row)) = some (decide (xs = ys)) := by
  show (if (xs.map row).length = (ys.map row).length then deqL (deqN 19) (xs.map row) (ys.map row) else some false) = _
  by_cases h : (xs.map row).length = (ys.map row).length
  · rw [if_pos h]; exact deqL_rows 17 xs ys
  · rw [if_neg h]
    have : xs ≠ ys := fun e => h (by rw [e])
    simp [this]
theorem deq_strs (xs ys : List Str) : deq (.lst (xs.map D.str)) (.lst (ys.map D.str)) = some (decide (xs = ys)) := by
  show (if (xs.map D.str).length = (ys.map D.str).length then deqL (deqN 19) (xs.map D.str) (ys.map D.str) else some false) = _
  by_cases h : (xs.map D.str).length = (ys.map D.str).length
  · rw [if_pos h]; exact deqL_strs 18 xs ys
  · rw [if_neg h]
    have : xs ≠ ys := fun e => h (by rw [e])
    simp [this]
theorem gEq_rows (xs ys : List TRow) : gEq [.lst (xs.map row), .lst (ys.map row)] = some (.fz (.bl (decide (xs = ys)))) := by simp only [gEq, deq_rows]; rfl
theorem gNe_rows (xs ys : List TRow) : gNe [.lst (xs.map row), .lst (ys.map row)] = some (.fz (.bl (!decide (xs = ys)))) := by simp only [gNe, deq_rows]; rfl
theorem gEq_strs (xs ys : List Str) : gEq [.lst (xs.map D.str), .lst (ys.map D.str)] = some (.fz (.bl (decide (xs = ys)))) := by simp only [gEq, deq_strs]; rfl
theorem gNe_strs (xs ys : List Str) : gNe [.lst (xs.map D.str), .lst (ys.map D.str)] = some (.fz (.bl (!decide (xs = ys)))) := by simp only [gNe, deq_strs]; rfl
theorem gEq_row (a b : TRow) : gEq [row a, row b] = some (.fz (.bl (decide (a = b)))) := by simp only [gEq, deq_row]; rfl
theorem gNe_row (a b : TRow) : gNe [row a, row b] = some (.fz (.bl (!decide (a = b)))) := by simp only [gNe, deq_row]; rfl
theorem gEq_str (a b : Str) : gEq [.str a, .str b] = some (.fz (.bl (decide (a = b)))) := rfl
theorem gNe_str (a b : Str) : gNe [.str a, .str b] = some (.fz (.bl (!decide (a = b)))) := rfl
theorem anyD_strs (x : Str) : ∀ xs : List Str, anyD (.str x) (xs.map D.str) = some (decide (x ∈ xs))
  | [] => rfl
  | y :: ys => by
    rw [List.map_cons]
    unfold anyD
    rw [anyD_strs x ys, show deq (.str y) (.str x) = some (y == x) from rfl]
    by_cases h : y = x
    · subst h; simp
    · have : ¬ x = y := fun e => h e.symm
      simp [h, this]
theorem anyD_rows (x : TRow) : ∀ xs : List TRow, anyD (row x) (xs.map row) = some (decide (x ∈ xs))
  | [] => rfl
  | y :: ys => by
    rw [List.map_cons]
    unfold anyD
    rw [anyD_rows x ys, deq_row]
    by_cases h : y = x
    · subst h; simp
    · have : ¬ x = y := fun e => h e.symm
      simp [h, this]
theorem gIn_rows (n : Bool) (x : TRow) (xs : List TRow) : gInDN n [row x, .lst (xs.map row)] = some (.fz (.bl (if n then !decide (x ∈ xs) else decide (x ∈ xs)))) := by
  have e := anyD_rows x xs
  unfold row at e ⊢
  simp only [gInDN, e]
  rfl
theorem gIn_strs (n : Bool) (x : Str) (xs : List Str) : gInDN n [.str x, .lst (xs.map D.str)] = some (.fz (.bl (if n then !decide (x ∈ xs) else decide (x ∈ xs)))) := by
  simp only [gInDN, anyD_strs]
  rfl
theorem gIn_row (n : Bool) (x : Str) (r : TRow) : gInDN n [.str x, row r] = some (.fz (.bl (if n then !decide (x ∈ r) else decide (x ∈ r)))) := by
  unfold row
  simp only [gInDN, anyD_strs]
  rfl
/-! ### a row of three, in order -/
def tri (a b c : Str) : TRow := sortStr [a, b, c]
theorem tri_len (a b c : Str) : (tri a b c).length = 3 := by simp [tri, sortStr]
theorem tri_mem {a b c x : Str} : x ∈ tri a b c ↔ x = a ∨ x = b ∨ x = c := by
  have h : x ∈ sortStr [a, b, c] ↔ x ∈ [a, b, c] := List.mem_mergeSort
  simpa [tri] using h
theorem gTri (a b c : Str) : gSorted [.lst [.str a, .str b, .str c]] = some (.tmp (.lst ((tri a b c).map .str))) := gSorted_strs (zs := [a, b, c]) (show 3 < 64 by decide)
/-! ### sets of texts kept as keys -/
def addK (ks : List Str) (z : Str) : List Str := if z ∈ ks then ks else ks ++ [z]
def tk1 (ks : List Str) : List (Key × D) := ks.map fun z => (Sum.inr z, D.bl true)
theorem tk1_any (ks : List Str) (z : Str) : ((tk1 ks).any fun kv => decide (kv.1 = (Sum.inr z : Key))) = decide (z ∈ ks) := by
  induction ks with
  | nil => rfl
  | cons y ys ih =>
    simp only [tk1, List.map_cons, List.any_cons] at ih ⊢
    rw [ih]
    by_cases h : y = z
    · subst h; simp
    · have : ¬ z = y := fun e => h e.symm
      simp [h, this]
theorem putD_tk1 (ks : List Str) (z : Str) : putD (tk1 ks) (Sum.inr z : Key) (.bl true) = tk1 (addK ks z) := by
  unfold putD addK
  rw [tk1_any]
  by_cases h : z ∈ ks
  · simp only [h, decide_true, if_true]
    unfold tk1
    rw [List.map_map]
    refine List.map_congr_left fun y _ => ?_
    simp only [Function.comp]
    split <;> rfl
  · simp only [h, decide_false, Bool.false_eq_true, if_false]
    simp [tk1]
theorem asStrK_tk1 : ∀ ks : List Str, asStrK (tk1 ks) = some ks
  | [] => rfl
  | k :: ks => by
    show (asStrK (tk1 ks)).map (k :: ·) = _
    rw [asStrK_tk1 ks]; rfl
theorem gSortedD_tk1 {ks : List Str} (h : ks.length < 64) : gSortedD [.dK (tk1 ks)] = some (.tmp (.lst ((sortStr ks).map .str))) := by
  simp only [gSortedD, asStrK_tk1, Option.bind_some]
  rw [if_pos h]
theorem addK_mem {ks : List Str} {z x : Str} : x ∈ addK ks z ↔ x ∈ ks ∨ x = z := by
  unfold addK
  by_cases h : z ∈ ks
  · rw [if_pos h]
    exact ⟨.inl, fun q => q.elim id fun e => e ▸ h⟩
  · rw [if_neg h]; simp
theorem addK_nodup {ks : List Str} {z : Str} (h : ks.Nodup) : (addK ks z).Nodup := by
  unfold addK
  by_cases hz : z ∈ ks
  · rw [if_pos hz]; exact h
  · rw [if_neg hz, List.nodup_append]
    exact ⟨h, by simp, fun a ha b hb => by rw [List.mem_singleton.1 hb]; exact fun e => hz (e ▸ ha)⟩
def addAll (ks zs : List Str) : List Str := zs.foldl addK ks
theorem addAll_mem {zs : List Str} : ∀ {ks : List Str} {x : Str}, x ∈ addAll ks zs ↔ x ∈ ks ∨ x ∈ zs := by
  induction zs with
  | nil => intro ks x; simp [addAll]
  | cons z zs ih =>
    intro ks x
    show x ∈ addAll (addK ks z) zs ↔ _
    rw [ih, addK_mem, List.mem_cons, or_assoc]
theorem addAll_nodup {zs : List Str} : ∀ {ks : List Str}, ks.Nodup → (addAll ks zs).Nodup := by
  induction zs with
  | nil => intro ks h; exact h
  | cons z zs ih => intro ks h; exact ih (addK_nodup h)
theorem nodup_le {xs ys : List Str} (h : xs.Nodup) (hs : ∀ x ∈ xs, x ∈ ys) : xs.length ≤ ys.length := by
  induction xs generalizing ys with
  | nil => exact Nat.zero_le _
  | cons x xs ih =>
    rw [List.nodup_cons] at h
    have hx := hs x List.mem_cons_self
    have l := List.length_erase_of_mem hx
    have p : 0 < ys.length := List.length_pos_of_mem hx
    have := ih (ys := ys.erase x) h.2 fun y hy => (List.mem_erase_of_ne fun e => h.1 (by rw [← e]; exact hy)).2 (hs y (List.mem_cons_of_mem _ hy))
    simp only [List.length_cons]
    omega
/-- a loop over things that stand for data, its body always goes on -/
theorem forL_run {α β : Type} {t : D → DEnv → Option DEnv} {dead : List Nat} {body : DEnv → FR} (f : β → D) (Inv : α → DEnv → Prop) (step : α → β → α) : ∀ (xs : List β) (a : α) (env : DEnv), Inv a env →
      (∀ a x e, x ∈ xs → Inv a e → ∃ e1 e2, t (f x) (forget dead e) = some e1 ∧ (body e1 = .next e2 ∨ body e1 = .cnt e2) ∧ Inv (step a x) e2) →
      ∃ e, forL t dead body (xs.map f) env = .next (forget dead e) ∧ Inv (xs.foldl step a) e
  | [], a, env, h, _ => ⟨env, rfl, h⟩
  | x :: xs, a, env, h, st => by
    obtain ⟨e1, e2, h1, h2, h3⟩ := st a x env List.mem_cons_self h
    obtain ⟨e, r, ri⟩ := forL_run f Inv step xs (step a x) e2 h3 fun b y e' hy hi => st b y e' (List.mem_cons_of_mem _ hy) hi
    refine ⟨e, ?_, ri⟩
    rw [List.map_cons]
    simp only [forL, h1]
    rcases h2 with h2 | h2 <;> simp only [h2, r]
/-- a comprehension over such -/
theorem lcL_run {β γ : Type} {t : D → DEnv → Option DEnv} {own : List Nat} {tc : DEnv → TR} {me : DEnv → ER} {env : DEnv} (f : β → D) (g : γ → D) (h : β → Option γ) : ∀ (xs : List β) (acc : List γ), acc.length + xs.length ≤ sizeLine →
    (∀ x ∈ xs, ∃ e1, t (f x) env = some e1 ∧ ∃ e2, (h x = none ∧ tc e1 = .ok false e2 ∧ forget own e2 = env ∨ ∃ y, h x = some y ∧ tc e1 = .ok true e2 ∧ ∃ rv e3 e4, me e2 = .ok rv e3 ∧ frzV e3 rv = some (g y, e4) ∧ forget own e4 = env)) →
    lcL t own tc me (xs.map f) env (acc.map g) = .ok (.tmp (.lst ((acc ++ xs.filterMap h).map g))) env
  | [], acc, hl, st => by simp [lcL]
  | x :: xs, acc, hl, st => by
    obtain ⟨e1, h1, e2, q⟩ := st x List.mem_cons_self
    rw [List.length_cons] at hl
    rcases q with ⟨q0, q1, q2⟩ | ⟨y, q0, q1, rv, e3, e4, q2, q3, q4⟩
    · have ih := lcL_run f g h xs acc (by omega) fun y hy => st y (List.mem_cons_of_mem _ hy)
      rw [List.map_cons]
      simp only [lcL, h1, q1, q2, List.filterMap_cons, q0]
      exact ih
    · have ih := lcL_run f g h xs (acc ++ [y]) (by rw [List.length_append]; simp; omega) fun y hy => st y (List.mem_cons_of_mem _ hy)
      rw [List.map_cons]
      have hlt : (acc.map g).length < sizeLine := by rw [List.length_map]; omega
      simp only [lcL, h1, q1, q2, q3, q4, hlt, if_true, List.filterMap_cons, q0]
      rw [List.map_append, List.map_cons, List.map_nil, List.append_assoc] at ih
      simpa using ih
end DX

namespace DX
open PySem PySem.Spec L2
open PyProof.Rows hiding St

/-! ### a list walked by ranges -/
noncomputable def forR2 (va vb : Val) (t : D → DEnv → Option DEnv) (dead : List Nat) (mb : DEnv → FR) (e1 : DEnv) : FR := match va, vb with
  | .fz (.int i), .fz (.int j) => @ite _ (-(2 ^ 62) ≤ i ∧ i < 2 ^ 62 ∧ -(2 ^ 62) ≤ j ∧ j < 2 ^ 62) (Classical.propDecidable _) (forL t dead mb ((List.range (j - i).toNat).map fun k => D.int (i + (k : Nat))) e1) .err
  | _, _ => .err
theorem dForR2_eq (ma mb' : DEnv → ER) (t : D → DEnv → Option DEnv) (dead : List Nat) (mb : DEnv → FR) (env : DEnv) : dForR2 ma mb' t dead mb env = (ma env).thn fun va e1 => (mb' e1).thn fun vb e2 => forR2 va vb t dead mb e2 := by
  unfold dForR2 mArgs ER.thn
  cases h : ma env with
  | err => rfl
  | raise c e => rfl
  | ok va e1 =>
    simp only [AR.thn, mArgs, AR.bind]
    cases h2 : mb' e1 with
    | err => rfl
    | raise c e => rfl
    | ok vb e2 => 
      simp only []
      unfold forR2
      cases va with
      | fz d => cases vb with
        | fz d' => cases d <;> cases d' <;> rfl
        | _ => cases d <;> rfl
      | _ => cases vb <;> rfl
/-- the numbers from s, n of them -/
def rngS (s n : Nat) : List D := (List.range n).map fun k => D.int ((s + k : Nat) : Int)
theorem rngS_zero (s : Nat) : rngS s 0 = [] := rfl
theorem rngS_succ (s n : Nat) : rngS s (n + 1) = .int (s : Nat) :: rngS (s + 1) n := by
  simp only [rngS, List.range_succ_eq_map, List.map_cons, List.map_map]
  congr 1
  refine List.map_congr_left fun k _ => ?_
  simp only [Function.comp]
  congr 2
  omega
theorem rng_rngS (n : Nat) : rng n = rngS 0 n := by
  simp only [rng, rngS, Nat.zero_add]
theorem forR2_nat {i j : Nat} (hi : i < 4611686018427387904) (hj : j < 4611686018427387904) (t : D → DEnv → Option DEnv) (dead : List Nat) (mb : DEnv → FR) (e1 : DEnv) : forR2 (.fz (.int (i : Nat))) (.fz (.int (j : Nat))) t dead mb e1 = forL t dead mb (rngS i (j - i)) e1 := by
  simp only [forR2, rngS]
  rw [if_pos (by omega)]
  have e : ((j : Int) - (i : Int)).toNat = j - i := by omega
  rw [e]
  congr 1
/-- what a step makes of each and of what stands behind it -/
def foldSuf {α β : Type} (step : α → β → List β → α) : α → List β → α
  | a, [] => a
  | a, x :: xs => foldSuf step (step a x xs) xs
def sufMap {β γ : Type} (g : β → List β → List γ) : List β → List γ
  | [] => []
  | x :: xs => g x xs ++ sufMap g xs
theorem foldSuf_app {β γ : Type} (g : β → List β → List γ) : ∀ (xs : List β) (a : List γ), foldSuf (fun a x r => a ++ g x r) a xs = a ++ sufMap g xs
  | [], a => by simp [foldSuf, sufMap]
  | x :: xs, a => by
    simp only [foldSuf, sufMap]
    rw [foldSuf_app g xs, List.append_assoc]
theorem sufMap_one {β γ : Type} (g : β → γ) : ∀ xs : List β, sufMap (fun x _ => [g x]) xs = xs.map g
  | [] => rfl
  | x :: xs => by simp [sufMap, sufMap_one g xs]
theorem sufMap_len {β γ : Type} {g : β → List β → List γ} (m : Nat) : ∀ {xs : List β}, (∀ pre x r, xs = pre ++ x :: r → (g x r).length ≤ m) → (sufMap g xs).length ≤ xs.length * m
  | [], _ => by simp [sufMap]
  | x :: xs, h => by
    have h1 := h [] x xs rfl
    have h2 := sufMap_len m (xs := xs) fun pre y r e => h (x :: pre) y r (by rw [e]; rfl)
    simp only [sufMap, List.length_append, List.length_cons, Nat.succ_mul]
    omega
theorem sufMap_mem {β γ : Type} {g : β → List β → List γ} {y : γ} : ∀ {xs : List β}, y ∈ sufMap g xs → ∃ pre x r, xs = pre ++ x :: r ∧ y ∈ g x r
  | [], h => by simp [sufMap] at h
  | x :: xs, h => by
    simp only [sufMap, List.mem_append] at h
    rcases h with h | h
    · exact ⟨[], x, xs, rfl, h⟩
    · obtain ⟨pre, z, r, e, m⟩ := sufMap_mem h
      exact ⟨x :: pre, z, r, by rw [e]; rfl, m⟩
theorem forL_suf {α β : Type} {t : D → DEnv → Option DEnv} {dead : List Nat} {body : DEnv → FR} (Inv : α → DEnv → Prop) (step : α → β → List β → α) (o : List β) : ∀ (xs pre : List β) (a : α) (env : DEnv), o = pre ++ xs → Inv a env →
      (∀ pre' x rest a e, o = pre' ++ x :: rest → Inv a e → ∃ e1 e2, t (.int (pre'.length : Nat)) (forget dead e) = some e1 ∧ (body e1 = .next e2 ∨ body e1 = .cnt e2) ∧ Inv (step a x rest) e2) →
      ∃ e, forL t dead body (rngS pre.length xs.length) env = .next (forget dead e) ∧ Inv (foldSuf step a xs) e
  | [], pre, a, env, ho, h, _ => ⟨env, rfl, h⟩
  | x :: xs, pre, a, env, ho, h, st => by
    obtain ⟨e1, e2, h1, h2, h3⟩ := st pre x xs a env ho h
    obtain ⟨e, r, ri⟩ := forL_suf Inv step o xs (pre ++ [x]) (step a x xs) e2 (by rw [ho]; simp) h3 st
    refine ⟨e, ?_, ri⟩
    rw [List.length_append] at r
    rw [List.length_cons, rngS_succ]
    simp only [forL, h1]
    rcases h2 with h2 | h2 <;> simp only [h2] <;> exact r
/-- such a loop gathers -/
theorem forL_acc {β γ : Type} {t : D → DEnv → Option DEnv} {dead : List Nat} {body : DEnv → FR} (mk : List γ → DEnv → Prop) (g : β → List β → List γ) (B : Nat) (o : List β) : ∀ (xs pre : List β) (a : List γ) (env : DEnv), o = pre ++ xs → mk a env → a.length + (sufMap g xs).length ≤ B →
      (∀ pre' x rest a e, o = pre' ++ x :: rest → mk a e → a.length + (g x rest).length ≤ B → ∃ e1 e2, t (.int (pre'.length : Nat)) (forget dead e) = some e1 ∧ (body e1 = .next e2 ∨ body e1 = .cnt e2) ∧ mk (a ++ g x rest) e2) →
      ∃ e, forL t dead body (rngS pre.length xs.length) env = .next (forget dead e) ∧ mk (a ++ sufMap g xs) e
  | [], pre, a, env, ho, h, _, _ => ⟨env, rfl, by simpa [sufMap] using h⟩
  | x :: xs, pre, a, env, ho, h, hb, st => by
    simp only [sufMap, List.length_append] at hb
    obtain ⟨e1, e2, h1, h2, h3⟩ := st pre x xs a env ho h (by omega)
    obtain ⟨e, r, ri⟩ := forL_acc mk g B o xs (pre ++ [x]) (a ++ g x xs) e2 (by rw [ho]; simp) h3 (by rw [List.length_append]; omega) st
    refine ⟨e, ?_, by rw [List.append_assoc] at ri; exact ri⟩
    rw [List.length_append] at r
    rw [List.length_cons, rngS_succ]
    simp only [forL, h1]
    rcases h2 with h2 | h2 <;> simp only [h2] <;> exact r
/-- a loop over things gathers -/
theorem forL_gather {β γ : Type} {t : D → DEnv → Option DEnv} {dead : List Nat} {body : DEnv → FR} (f : β → D) (mk : List γ → DEnv → Prop) (g : β → List γ) (B : Nat) : ∀ (xs : List β) (a : List γ) (env : DEnv), mk a env → a.length + (xs.flatMap g).length ≤ B →
      (∀ x a e, x ∈ xs → mk a e → a.length + (g x).length ≤ B → ∃ e1 e2, t (f x) (forget dead e) = some e1 ∧ (body e1 = .next e2 ∨ body e1 = .cnt e2) ∧ mk (a ++ g x) e2) →
      ∃ e, forL t dead body (xs.map f) env = .next (forget dead e) ∧ mk (a ++ xs.flatMap g) e
  | [], a, env, h, _, _ => ⟨env, rfl, by simpa using h⟩
  | x :: xs, a, env, h, hb, st => by
    simp only [List.flatMap_cons, List.length_append] at hb
    obtain ⟨e1, e2, h1, h2, h3⟩ := st x a env List.mem_cons_self h (by omega)
    obtain ⟨e, r, ri⟩ := forL_gather f mk g B xs (a ++ g x) e2 h3 (by rw [List.length_append]; omega) fun y a e hy => st y a e (List.mem_cons_of_mem _ hy)
    refine ⟨e, ?_, by rw [List.append_assoc] at ri; exact ri⟩
    rw [List.map_cons]
    simp only [forL, h1]
    rcases h2 with h2 | h2 <;> simp only [h2] <;> exact r
/-- a loop whose state grows by one at most -/
theorem forL_cnt {α β : Type} {t : D → DEnv → Option DEnv} {dead : List Nat} {body : DEnv → FR} (f : β → D) (mk : α → DEnv → Prop) (step : α → β → α) (μ : α → Nat) (hμ : ∀ a x, μ (step a x) ≤ μ a + 1) (B : Nat) : ∀ (xs : List β) (a : α) (env : DEnv), mk a env → μ a + xs.length ≤ B →
      (∀ a x e, x ∈ xs → mk a e → μ a < B → ∃ e1 e2, t (f x) (forget dead e) = some e1 ∧ (body e1 = .next e2 ∨ body e1 = .cnt e2) ∧ mk (step a x) e2) →
      ∃ e, forL t dead body (xs.map f) env = .next (forget dead e) ∧ mk (xs.foldl step a) e
  | [], a, env, h, _, _ => ⟨env, rfl, h⟩
  | x :: xs, a, env, h, hb, st => by
    rw [List.length_cons] at hb
    obtain ⟨e1, e2, h1, h2, h3⟩ := st a x env List.mem_cons_self h (by omega)
    have := hμ a x
    obtain ⟨e, r, ri⟩ := forL_cnt f mk step μ hμ B xs (step a x) e2 h3 (by omega) fun b y e' hy hi => st b y e' (List.mem_cons_of_mem _ hy) hi
    refine ⟨e, ?_, ri⟩
    rw [List.map_cons]
    simp only [forL, h1]
    rcases h2 with h2 | h2 <;> simp only [h2, r]
theorem flatMap_one {β : Type} (p : β → Bool) : ∀ xs : List β, (xs.flatMap fun x => if p x then [x] else []) = xs.filter p
  | [] => rfl
  | x :: xs => by rw [List.flatMap_cons, flatMap_one p xs]; cases h : p x <;> simp [h]
theorem flatMap_len {β γ : Type} {g : β → List γ} (m : Nat) : ∀ {xs : List β}, (∀ x ∈ xs, (g x).length ≤ m) → (xs.flatMap g).length ≤ xs.length * m
  | [], _ => by simp
  | x :: xs, h => by
    have h1 := h x List.mem_cons_self
    have h2 := flatMap_len m (xs := xs) fun y hy => h y (List.mem_cons_of_mem _ hy)
    simp only [List.flatMap_cons, List.length_append, List.length_cons, Nat.succ_mul]
    omega
theorem forR2_suf {o pre : List Str} {x : Str} {rest : List Str} (ho : o = pre ++ x :: rest) (hl : o.length ≤ 100000) (t : D → DEnv → Option DEnv) (dead : List Nat) (mb : DEnv → FR) (e1 : DEnv) : forR2 (.fz (.int ((pre.length : Nat) + 1))) (.fz (.int (o.length : Nat))) t dead mb e1 = forL t dead mb (rngS (pre ++ [x]).length rest.length) e1 := by
  have l : o.length = pre.length + (rest.length + 1) := by rw [ho]; simp
  have h := forR2_nat (i := pre.length + 1) (j := o.length) (by omega) (by omega) t dead mb e1
  have e : ((pre.length + 1 : Nat) : Int) = (pre.length : Nat) + 1 := by omega
  rw [e] at h
  rw [h, show o.length - (pre.length + 1) = rest.length by omega]
  simp
theorem forR1_all {o : List Str} (hl : o.length ≤ 100000) (t : D → DEnv → Option DEnv) (dead : List Nat) (mb : DEnv → FR) (e1 : DEnv) : forR1 (.fz (.int (o.length : Nat))) t dead mb e1 = forL t dead mb (rngS ([] : List Str).length o.length) e1 := by
  rw [forR1_nat (by omega), rng_rngS]
  rfl
theorem gIx_at (f : Str → D) (pre : List Str) (x : Str) (rest : List Str) : gIx [.lst ((pre ++ x :: rest).map f), .int (pre.length : Nat)] = some (.fz (f x)) := by
  simp only [gIx, atI_nn]
  simp
theorem gIx_nat (xs : List D) (i : Nat) (x : D) (h : xs[i]? = some x) : gIx [.lst xs, .int (i : Nat)] = some (.fz x) := by
  simp only [gIx, atI_nn, h]
  rfl
theorem gSlL_at (f : Str → D) (pre : List Str) (x : Str) (rest : List Str) : gSlice (some ((pre.length : Nat) + 1 : Int)) none (.lst ((pre ++ x :: rest).map f)) = some (.tmp (.lst (rest.map f))) := by
  have e : HT.sIx ((pre ++ x :: rest).map f).length 0 (some ((pre.length : Nat) + 1 : Int)) = pre.length + 1 := by
    simp only [HT.sIx, List.length_map, List.length_append, List.length_cons]
    split <;> omega
  have e3 : HT.sIx ((pre ++ x :: rest).map f).length ((pre ++ x :: rest).map f).length none = ((pre ++ x :: rest).map f).length := rfl
  simp only [gSlice, cutL, e, e3, Option.some.injEq, Val.tmp.injEq, D.lst.injEq]
  have e2 : List.drop (pre.length + 1) ((pre ++ x :: rest).map f) = rest.map f := by
    rw [← List.map_drop]
    congr 1
    rw [show pre ++ x :: rest = (pre ++ [x]) ++ rest by simp]
    exact List.drop_left' (by simp)
  rw [e2]
  refine List.take_of_length_le ?_
  simp only [List.length_map, List.length_append, List.length_cons]
  omega
theorem itT_row (env : DEnv) (l : TRow) : itT env (.fz (row l)) = some (l.map D.str, env) := rfl
/-! ### all triples of some names -/
def ts2 (a : Str) (o : List Str) : List TRow := sufMap (fun b r => r.map fun c => [a, b, c]) o
def ts3 (o : List Str) : List TRow := sufMap ts2 o
def allTri (N : List Str) : List TRow := ts3 (sortStr N)
theorem ts2_len (a : Str) (o : List Str) : (ts2 a o).length ≤ o.length * o.length := by
  refine sufMap_len o.length fun pre x r e => ?_
  rw [List.length_map, e]; simp; omega
theorem ts3_len (o : List Str) : (ts3 o).length ≤ o.length * (o.length * o.length) := by
  refine sufMap_len (o.length * o.length) fun pre x r e => ?_
  refine Nat.le_trans (ts2_len x r) ?_
  have : r.length ≤ o.length := by rw [e]; simp; omega
  exact Nat.mul_le_mul this this
theorem sortStr_len (N : List Str) : (sortStr N).length = N.length := by simp [sortStr]
theorem sortStr_mem {N : List Str} {x : Str} : x ∈ sortStr N ↔ x ∈ N := List.mem_mergeSort
theorem sortStr_nodup {N : List Str} (h : N.Nodup) : (sortStr N).Nodup := (List.mergeSort_perm N leS).nodup_iff.2 h
theorem sortStr_pw (N : List Str) : (sortStr N).Pairwise fun a b => leS a b = true := List.pairwise_mergeSort (fun a b c => leS_trans a b c) leS_total N
theorem sortStr_id {N : List Str} (h : N.Pairwise fun a b => leS a b = true) : sortStr N = N := List.mergeSort_of_pairwise h
theorem allTri_len {N : List Str} (h : N.length ≤ 10) : (allTri N).length ≤ 1000 := by
  refine Nat.le_trans (ts3_len _) ?_
  rw [sortStr_len]
  have : N.length * N.length ≤ 10 * 10 := Nat.mul_le_mul h h
  exact Nat.mul_le_mul h this
/-- three unlike names of N, in order -/
structure R3 (N : List Str) (r : TRow) : Prop where
  is : ∃ a b c, r = [a, b, c]
  nd : r.Nodup
  sub : ∀ z ∈ r, z ∈ N
  srt : sortStr r = r
theorem R3.ne {N : List Str} {r : TRow} (h : R3 N r) : r ≠ [] := by obtain ⟨a, b, c, e⟩ := h.is; rw [e]; simp
theorem allTri_R3 {N : List Str} (h : N.Nodup) {r : TRow} (hr : r ∈ allTri N) : R3 N r := by
  obtain ⟨p1, a, r1, e1, h1⟩ := sufMap_mem hr
  obtain ⟨p2, b, r2, e2, h2⟩ := sufMap_mem h1
  obtain ⟨c, hc, rfl⟩ := List.mem_map.1 h2
  obtain ⟨p3, r3, e3⟩ := List.append_of_mem hc
  have sl : List.Sublist [a, b, c] (sortStr N) := by
    rw [e1, e2, e3]
    refine List.Sublist.trans ?_ (List.sublist_append_right _ _)
    refine List.Sublist.cons_cons _ ?_
    refine List.Sublist.trans ?_ (List.sublist_append_right _ _)
    refine List.Sublist.cons_cons _ ?_
    refine List.Sublist.trans ?_ (List.sublist_append_right _ _)
    simp
  exact ⟨⟨a, b, c, rfl⟩, (sortStr_nodup h).sublist sl, fun z hz => sortStr_mem.1 (sl.subset hz), sortStr_id ((sortStr_pw N).sublist sl)⟩
theorem tri_R3 {N : List Str} {a b c : Str} (ha : a ∈ N) (hb : b ∈ N) (hc : c ∈ N) (ab : a ≠ b) (ac : a ≠ c) (bc : b ≠ c) : R3 N (tri a b c) := by
  have hl := tri_len a b c
  refine ⟨?_, ?_, fun z hz => ?_, ?_⟩
  · match h : tri a b c, hl with
    | [x, y, z], _ => exact ⟨x, y, z, rfl⟩
  · exact sortStr_nodup (by simp [ab, ac, bc])
  · rcases tri_mem.1 hz with rfl | rfl | rfl <;> assumption
  · exact sortStr_id (sortStr_pw _)
theorem tri_perm {a b c : Str} {r : TRow} (p : [a, b, c].Perm r) (h : sortStr r = r) : tri a b c = r := (sortStr_perm p).trans h
theorem R3.tri {N : List Str} {a b c : Str} (h : R3 N [a, b, c]) : DX.tri a b c = [a, b, c] := h.srt
/-! ### sets of rows kept as keys -/
def keyR (r : TRow) : List Key := r.map Sum.inr
theorem keyR_inj {a b : TRow} (h : keyR a = keyR b) : a = b := by
  induction a generalizing b with
  | nil => cases b with
    | nil => rfl
    | cons y ys => simp [keyR] at h
  | cons x xs ih => cases b with
    | nil => simp [keyR] at h
    | cons y ys =>
      simp only [keyR, List.map_cons, List.cons.injEq, Sum.inr.injEq] at h ih
      rw [h.1, ih h.2]
theorem keyT_row (r : TRow) : keyT (row r) = some (keyR r) := by
  show (asStrs (r.map D.str)).map _ = _
  rw [asStrs_strs]
  rfl
theorem keyTD_row (r : TRow) : keyTD (keyR r) = row r := by
  unfold keyTD keyR row
  rw [List.map_map]
  rfl
def addR (ks : List TRow) (z : TRow) : List TRow := if z ∈ ks then ks else ks ++ [z]
theorem addR_mem {ks : List TRow} {z x : TRow} : x ∈ addR ks z ↔ x ∈ ks ∨ x = z := by
  unfold addR
  by_cases h : z ∈ ks
  · rw [if_pos h]
    exact ⟨.inl, fun q => q.elim id fun e => e ▸ h⟩
  · rw [if_neg h]; simp
theorem addR_len {ks : List TRow} {z : TRow} : (addR ks z).length ≤ ks.length + 1 := by
  unfold addR; split <;> simp
def tkR (ks : List TRow) : List (List Key × D) := ks.map fun r => (keyR r, D.bl true)
theorem tkR_any (ks : List TRow) (z : TRow) : ((tkR ks).any fun kv => decide (kv.1 = keyR z)) = decide (z ∈ ks) := by
  induction ks with
  | nil => rfl
  | cons y ys ih =>
    simp only [tkR, List.map_cons, List.any_cons] at ih ⊢
    rw [ih]
    by_cases h : y = z
    · subst h; simp
    · have h1 : ¬ z = y := fun e => h e.symm
      have h2 : ¬ keyR y = keyR z := fun e => h (keyR_inj e)
      simp [h1, h2]
theorem putD_tkR (ks : List TRow) (z : TRow) : putD (tkR ks) (keyR z) (.bl true) = tkR (addR ks z) := by
  unfold putD addR
  rw [tkR_any]
  by_cases h : z ∈ ks
  · simp only [h, decide_true, if_true]
    unfold tkR
    rw [List.map_map]
    refine List.map_congr_left fun y _ => ?_
    simp only [Function.comp]
    split <;> rfl
  · simp only [h, decide_false, Bool.false_eq_true, if_false]
    simp [tkR]
theorem valD_tkR (z : TRow) : ∀ ks : List TRow, (valD (tkR ks) (keyR z)).isSome = decide (z ∈ ks)
  | [] => rfl
  | y :: ys => by
    have ih := valD_tkR z ys
    simp only [valD, tkR, List.map_cons, List.find?_cons] at ih ⊢
    by_cases h : y = z
    · subst h; simp
    · have h1 : ¬ z = y := fun e => h e.symm
      have h2 : ¬ keyR y = keyR z := fun e => h (keyR_inj e)
      simp only [h2, decide_false]
      rw [ih]
      simp [h1]
theorem gDIn_tkR (z : TRow) (ks : List TRow) : gDIn false [row z, .dT (tkR ks)] = some (.fz (.bl (decide (z ∈ ks)))) := by
  have e : gDIn false [row z, .dT (tkR ks)] = (keyT (row z)).map fun k => .fz (.bl (valD (tkR ks) k).isSome) := rfl
  rw [e, keyT_row, Option.map_some, valD_tkR]
theorem addRs_mem {zs : List TRow} : ∀ {ks : List TRow} {x : TRow}, x ∈ zs.foldl addR ks ↔ x ∈ ks ∨ x ∈ zs := by
  induction zs with
  | nil => intro ks x; simp
  | cons z zs ih =>
    intro ks x
    rw [List.foldl_cons, ih, addR_mem, List.mem_cons, or_assoc]
theorem addRs_len {zs : List TRow} : ∀ {ks : List TRow}, (zs.foldl addR ks).length ≤ ks.length + zs.length := by
  induction zs with
  | nil => intro ks; simp
  | cons z zs ih =>
    intro ks
    rw [List.foldl_cons, List.length_cons]
    have := ih (ks := addR ks z)
    have := addR_len (ks := ks) (z := z)
    omega
theorem asBls_bls (bs : List Bool) : asBls (bs.map D.bl) = some bs := by
  induction bs with
  | nil => rfl
  | cons b bs ih => simp only [List.map_cons, asBls, ih]; rfl
theorem cutL_to {α : Type} (xs : List α) (k : Nat) : cutL xs none (some (k : Nat)) = xs.take k := by
  have e : HT.sIx xs.length xs.length (some ((k : Nat) : Int)) = min k xs.length := by
    simp only [HT.sIx]
    split <;> omega
  have e0 : HT.sIx xs.length 0 none = 0 := rfl
  simp only [cutL, e, e0, List.drop_zero, Nat.sub_zero]
  by_cases h : k ≤ xs.length
  · rw [Nat.min_eq_left h]
  · rw [Nat.min_eq_right (by omega), List.take_of_length_le (Nat.le_refl _), List.take_of_length_le (by omega)]
theorem cutL_from {α : Type} (xs : List α) (k : Nat) : cutL xs (some (k : Nat)) none = xs.drop k := by
  have e : HT.sIx xs.length 0 (some ((k : Nat) : Int)) = min k xs.length := by
    simp only [HT.sIx]
    split <;> omega
  have e0 : HT.sIx xs.length xs.length none = xs.length := rfl
  simp only [cutL, e, e0]
  rw [List.take_of_length_le (by simp)]
  by_cases h : k ≤ xs.length
  · rw [Nat.min_eq_left h]
  · rw [Nat.min_eq_right (by omega), List.drop_of_length_le (Nat.le_refl _), List.drop_of_length_le (by omega)]
theorem gSl_to (xs : List D) (k : Nat) : gSlice none (some (k : Nat)) (.lst xs) = some (.tmp (.lst (xs.take k))) := by
  simp only [gSlice, cutL_to]
theorem gSl_from (xs : List D) (k : Nat) : gSlice (some (k : Nat)) none (.lst xs) = some (.tmp (.lst (xs.drop k))) := by
  simp only [gSlice, cutL_from]
/-- a loop told by what was walked -/
theorem forL_pre {β : Type} {t : D → DEnv → Option DEnv} {dead : List Nat} {body : DEnv → FR} (f : β → D) (Inv : List β → DEnv → Prop) (all : List β) : ∀ (rest pre : List β) (env : DEnv), all = pre ++ rest → Inv pre env →
      (∀ pre x rest e, all = pre ++ x :: rest → Inv pre e → ∃ e1 e2, t (f x) (forget dead e) = some e1 ∧ (body e1 = .next e2 ∨ body e1 = .cnt e2) ∧ Inv (pre ++ [x]) e2) →
      ∃ e, forL t dead body (rest.map f) env = .next (forget dead e) ∧ Inv all e
  | [], pre, env, ha, h, _ => ⟨env, rfl, by rw [ha, List.append_nil]; exact h⟩
  | x :: xs, pre, env, ha, h, st => by
    obtain ⟨e1, e2, h1, h2, h3⟩ := st pre x xs env ha h
    obtain ⟨e, r, ri⟩ := forL_pre f Inv all xs (pre ++ [x]) e2 (by rw [ha]; simp) h3 st
    refine ⟨e, ?_, ri⟩
    rw [List.map_cons]
    simp only [forL, h1]
    rcases h2 with h2 | h2 <;> simp only [h2, r]
theorem tri_inj {a b c d : Str} (ca : c ≠ a) (cb : c ≠ b) (h : tri a b c = tri a b d) : c = d := by
  have m : c ∈ tri a b c := tri_mem.2 (.inr (.inr rfl))
  rw [h] at m
  rcases tri_mem.1 m with q | q | q
  · exact absurd q ca
  · exact absurd q cb
  · exact q
def enumF (s : Nat) : List TRow → List D
  | [] => []
  | x :: xs => .tup [.int (s : Nat), row x] :: enumF (s + 1) xs
theorem enumF_eq : ∀ (xs : List TRow) (s : Nat), (List.range xs.length).map (fun i => D.tup [.int ((s + i : Nat) : Int), (xs.map row).getD i .non]) = enumF s xs
  | [], s => rfl
  | x :: xs, s => by
    rw [List.length_cons, List.range_succ_eq_map, List.map_cons, List.map_map, enumF, ← enumF_eq xs (s + 1)]
    congr 1
    refine List.map_congr_left fun i _ => ?_
    simp only [Function.comp, List.map_cons, Nat.succ_eq_add_one, List.getD_cons_succ]
    rw [show s + (i + 1) = s + 1 + i by omega]
theorem enumL_rows (xs : List TRow) : enumL (xs.map row) = enumF 0 xs := by
  rw [← enumF_eq]
  unfold enumL
  rw [List.length_map]
  simp only [Nat.zero_add]
/-- a loop over enumerate -/
theorem forL_enum {t : D → DEnv → Option DEnv} {dead : List Nat} {body : DEnv → FR} (Inv : List TRow → DEnv → Prop) (all : List TRow) : ∀ (rest pre : List TRow) (env : DEnv), all = pre ++ rest → Inv pre env →
      (∀ pre x rest e, all = pre ++ x :: rest → Inv pre e → ∃ e1 e2, t (.tup [.int (pre.length : Nat), row x]) (forget dead e) = some e1 ∧ (body e1 = .next e2 ∨ body e1 = .cnt e2) ∧ Inv (pre ++ [x]) e2) →
      ∃ e, forL t dead body (enumF pre.length rest) env = .next (forget dead e) ∧ Inv all e
  | [], pre, env, ha, h, _ => ⟨env, rfl, by rw [ha, List.append_nil]; exact h⟩
  | x :: xs, pre, env, ha, h, st => by
    obtain ⟨e1, e2, h1, h2, h3⟩ := st pre x xs env ha h
    obtain ⟨e, r, ri⟩ := forL_enum Inv all xs (pre ++ [x]) e2 (by rw [ha]; simp) h3 st
    refine ⟨e, ?_, ri⟩
    rw [List.length_append] at r
    rw [enumF]
    simp only [forL, h1]
    rcases h2 with h2 | h2 <;> simp only [h2] <;> exact r
theorem pick_two {n : Str} {r : TRow} (h : ∃ a b c, r = [a, b, c]) (nd : r.Nodup) (hn : n ∈ r) : ∃ u w, r.filter (fun z => !decide (z = n)) = [u, w] ∧ [n, u, w].Perm r := by
  obtain ⟨a, b, c, rfl⟩ := h
  simp only [List.nodup_cons, List.mem_cons, List.not_mem_nil, or_false, not_or, not_false_eq_true, List.nodup_nil, and_true] at nd
  obtain ⟨⟨ab, ac⟩, bc⟩ := nd
  simp only [List.mem_cons, List.not_mem_nil, or_false] at hn
  rcases hn with rfl | rfl | rfl
  · exact ⟨b, c, by simp [Ne.symm ab, Ne.symm ac], List.Perm.refl _⟩
  · exact ⟨a, c, by simp [ab, Ne.symm bc], List.Perm.swap _ _ _⟩
  · exact ⟨a, b, by simp [ac, bc], (List.perm_append_comm (l₁ := [n]) (l₂ := [a, b]))⟩
theorem R3.perm {N : List Str} {a b c : Str} {r : TRow} (h : R3 N r) (p : [a, b, c].Perm r) : DX.tri a b c = r ∧ a ∈ N ∧ b ∈ N ∧ c ∈ N ∧ a ≠ b ∧ a ≠ c ∧ b ≠ c := by
  have nd := p.nodup_iff.2 h.nd
  simp only [List.nodup_cons, List.mem_cons, List.not_mem_nil, or_false, not_or, not_false_eq_true, List.nodup_nil, and_true] at nd
  have m : ∀ z ∈ [a, b, c], z ∈ N := fun z hz => h.sub z (p.mem_iff.1 hz)
  exact ⟨tri_perm p h.srt, m a (by simp), m b (by simp), m c (by simp), nd.1.1, nd.1.2, nd.2⟩
theorem R3.mono {N M : List Str} {r : TRow} (h : R3 N r) (s : ∀ z ∈ N, z ∈ M) : R3 M r := ⟨h.is, h.nd, fun z hz => s z (h.sub z hz), h.srt⟩
theorem gAll_bls (bs : List Bool) : gAll [.lst (bs.map D.bl)] = some (.fz (.bl (bs.all id))) := by
  simp only [gAll, asBls_bls]; rfl
theorem gAny_bls (bs : List Bool) : gAny [.lst (bs.map D.bl)] = some (.fz (.bl (bs.any id))) := by
  simp only [gAny, asBls_bls]; rfl
theorem small_le {n : Nat} (h : n ≤ 100000) : n ≤ sizeLine := by unfold sizeLine; omega
theorem small_lt' {n : Nat} (h : n ≤ 100000) : n < sizeLine := by unfold sizeLine; omega
theorem lcL_map {β γ : Type} {t : D → DEnv → Option DEnv} {own : List Nat} {me : DEnv → ER} {env : DEnv} (f : β → D) (g : γ → D) (h : β → γ) (xs : List β) (hl : xs.length ≤ sizeLine)
    (st : ∀ x ∈ xs, ∃ e1, t (f x) env = some e1 ∧ ∃ rv e3 e4, me e1 = .ok rv e3 ∧ frzV e3 rv = some (g (h x), e4) ∧ forget own e4 = env) :
    lcL t own dYes me (xs.map f) env [] = .ok (.tmp (.lst ((xs.map h).map g))) env := by
  have r := lcL_run (t := t) (own := own) (tc := dYes) (me := me) (env := env) f g (fun x => some (h x)) xs [] (by simpa using hl) fun x hx => by
    obtain ⟨e1, h1, rv, e3, e4, h2, h3, h4⟩ := st x hx
    exact ⟨e1, h1, e1, .inr ⟨h x, rfl, rfl, rv, e3, e4, h2, h3, h4⟩⟩
  have e : ∀ xs : List β, xs.filterMap (fun x => some (h x)) = xs.map h := fun xs => by
    induction xs with
    | nil => rfl
    | cons x xs ih => simp
  rw [e] at r
  exact r
theorem lcL_filter {β : Type} {t : D → DEnv → Option DEnv} {own : List Nat} {tc : DEnv → TR} {me : DEnv → ER} {env : DEnv} (f : β → D) (p : β → Bool) (xs : List β) (hl : xs.length ≤ sizeLine)
    (st : ∀ x ∈ xs, ∃ e1, t (f x) env = some e1 ∧ ∃ e2, tc e1 = .ok (p x) e2 ∧ forget own e2 = env ∧ ∃ rv e3 e4, me e2 = .ok rv e3 ∧ frzV e3 rv = some (f x, e4) ∧ forget own e4 = env) :
    lcL t own tc me (xs.map f) env [] = .ok (.tmp (.lst ((xs.filter p).map f))) env := by
  have r := lcL_run (t := t) (own := own) (tc := tc) (me := me) (env := env) f f (fun x => if p x then some x else none) xs [] (by simpa using hl) fun x hx => by
    obtain ⟨e1, h1, e2, h2, h3, rv, e3, e4, h4, h5, h6⟩ := st x hx
    refine ⟨e1, h1, e2, ?_⟩
    cases hp : p x with
    | false => exact .inl ⟨by simp, by rw [h2, hp], h3⟩
    | true => exact .inr ⟨x, by simp, by rw [h2, hp], rv, e3, e4, h4, h5, h6⟩
  have e : ∀ xs : List β, xs.filterMap (fun x => if p x then some x else none) = xs.filter p := fun xs => by
    induction xs with
    | nil => rfl
    | cons x xs ih => cases hp : p x <;> simp [hp, ih]
  rw [e] at r
  exact r
/-- every such row is among all triples -/
theorem mem_ts2 {a b c : Str} : ∀ {o : List Str}, o.Pairwise (fun x y => leS x y = true) → b ∈ o → c ∈ o → b ≠ c → leS b c = true → [a, b, c] ∈ ts2 a o
  | [], _, h, _, _, _ => nomatch h
  | x :: o, hp, hb, hc, ne, le => by
    rw [List.pairwise_cons] at hp
    show [a, b, c] ∈ (o.map fun c => [a, x, c]) ++ ts2 a o
    rcases List.mem_cons.1 hb with rfl | hb'
    · refine List.mem_append_left _ (List.mem_map.2 ⟨c, ?_, rfl⟩)
      exact (List.mem_cons.1 hc).resolve_left fun e => ne e.symm
    · refine List.mem_append_right _ (mem_ts2 hp.2 hb' ?_ ne le)
      rcases List.mem_cons.1 hc with e | hc'
      · exact absurd (leS_anti _ _ le (by rw [e]; exact hp.1 b hb')) ne
      · exact hc'
theorem mem_ts3 {a b c : Str} : ∀ {o : List Str}, o.Pairwise (fun x y => leS x y = true) → a ∈ o → b ∈ o → c ∈ o → a ≠ b → a ≠ c → b ≠ c → leS a b = true → leS a c = true → leS b c = true → [a, b, c] ∈ ts3 o
  | [], _, h, _, _, _, _, _, _, _, _ => nomatch h
  | x :: o, hp, ha, hb, hc, ab, ac, bc, l1, l2, l3 => by
    rw [List.pairwise_cons] at hp
    show [a, b, c] ∈ ts2 x o ++ ts3 o
    rcases List.mem_cons.1 ha with rfl | ha'
    · exact List.mem_append_left _ (mem_ts2 hp.2 ((List.mem_cons.1 hb).resolve_left fun e => ab e.symm) ((List.mem_cons.1 hc).resolve_left fun e => ac e.symm) bc l3)
    · refine List.mem_append_right _ (mem_ts3 hp.2 ha' ?_ ?_ ab ac bc l1 l2 l3)
      · rcases List.mem_cons.1 hb with e | hb'
        · exact absurd (leS_anti _ _ l1 (by rw [e]; exact hp.1 a ha')) ab
        · exact hb'
      · rcases List.mem_cons.1 hc with e | hc'
        · exact absurd (leS_anti _ _ l2 (by rw [e]; exact hp.1 a ha')) ac
        · exact hc'
theorem R3.mem_all {N : List Str} {r : TRow} (h : R3 N r) : r ∈ allTri N := by
  obtain ⟨a, b, c, rfl⟩ := h.is
  have nd := h.nd
  simp only [List.nodup_cons, List.mem_cons, List.not_mem_nil, or_false, not_or, not_false_eq_true, List.nodup_nil, and_true] at nd
  have pw := sortStr_pw [a, b, c]
  rw [h.srt] at pw
  simp only [List.pairwise_cons, List.mem_cons, List.not_mem_nil, or_false, forall_eq_or_imp, forall_eq] at pw
  have m : ∀ z ∈ [a, b, c], z ∈ sortStr N := fun z hz => sortStr_mem.2 (h.sub z hz)
  exact mem_ts3 (sortStr_pw N) (m a (by simp)) (m b (by simp)) (m c (by simp)) nd.1.1 nd.1.2 nd.2 pw.1.1 pw.1.2 pw.2.1
theorem sortRows_len (L : List TRow) : (sortRows L).length = L.length := (List.mergeSort_perm L _).length_eq
theorem gNe_self (xs : List TRow) : gNe [.lst (xs.map row), .lst (xs.map row)] = some (.fz (.bl false)) := by rw [gNe_rows]; simp
theorem gEq_self (xs : List TRow) : gEq [.lst (xs.map row), .lst (xs.map row)] = some (.fz (.bl true)) := by rw [gEq_rows]; simp
theorem sortRows_nil : sortRows [] = [] := by simp [sortRows]
end DX

namespace DX
open PySem PySem.Spec L2
open PyProof.Rows hiding St

/-! ### letters and ranks -/
abbrev LETTERS : Str := "abcdefghijklmnopqrstuvwxyz"
theorem letters_eq : LETTERS.cps.toList = (List.range 26).map (97 + ·) := by decide +kernel
theorem mem_letters {c : Nat} : c ∈ LETTERS.cps.toList ↔ 97 ≤ c ∧ c < 123 := by
  rw [letters_eq, List.mem_map]
  constructor
  · rintro ⟨k, hk, rfl⟩; rw [List.mem_range] at hk; omega
  · rintro ⟨h1, h2⟩; exact ⟨c - 97, List.mem_range.2 (by omega), by omega⟩
theorem letters_ix : ∀ k, k < 26 → (Builtin.Str.occurrences LETTERS ⟨#[97 + k]⟩ 0 LETTERS.length 1) = [k] := by decide +kernel
theorem gSIndex_letter {c : Nat} (h : c ∈ LETTERS.cps.toList) : gSIndex LETTERS [.str ⟨#[c]⟩] = some (.fz (.int ((c : Int) - 97))) := by
  obtain ⟨h1, h2⟩ := mem_letters.1 h
  have e := letters_ix (c - 97) (by omega)
  rw [show 97 + (c - 97) = c by omega] at e
  simp only [gSIndex, e]
  congr 3
  omega
def rk (w : Str) : List Int := (cpsL w).map fun c : Nat => (c : Int) - 97
theorem shift_lt : ∀ xs ys : List Nat, (xs.map fun c : Nat => (c : Int) - 97) < (ys.map fun c : Nat => (c : Int) - 97) ↔ xs < ys
  | [], [] => by simp
  | [], y :: ys => by simp
  | x :: xs, [] => by simp
  | x :: xs, y :: ys => by
    have ih := shift_lt xs ys
    simp only [List.map_cons, List.cons_lt_cons_iff, ih]
    constructor
    · rintro (h | ⟨h, h'⟩)
      · exact .inl (by omega)
      · exact .inr ⟨by omega, h'⟩
    · rintro (h | ⟨h, h'⟩)
      · exact .inl (by omega)
      · exact .inr ⟨by omega, h'⟩
theorem rk_lt (a b : Str) : rk a < rk b ↔ cpsL a < cpsL b := shift_lt _ _
def dRk (w : Str) : D := .lst ((rk w).map .int)
theorem pyD_rk (w : Str) : pyD (dRk w) = .list ((rk w).map .int) := by
  show PyData.list (((rk w).map D.int).map (pyN 3)) = _
  rw [List.map_map]; rfl
theorem okN_rk (n : Nat) (w : Str) : okN (n + 2) (dRk w) = true := by
  show ((rk w).map D.int).all (okN (n + 1)) = true
  rw [List.all_eq_true]
  intro x hx
  obtain ⟨z, _, rfl⟩ := List.mem_map.1 hx
  rfl
theorem dataLt_rk (a b : Str) : PySem.W.dataLt (pyD (dRk a)) (pyD (dRk b)) = strLt a b := by
  rw [pyD_rk, pyD_rk, PySem.W.dataLt_list]
  show PySem.W.rowLt ((rk a).map .int) ((rk b).map .int) = _
  rw [PySem.W.dataLt_ints]
  exact decide_eq_decide.2 (rk_lt a b)
theorem alike_rk (a b : Str) : PySem.W.alike (pyD (dRk a)) (pyD (dRk b)) = true := by
  rw [pyD_rk, pyD_rk]
  exact PySem.W.alike_ints _ _
theorem cmpOk_rk (a b : Str) : cmpOk (dRk a) (dRk b) = true := by
  unfold cmpOk
  rw [okN_rk 2 a, okN_rk 2 b, alike_rk]
  rfl
theorem gGtD_rk (a b : Str) : gGtD [dRk a, dRk b] = some (.fz (.bl (strLt b a))) := by
  simp only [gGtD, cmpOk_rk, dataLt_rk, if_true]
theorem leD_rk (a b : Str) : leD (dRk a) (dRk b) = leS a b := by
  show (!PySem.W.dataLt (pyD (dRk b)) (pyD (dRk a))) = _
  rw [dataLt_rk]; rfl
theorem sortOk_all {ks : List D} (h1 : ∀ d ∈ ks, okN 4 d = true) (h2 : ∀ d ∈ ks, ∀ e ∈ ks, PySem.W.alike (pyD d) (pyD e) = true) (h3 : ∀ d ∈ ks, notTup d = true) : sortOk ks = true := by
  simp only [sortOk, Bool.and_eq_true, Bool.or_eq_true, List.all_eq_true]
  exact ⟨⟨h1, h2⟩, .inr h3⟩
theorem keysOf_map {β : Type} {f : List D → FnR} {g k : β → D} : ∀ {xs : List β}, (∀ x ∈ xs, keyOf f (g x) = some (k x)) → keysOf f (xs.map g) = some (xs.map k)
  | [], _ => rfl
  | x :: xs, h => by
    simp only [List.map_cons, keysOf, h x List.mem_cons_self, Option.bind_some]
    rw [keysOf_map fun y hy => h y (List.mem_cons_of_mem _ hy)]
    rfl
theorem zip_maps {α β γ : Type} (f : α → β) (g : α → γ) : ∀ xs : List α, (xs.map f).zip (xs.map g) = xs.map fun x => (f x, g x)
  | [] => rfl
  | x :: xs => by simp only [List.map_cons, List.zip_cons_cons, zip_maps f g xs]
/-- sorted by a key that orders as le does -/
theorem gSortK_map {β : Type} {f : List D → FnR} {g k : β → D} {le : β → β → Bool} {xs : List β} (hk : ∀ x ∈ xs, keyOf f (g x) = some (k x)) (h1 : ∀ x ∈ xs, okN 4 (k x) = true) (h2 : ∀ x ∈ xs, ∀ y ∈ xs, PySem.W.alike (pyD (k x)) (pyD (k y)) = true) (h3 : ∀ x ∈ xs, notTup (k x) = true)
    (hle : ∀ x y, leD (k x) (k y) = le x y) (hl : xs.length ≤ sizeLine) : gSortK f [.lst (xs.map g)] = some (.tmp (.lst ((xs.mergeSort le).map g))) := by
  have so : sortOk (xs.map k) = true := by
    refine sortOk_all (fun d hd => ?_) (fun d hd e he => ?_) fun d hd => ?_
    · obtain ⟨x, hx, rfl⟩ := List.mem_map.1 hd
      exact h1 x hx
    · obtain ⟨x, hx, rfl⟩ := List.mem_map.1 hd
      obtain ⟨y, hy, rfl⟩ := List.mem_map.1 he
      exact h2 x hx y hy
    · obtain ⟨x, hx, rfl⟩ := List.mem_map.1 hd
      exact h3 x hx
  simp only [gSortK, keysOf_map hk]
  rw [if_pos ⟨so, by rw [List.length_map]; exact hl⟩, zip_maps, ← List.map_mergeSort (r := le) (s := leK) (f := fun x => (g x, k x)) (fun x _ y _ => (hle x y).symm), List.map_map]
  rfl
theorem gSortK_names {f : List D → FnR} {xs : List Str} (hk : ∀ x ∈ xs, keyOf f (.str x) = some (dRk x)) (hl : xs.length ≤ sizeLine) : gSortK f [.lst (xs.map .str)] = some (.tmp (.lst ((sortStr xs).map .str))) :=
  gSortK_map hk (fun x _ => okN_rk 2 x) (fun x _ y _ => alike_rk x y) (fun _ _ => rfl) (fun x y => leD_rk x y) hl
/-- a nested walk that follows a list -/
theorem forL_scan {β γ : Type} {t : D → DEnv → Option DEnv} {dead : List Nat} {body : DEnv → FR} (mk : List γ → DEnv → Prop) (g : β → List β → List γ) (T : List γ) (o : List β) : ∀ (xs pre : List β) (a suf : List γ) (env : DEnv), o = pre ++ xs → T = a ++ (sufMap g xs ++ suf) → mk a env →
      (∀ pre' x rest a suf e, o = pre' ++ x :: rest → T = a ++ (g x rest ++ suf) → mk a e → ∃ e1 e2, t (.int (pre'.length : Nat)) (forget dead e) = some e1 ∧ (body e1 = .next e2 ∨ body e1 = .cnt e2) ∧ mk (a ++ g x rest) e2) →
      ∃ e, forL t dead body (rngS pre.length xs.length) env = .next (forget dead e) ∧ mk (a ++ sufMap g xs) e
  | [], pre, a, suf, env, ho, _, h, _ => ⟨env, rfl, by simpa [sufMap] using h⟩
  | x :: xs, pre, a, suf, env, ho, hT, h, st => by
    simp only [sufMap, List.append_assoc] at hT
    obtain ⟨e1, e2, h1, h2, h3⟩ := st pre x xs a (sufMap g xs ++ suf) env ho hT h
    obtain ⟨e, r, ri⟩ := forL_scan mk g T o xs (pre ++ [x]) (a ++ g x xs) suf e2 (by rw [ho]; simp) (by rw [List.append_assoc]; exact hT) h3 st
    refine ⟨e, ?_, by rw [List.append_assoc] at ri; exact ri⟩
    rw [List.length_append] at r
    rw [List.length_cons, rngS_succ]
    simp only [forL, h1]
    rcases h2 with h2 | h2 <;> simp only [h2] <;> exact r
theorem pow24 : gPow [.int 10, .int 24] = some (.fz (.int 1000000000000000000000000)) := by simp [gPow]
theorem pow6 : gPow [.int 10, .int 6] = some (.fz (.int 1000000)) := by simp [gPow]
theorem range_nodup {α : Type} {f : Nat → α} {n : Nat} (h : ∀ i j, i < j → j < n → f i ≠ f j) : ((List.range n).map f).Nodup := by
  unfold List.Nodup
  rw [List.pairwise_map]
  refine List.Pairwise.imp_of_mem (fun {a b} ha hb hab => ?_) List.pairwise_lt_range
  exact h a b hab (List.mem_range.1 hb)
/-- a loop that leaves at x -/
theorem forL_leave {β : Type} {t : D → DEnv → Option DEnv} {dead : List Nat} {body : DEnv → FR} (f : β → D) (Inv : DEnv → Prop) (R : FR) (x : β) (rest : List β) : ∀ (pre : List β) (env : DEnv), Inv env →
      (∀ y ∈ pre, ∀ e, Inv e → ∃ e1 e2, t (f y) (forget dead e) = some e1 ∧ (body e1 = .next e2 ∨ body e1 = .cnt e2) ∧ Inv e2) →
      (∀ e, Inv e → ∃ e1 v e2, t (f x) (forget dead e) = some e1 ∧ body e1 = .ret v e2 ∧ .ret v e2 = R) →
      forL t dead body ((pre ++ x :: rest).map f) env = R
  | [], env, h, _, hx => by
    obtain ⟨e1, v, e2, h1, h2, h3⟩ := hx env h
    simp only [List.nil_append, List.map_cons, forL, h1, h2]
    exact h3
  | y :: pre, env, h, st, hx => by
    obtain ⟨e1, e2, h1, h2, h3⟩ := st y List.mem_cons_self env h
    have ih := forL_leave f Inv R x rest pre e2 h3 (fun z hz => st z (List.mem_cons_of_mem _ hz)) hx
    simp only [List.cons_append, List.map_cons, forL, h1]
    rcases h2 with h2 | h2 <;> simp only [h2, ih]
/-- a good name -/
def Nm (w : Str) : Prop := 1 ≤ w.length ∧ w.length ≤ 8 ∧ ∀ c ∈ w.cps.toList, c ∈ ("abcdefghijklmnopqrstuvwxyz" : Str).cps.toList
theorem cps_len (w : Str) : w.cps.toList.length = w.length := Array.length_toList
theorem first_bad {α : Type} {p : α → Prop} : ∀ {xs : List α}, ¬ (∀ c ∈ xs, p c) → ∃ pre x rest, xs = pre ++ x :: rest ∧ (∀ y ∈ pre, p y) ∧ ¬ p x
  | [], h => absurd (fun _ q => nomatch q) h
  | x :: xs, h => by
    by_cases hx : p x
    · obtain ⟨pre, y, rest, e, h1, h2⟩ := first_bad (xs := xs) (p := p) fun q => h fun c hc => by
        rcases List.mem_cons.1 hc with rfl | hc
        · exact hx
        · exact q c hc
      exact ⟨x :: pre, y, rest, by rw [e]; rfl, fun z hz => by
        rcases List.mem_cons.1 hz with rfl | hz
        · exact hx
        · exact h1 z hz, h2⟩
    · exact ⟨[], x, xs, rfl, (fun _ q => nomatch q), hx⟩
theorem up_bad {w : Str} (h : Nm w) : ¬ Nm (Txt.upper w) ∧ (Txt.upper w).length = w.length := by
  obtain ⟨h1, h2, h3⟩ := h
  have ha : w.cps.toList.all (· < 128) = true := by
    rw [List.all_eq_true]
    intro c hc
    have := mem_letters.1 (h3 c hc)
    exact decide_eq_true (by omega)
  have e := SX.upper_S ha
  have ew : SX.S w.cps.toList = w := by cases w; rfl
  rw [ew] at e
  rw [e]
  have el : (SX.S (w.cps.toList.map PyProof.Rows.up1)).cps.toList = w.cps.toList.map PyProof.Rows.up1 := rfl
  refine ⟨fun hn => ?_, ?_⟩
  · obtain ⟨c, hc⟩ : ∃ c, c ∈ w.cps.toList := by
      cases q : w.cps.toList with
      | nil => have := cps_len w; rw [q] at this; simp at this; omega
      | cons c r => exact ⟨c, List.mem_cons_self⟩
    have b := mem_letters.1 (h3 c hc)
    have := mem_letters.1 (hn.2.2 (PyProof.Rows.up1 c) (by rw [el]; exact List.mem_map.2 ⟨c, hc, rfl⟩))
    unfold PyProof.Rows.up1 at this
    rw [if_pos (by omega)] at this
    omega
  · rw [← cps_len, el, List.length_map, cps_len]
/-! ### one taken out of a list -/
theorem perm_erase {α : Type} : ∀ {xs : List α} {k : Nat} {a : α}, xs[k]? = some a → xs.Perm (a :: xs.eraseIdx k)
  | [], k, a, h => by simp at h
  | x :: xs, 0, a, h => by simp at h; subst h; simp
  | x :: xs, k + 1, a, h => by
    have ih := perm_erase (xs := xs) (k := k) (a := a) (by simpa using h)
    rw [List.eraseIdx_cons_succ]
    exact (ih.cons x).trans (List.Perm.swap a x _)
theorem erase_map {α β : Type} (f : α → β) : ∀ (xs : List α) (k : Nat), (xs.map f).eraseIdx k = (xs.eraseIdx k).map f
  | [], _ => by simp
  | x :: xs, 0 => by simp
  | x :: xs, k + 1 => by simp [erase_map f xs k]
theorem popAt_is {β : Type} (f : β → D) {xs : List β} {v : Int} (h : 0 < xs.length) (hl : xs.length < 100000) : ∃ (a : β) (ys : List β), gPopAt (xs.map f) [.int (v % (xs.length : Nat))] = some (f a, ys.map f) ∧ xs.Perm (a :: ys) := by
  have a0 := Int.emod_nonneg v (b := (xs.length : Nat)) (by omega)
  have a1 := Int.emod_lt_of_pos v (b := (xs.length : Nat)) (by omega)
  obtain ⟨k, hk⟩ := Int.eq_ofNat_of_zero_le a0
  have hk' : k < xs.length := by omega
  refine ⟨xs[k], xs.eraseIdx k, ?_, perm_erase (List.getElem?_eq_getElem hk')⟩
  unfold gPopAt
  rw [hk]
  dsimp only
  rw [if_pos (by omega)]
  have e : seqIndex? (k : Int) (xs.map f).length = some k := by
    simp only [seqIndex?, List.length_map]
    have h1 : ¬ (k : Int) < 0 := by omega
    simp [h1]
    omega
  simp only [e, List.getElem?_map, List.getElem?_eq_getElem hk', Option.map_some, Option.some.injEq, Prod.mk.injEq, true_and]
  exact erase_map f xs k
theorem cutS_to (z : Str) (k : Nat) : (cutS z none (some (k : Nat))).cps.toList = z.cps.toList.take k := by
  have e := cutL_to z.cps.toList k
  unfold cutL at e
  rw [cps_len] at e
  unfold cutS
  exact e
theorem app_cpsL (a b : Str) : (a ++ b).cps.toList = a.cps.toList ++ b.cps.toList := Array.toList_append
theorem app_lenS (a b : Str) : (a ++ b).length = a.length + b.length := Array.size_append
theorem not_nm {w : Str} {c : Nat} (h : c ∈ w.cps.toList) (hc : ¬ (97 ≤ c ∧ c < 123)) : ¬ Nm w := fun q => hc (mem_letters.1 (q.2.2 c h))
end DX

namespace DX
open PySem PySem.Spec L2
open PyProof.Rows hiding St

/-! ### data equal to itself -/
def okE : Nat → D → Bool
  | _, .int _ => true
  | _, .str _ => true
  | _, .bl _ => true
  | n + 1, .tup xs => xs.all (okE n)
  | n + 1, .lst xs => xs.all (okE n)
  | _, _ => false
theorem deqL_self {f : D → D → Option Bool} : ∀ {xs : List D}, (∀ x ∈ xs, f x x = some true) → deqL f xs xs = some true
  | [], _ => rfl
  | x :: xs, h => by
    unfold deqL
    rw [h x List.mem_cons_self, deqL_self fun y hy => h y (List.mem_cons_of_mem _ hy)]
    rfl
theorem deqN_self : ∀ (n : Nat) (d : D), okE n d = true → deqN (n + 1) d d = some true
  | 0, d, h => by cases d <;> first | (cases h; done) | simp [deqN, flatD, deqF]
  | n + 1, d, h => by
    cases d with
    | tup xs =>
      simp only [okE, List.all_eq_true] at h
      exact deqL_self fun x hx => deqN_self n x (h x hx)
    | lst xs =>
      simp only [okE, List.all_eq_true] at h
      show (if xs.length = xs.length then deqL (deqN (n + 1)) xs xs else some false) = _
      rw [if_pos rfl]
      exact deqL_self fun x hx => deqN_self n x (h x hx)
    | _ => first | (cases h; done) | simp [deqN, flatD, deqF]
theorem deq_self {d : D} (h : okE 19 d = true) : deq d d = some true := deqN_self 19 d h
theorem gEq_same {d : D} (h : okE 19 d = true) : gEq [d, d] = some (.fz (.bl true)) := by simp only [gEq, deq_self h]; rfl
theorem gNe_same {d : D} (h : okE 19 d = true) : gNe [d, d] = some (.fz (.bl false)) := by simp only [gNe, deq_self h]; rfl
theorem okE_mono : ∀ {n m : Nat} {d : D}, n ≤ m → okE n d = true → okE m d = true
  | 0, m, d, _, h => by cases d <;> first | (cases h; done) | (cases m <;> rfl)
  | n + 1, 0, _, h, _ => by omega
  | n + 1, m + 1, d, h, e => by
    cases d with
    | tup xs =>
      simp only [okE, List.all_eq_true] at e ⊢
      exact fun x hx => okE_mono (by omega) (e x hx)
    | lst xs =>
      simp only [okE, List.all_eq_true] at e ⊢
      exact fun x hx => okE_mono (by omega) (e x hx)
    | _ => first | (cases e; done) | rfl
theorem okE_row (n : Nat) (r : TRow) : okE (n + 1) (row r) = true := by
  unfold row okE
  rw [List.all_eq_true]
  intro x hx
  obtain ⟨z, _, rfl⟩ := List.mem_map.1 hx
  cases n <;> rfl
/-! ### dicts keyed by rows -/
def kvR {α : Type} (g : α → D) (m : List (TRow × α)) : List (List Key × D) := m.map fun p => (keyR p.1, g p.2)
def putK {α : Type} (m : List (TRow × α)) (r : TRow) (v : α) : List (TRow × α) := if r ∈ m.map (·.1) then m.map (fun p => if p.1 = r then (p.1, v) else p) else m ++ [(r, v)]
theorem keyR_eq {a b : TRow} : (keyR a = keyR b) = (a = b) := propext ⟨keyR_inj, fun e => e ▸ rfl⟩
theorem kvR_any {α : Type} (g : α → D) (m : List (TRow × α)) (r : TRow) : ((kvR g m).any fun kv => decide (kv.1 = keyR r)) = decide (r ∈ m.map (·.1)) := by
  rw [Bool.eq_iff_iff]
  simp only [kvR, List.any_map, List.any_eq_true, Function.comp, decide_eq_true_eq, keyR_eq, List.mem_map]
theorem putD_kvR {α : Type} (g : α → D) (m : List (TRow × α)) (r : TRow) (v : α) : putD (kvR g m) (keyR r) (g v) = kvR g (putK m r v) := by
  unfold putD putK
  rw [kvR_any]
  by_cases h : r ∈ m.map (·.1)
  · simp only [h, decide_true, if_true]
    unfold kvR
    rw [List.map_map, List.map_map]
    refine List.map_congr_left fun p _ => ?_
    simp only [Function.comp, keyR_eq]
    split <;> rfl
  · simp only [h, decide_false, Bool.false_eq_true, if_false]
    simp [kvR]
def getK {α : Type} (m : List (TRow × α)) (r : TRow) : Option α := (m.find? fun p => decide (p.1 = r)).map (·.2)
theorem valD_kvR {α : Type} (g : α → D) (r : TRow) : ∀ m : List (TRow × α), valD (kvR g m) (keyR r) = (getK m r).map g
  | [] => rfl
  | p :: m => by
    have ih := valD_kvR g r m
    simp only [valD, getK, kvR, List.map_cons, List.find?_cons, keyR_eq] at ih ⊢
    by_cases h : p.1 = r
    · simp [h]
    · simp only [h, decide_false]
      exact ih
theorem getK_some {α : Type} {r : TRow} : ∀ {m : List (TRow × α)}, r ∈ m.map (·.1) → ∃ v, getK m r = some v ∧ (r, v) ∈ m
  | p :: m, h => by
    by_cases e : p.1 = r
    · exact ⟨p.2, by simp [getK, e], by rw [← e]; exact List.mem_cons_self⟩
    · have h : r ∈ m.map (·.1) := by
        rcases List.mem_cons.1 (by simpa using h : r = p.1 ∨ r ∈ m.map (·.1) |> fun h => r ∈ p.1 :: m.map (·.1)) with q | q
        · exact absurd q.symm e
        · exact q
      obtain ⟨v, h1, h2⟩ := getK_some h
      refine ⟨v, ?_, List.mem_cons_of_mem _ h2⟩
      simp only [getK, List.find?_cons, e, decide_false] at h1 ⊢
      exact h1
theorem getK_nodup {α : Type} {r : TRow} {v : α} : ∀ {m : List (TRow × α)}, (m.map (·.1)).Nodup → (r, v) ∈ m → getK m r = some v
  | p :: m, nd, h => by
    simp only [List.map_cons, List.nodup_cons] at nd
    rcases List.mem_cons.1 h with e | h
    · subst e; simp [getK]
    · have ne : ¬ p.1 = r := fun e => nd.1 (by rw [e]; exact List.mem_map.2 ⟨_, h, rfl⟩)
      have ih := getK_nodup nd.2 h
      simp only [getK, List.find?_cons, ne, decide_false] at ih ⊢
      exact ih
theorem putK_keys {α : Type} (m : List (TRow × α)) (r : TRow) (v : α) : (putK m r v).map (·.1) = addR (m.map (·.1)) r := by
  unfold putK addR
  split
  · rw [List.map_map]
    refine List.map_congr_left fun p _ => ?_
    simp only [Function.comp]
    split <;> rfl
  · simp
theorem addR_nodup {ks : List TRow} {z : TRow} (h : ks.Nodup) : (addR ks z).Nodup := by
  unfold addR
  split
  · exact h
  · rename_i hz
    rw [List.nodup_append]
    exact ⟨h, by simp, fun a ha b hb => by rw [List.mem_singleton.1 hb]; exact fun e => hz (e ▸ ha)⟩
theorem gDGet_kvR {α : Type} (g : α → D) (m : List (TRow × α)) (r : TRow) {v : α} (h : getK m r = some v) : gDGet [.dT (kvR g m), row r] = some (.fz (g v)) := by
  show ((keyT (row r)).bind fun k => (valD (kvR g m) k).map Val.fz) = _
  rw [keyT_row, Option.bind_some, valD_kvR, h]
  rfl
theorem gSortedDT_kvR {α : Type} (g : α → D) (m : List (TRow × α)) (h : ∀ r ∈ m.map (·.1), r ≠ []) : gSortedDT [.dT (kvR g m)] = some (.tmp (.lst ((sortRows (m.map (·.1))).map row))) := by
  have e : (kvR g m).map (fun kv => keyTD kv.1) = (m.map (·.1)).map row := by
    unfold kvR
    rw [List.map_map, List.map_map]
    exact List.map_congr_left fun p _ => keyTD_row _
  unfold gSortedDT
  simp only [e]
  rw [if_pos (sortOk_rows h), map_row_sort]
theorem gDIn_kvR {α : Type} (g : α → D) (n : Bool) (m : List (TRow × α)) (r : TRow) : gDIn n [row r, .dT (kvR g m)] = some (.fz (.bl (if n then !decide (r ∈ m.map (·.1)) else decide (r ∈ m.map (·.1))))) := by
  show ((keyT (row r)).map fun k => Val.fz (.bl (if n then !(valD (kvR g m) k).isSome else (valD (kvR g m) k).isSome))) = _
  rw [keyT_row, Option.map_some, valD_kvR]
  have e : ((getK m r).map g).isSome = decide (r ∈ m.map (·.1)) := by
    by_cases h : r ∈ m.map (·.1)
    · obtain ⟨v, hv, _⟩ := getK_some h
      simp only [hv, h, Option.map_some, Option.isSome_some, decide_true]
    · have : getK m r = none := by
        cases q : getK m r with
        | none => rfl
        | some v =>
          unfold getK at q
          cases f : m.find? fun p => decide (p.1 = r) with
          | none => rw [f] at q; cases q
          | some p =>
            have h1 := List.mem_of_find?_eq_some f
            have h2 := List.find?_some f
            exact absurd (List.mem_map.2 ⟨p, h1, by simpa using h2⟩) h
      simp only [this, h, Option.map_none, Option.isSome_none, decide_false]
  rw [e]
theorem gDIn_tkR' (z : TRow) (ks : List TRow) : gDIn true [row z, .dT (tkR ks)] = some (.fz (.bl (!decide (z ∈ ks)))) := by
  have e : gDIn true [row z, .dT (tkR ks)] = (keyT (row z)).map fun k => .fz (.bl !(valD (tkR ks) k).isSome) := rfl
  rw [e, keyT_row, Option.map_some, valD_tkR]
/-! ### the steps of a ground -/
structure Stp where
  claim : TRow
  aim : TRow
  parts : List (Int × TRow)
def ptD (p : Int × TRow) : D := .tup [.int p.1, row p.2]
def stD (s : Stp) : D := .tup [row s.claim, row s.aim, .lst (s.parts.map ptD)]
def stO (s : Stp) : D := .ow (.dt [row s.claim, row s.aim, .ow (.lst (s.parts.map ptD))])
theorem okE_pt (n : Nat) (p : Int × TRow) : okE (n + 2) (ptD p) = true := by
  unfold ptD
  simp [okE, okE_row]
theorem okE_st (n : Nat) (s : Stp) : okE (n + 4) (stD s) = true := by
  unfold stD
  have h : ∀ x ∈ s.parts.map ptD, okE (n + 2) x = true := fun x hx => by
    obtain ⟨p, _, rfl⟩ := List.mem_map.1 hx
    exact okE_pt n p
  simp only [okE, List.all_cons, List.all_nil, Bool.and_true, Bool.and_eq_true, List.all_eq_true]
  exact ⟨okE_row _ _, okE_row _ _, h⟩
theorem okE_sts (n : Nat) (g : List Stp) : okE (n + 5) (.lst (g.map stD)) = true := by
  simp only [okE, List.all_eq_true]
  intro x hx
  obtain ⟨p, _, rfl⟩ := List.mem_map.1 hx
  exact okE_st n p
theorem gNe_sts (g : List Stp) : gNe [.lst (g.map stD), .lst (g.map stD)] = some (.fz (.bl false)) := gNe_same (okE_mono (by decide) (okE_sts 0 g))
theorem gEq_sts (g : List Stp) : gEq [.lst (g.map stD), .lst (g.map stD)] = some (.fz (.bl true)) := gEq_same (okE_mono (by decide) (okE_sts 0 g))
theorem frzD_row (r : TRow) : frzD (row r) = some (row r) := rfl
theorem plainL_map {β : Type} {f : D → Option D} {a b : β → D} : ∀ {xs : List β}, (∀ x ∈ xs, f (a x) = some (b x)) → plainL f (xs.map a) = some (xs.map b)
  | [], _ => rfl
  | x :: xs, h => by
    simp only [List.map_cons, plainL]
    rw [h x List.mem_cons_self, plainL_map fun y hy => h y (List.mem_cons_of_mem _ hy)]
    rfl
theorem plain_st (n : Nat) (s : Stp) : plainN (n + 3) (stO s) = some (stD s) := by
  have e : ∀ m r, plainN m (row r) = some (row r) := fun m r => by cases m <;> rfl
  have e2 : ∀ m (xs : List D), plainN m (.lst xs) = some (.lst xs) := fun m xs => by cases m <;> rfl
  simp [stO, stD, plainN, plainL, e, e2]
theorem plain_sts (g : List Stp) : plainN 8 (.dl (g.map stO)) = some (.lst (g.map stD)) := by
  show (plainL (plainN 7) (g.map stO)).map D.lst = _
  rw [plainL_map (b := stD) fun s _ => plain_st 4 s]
  rfl
theorem lcO_map {β γ : Type} {t : D → DEnv → Option DEnv} {own : List Nat} {me : DEnv → ER} {env : DEnv} (f : β → D) (g : γ → D) (h : β → γ) : ∀ (xs : List β) (acc : List γ), acc.length + xs.length ≤ sizeLine →
    (∀ x ∈ xs, ∃ e1, t (f x) env = some e1 ∧ ∃ rv e3 e4, me e1 = .ok rv e3 ∧ partV rv e3 = some (g (h x), e4) ∧ forget own e4 = env) →
    lcO t own me (xs.map f) env (acc.map g) = .ok (.tmp (.dl ((acc ++ xs.map h).map g))) env
  | [], acc, _, _ => by simp [lcO]
  | x :: xs, acc, hl, st => by
    obtain ⟨e1, h1, rv, e3, e4, h2, h3, h4⟩ := st x List.mem_cons_self
    simp only [List.map_cons, lcO, h1, h2, h3]
    simp only [List.length_cons] at hl
    rw [if_pos (by rw [List.length_map]; omega), h4]
    have r := lcO_map f g h xs (acc ++ [h x]) (by simp; omega) fun y hy => st y (List.mem_cons_of_mem _ hy)
    simp only [List.map_append, List.map_cons, List.map_nil, List.append_assoc, List.cons_append, List.nil_append] at r ⊢
    exact r
theorem forO_map {β : Type} {j : Nat} {dead : List Nat} {body : DEnv → FR} {fin : List D → DEnv → FR} {un : DEnv → Option DEnv} (f g : β → D) {E : DEnv} (h1 : forget dead E = E) (h2 : E[j]? = some .un) : ∀ (xs : List β) (done : List D),
    (∀ x ∈ xs, body (E.set j (.v .io (f x))) = .next (E.set j (.v .io (g x)))) → forO j dead body fin un done (xs.map fun x => .ow (f x)) E = fin (done ++ xs.map fun x => .ow (g x)) E
  | [], done, _ => by simp [forO, h1]
  | x :: xs, done, h => by
    have hj : j < E.length := getElem?_lt h2
    have e : (E.set j (.v .io (g x))).set j .un = E := by
      rw [List.set_set]
      apply List.ext_getElem?
      intro k
      rw [List.getElem?_set]
      split
      · rename_i e; subst e; rw [h2]
      · rfl
    simp only [List.map_cons, forO, h1, h2, freeS, if_true, h x List.mem_cons_self, List.getElem?_set_self hj, e]
    have r := forO_map (fin := fin) (un := un) f g h1 h2 xs (done ++ [D.ow (g x)]) fun y hy => h y (List.mem_cons_of_mem _ hy)
    rw [r]
    simp
end DX

namespace K46
open PySem PySem.Spec L2 DX
open PyProof.Rows hiding St
noncomputable section
def errAll : List Str := []
abbrev sg__law_cell_at : List PM := [.rd, .va]
def M__law_cell_at : DEnv → FR :=
  (dSeq (dIf (dTst (dPrim gLt [(dVar 1), (dPrim gLen [(dVar 0)])])) (dRet (dPrim gIx [(dVar 0), (dVar 1)])) (fun env => .next env))
    (dRet (dC (.int 0))))
def F__law_cell_at : List D → FnR := runFn M__law_cell_at 2 sg__law_cell_at
abbrev sg__law_number : List PM := [.rd, .va]
def B__law_number_1 : DEnv → FR :=
  (dSeq (dSet 2 (dPrim gMod [(dPrim gAdd [(dPrim gAdd [(dPrim gAdd [(dPrim gMul [(dVar 2), (dC (.int 40692))]), (dPrim gDiv [(dVar 2), (dC (.int 52774))])]), (dPrim gMul [(dPrim gMul [(dC (.int 23)), (dVar 4)]), (dVar 4)])]), (dC (.int 7))]), (dC (.int 2147483647))]))
    (dSet 3 (dPrim gAdd [(dPrim gMul [(dVar 3), (dC (.int 2147483647))]), (dPrim gMod [(dPrim gMul [(dVar 2), (dC (.int 39373))]), (dC (.int 2147483549))])])))
def M__law_number : DEnv → FR :=
  (dSeq (dIf (dTst (dPrim gGe [(dPrim gAbs [(dCall sg__law_cell_at F__law_cell_at [(dVar 0), (dVar 1)])]), (dPrim gPow [(dC (.int 10)), (dC (.int 18))])])) (dRet (dCall sg__law_cell_at F__law_cell_at [(dVar 0), (dVar 1)])) (fun env => .next env))
    (dSeq (dSet 2 (dPrim gAdd [(dPrim gAdd [(dCall sg__law_cell_at F__law_cell_at [(dVar 0), (dC (.int 0))]), (dPrim gMul [(dC (.int 6007)), (dVar 1)])]), (dPrim gMul [(dC (.int 37)), (dCall sg__law_cell_at F__law_cell_at [(dVar 0), (dVar 1)])])]))
    (dSeq (dSet 2 (dPrim gAdd [(dPrim gMod [(dVar 2), (dC (.int 2147483563))]), (dC (.int 29))]))
    (dSeq (dSet 3 (dC (.int 0)))
    (dSeq (dForR1 (dC (.int 9)) (gNm 4) [4] B__law_number_1)
    (dRet (dVar 3)))))))
def F__law_number : List D → FnR := runFn M__law_number 5 sg__law_number
abbrev sg__law_word_by : List PM := [.va]
def B__law_word_by_1 : DEnv → FR :=
  (dSeq (dSet 2 (dPrim gAdd [(dVar 2), (dPrim gIx [(dVar 1), (dPrim gMod [(dVar 3), (dC (.int 26))])])]))
    (dSet 3 (dPrim gDiv [(dVar 3), (dC (.int 26))])))
def M__law_word_by : DEnv → FR :=
  (dSeq (dSet 1 (dC (.str "abcdefghijklmnopqrstuvwxyz")))
    (dSeq (dSet 2 (dC (.str "")))
    (dSeq (dSet 3 (dPrim gDiv [(dVar 0), (dC (.int 8))]))
    (dSeq (dForR1 (dPrim gAdd [(dC (.int 1)), (dPrim gMod [(dVar 0), (dC (.int 8))])]) (gNm 4) [4] B__law_word_by_1)
    (dRet (dVar 2))))))
def F__law_word_by : List D → FnR := runFn M__law_word_by 5 sg__law_word_by
abbrev sg__law_names : List PM := [.rd, .va, .va]
def B__law_names_1 : DEnv → FR :=
  (dSeq (dSet 5 (dCall sg__law_word_by F__law_word_by [(dCall sg__law_number F__law_number [(dVar 0), (dPrim gAdd [(dVar 1), (dVar 4)])])]))
    (dIf (dTst (dPrim (gInDN true) [(dVar 5), (dVar 3)])) (dDrop (dMutL 3 gAppend [(dVar 5)])) (fun env => .next env)))
def M__law_names : DEnv → FR :=
  (dSeq (dSet 3 (dMake dLst []))
    (dSeq (dForR1 (dVar 2) (gNm 4) [4, 5] B__law_names_1)
    (dRet (dVar 3))))
def F__law_names : List D → FnR := runFn M__law_names 6 sg__law_names
abbrev sg__law_exchange_by : List PM := [.va, .rd]
def B__law_exchange_by_1 : DEnv → FR :=
  (dSeq (dDrop (dMutL 3 gAppend [(dMutL 2 gPopAt [(dPrim gMod [(dVar 0), (dPrim gLen [(dVar 2)])])])]))
    (dSet 0 (dPrim gDiv [(dVar 0), (dPrim gAdd [(dPrim gLen [(dVar 2)]), (dC (.int 1))])])))
def M__law_exchange_by : DEnv → FR :=
  (dSeq (dSet 2 (dPrim gList [(dVar 1)]))
    (dSeq (dSet 3 (dMake dLst []))
    (dSeq (dForR1 (dC (.int 5)) (gNm 4) [4] B__law_exchange_by_1)
    (dSeq (dAsg (gLs [(gNm 5), (gNm 6), (gNm 7), (gNm 8), (gNm 9)]) (dVar 3))
    (dRet (dMake dTup [(dVar 5), (dPrim gMinS [(dVar 6), (dVar 7)]), (dPrim gMaxS [(dVar 6), (dVar 7)]), (dPrim gMinS [(dVar 8), (dVar 9)]), (dPrim gMaxS [(dVar 8), (dVar 9)])]))))))
def F__law_exchange_by : List D → FnR := runFn M__law_exchange_by 10 sg__law_exchange_by
abbrev sg__law_triple : List PM := [.va, .va, .va]
def M__law_triple : DEnv → FR :=
  (dRet (dPrim gTuple [(dPrim gSorted [(dMake dLst [(dVar 0), (dVar 1), (dVar 2)])])]))
def F__law_triple : List D → FnR := runFn M__law_triple 3 sg__law_triple
abbrev sg__law_parts_by : List PM := [.va, .rd]
def B__law_parts_by_1 : DEnv → FR :=
  (dSeq (dSet 5 (dPrim gSub [(dPrim gMod [(dVar 3), (dC (.int 9))]), (dC (.int 4))]))
    (dSeq (dSet 3 (dPrim gDiv [(dVar 3), (dC (.int 9))]))
    (dSeq (dIf (dTst (dPrim gNe [(dVar 5), (dC (.int 0))])) (dAsg (gPut 2 (dCall sg__law_exchange_by F__law_exchange_by [(dPrim gMod [(dVar 3), (dPrim gPow [(dC (.int 10)), (dC (.int 6))])]), (dVar 1)])) (dVar 5)) (fun env => .next env))
    (dSet 3 (dPrim gDiv [(dVar 3), (dPrim gPow [(dC (.int 10)), (dC (.int 6))])])))))
def K__law_parts_by_1 : DEnv → ER :=
  (dMake dTup [(dPrim gDGet [(dVar 2), (dVar 6)]), (dVar 6)])
def M__law_parts_by : DEnv → FR :=
  (dSeq (dSet 2 dNewT)
    (dSeq (dSet 3 (dPrim gDiv [(dVar 0), (dC (.int 5))]))
    (dSeq (dForR1 (dPrim gMod [(dVar 0), (dC (.int 5))]) (gNm 4) [4, 5] B__law_parts_by_1)
    (dRet (dLc (mIt itL (dPrim gSortedDT [(dVar 2)])) (gNm 6) [6] dYes K__law_parts_by_1)))))
def F__law_parts_by : List D → FnR := runFn M__law_parts_by 7 sg__law_parts_by
abbrev sg__law_ground_by : List PM := [.rd, .va, .rd, .va]
def B__law_ground_by_1 : DEnv → FR :=
  (dSeq (dSet 6 (dCall sg__law_number F__law_number [(dVar 0), (dPrim gAdd [(dPrim gAdd [(dVar 1), (dC (.int 1))]), (dVar 5)])]))
    (dSeq (dSet 7 (dCall sg__law_exchange_by F__law_exchange_by [(dPrim gMod [(dVar 6), (dPrim gPow [(dC (.int 10)), (dC (.int 6))])]), (dVar 2)]))
    (dSeq (dSet 8 (dCall sg__law_triple F__law_triple [(dPrim gIx [(dVar 7), (dC (.int 0))]), (dPrim gIx [(dVar 7), (dC (.int 1))]), (dPrim gIx [(dVar 7), (dC (.int 2))])]))
    (dDrop (dMutL 4 gAppend [(dMake dTup [(dVar 8), (dVar 7), (dCall sg__law_parts_by F__law_parts_by [(dPrim gDiv [(dVar 6), (dPrim gPow [(dC (.int 10)), (dC (.int 6))])]), (dVar 2)])])])))))
def M__law_ground_by : DEnv → FR :=
  (dSeq (dSet 4 (dMake dLst []))
    (dSeq (dForR1 (dPrim gMod [(dCall sg__law_number F__law_number [(dVar 0), (dVar 1)]), (dPrim gAdd [(dVar 3), (dC (.int 1))])]) (gNm 5) [5, 6, 7, 8] B__law_ground_by_1)
    (dRet (dVar 4))))
def F__law_ground_by : List D → FnR := runFn M__law_ground_by 9 sg__law_ground_by
abbrev sg__law_copied : List PM := [.rd]
def K__law_copied_1 : DEnv → ER :=
  (dMake dTup [(dVar 1), (dVar 2), (dPrim gList [(dVar 3)])])
def M__law_copied : DEnv → FR :=
  (dRet (dLcR 0 (gTpR [1, 2, 3] (gTp [(gNm 1), (gNm 2), (gNm 3)])) [1, 2, 3] K__law_copied_1))
def F__law_copied : List D → FnR := runFn M__law_copied 4 sg__law_copied
abbrev sg_plain : List PM := [.va]
def M_plain : DEnv → FR :=
  (dSeq (dAsg (gTp [(gNm 1), (gNm 2), (gNm 3), (gNm 4), (gNm 5)]) (dVar 0))
    (dSeq (dSet 6 (dC (.int 1)))
    (dSeq (dIf (dTst (dPrim gLt [(dVar 3), (dVar 2)])) (dSeq (dPar 2 3 (dVar 3) (dVar 2))
    (dSet 6 (dPrim gNeg [(dVar 6)]))) (fun env => .next env))
    (dSeq (dIf (dTst (dPrim gLt [(dVar 5), (dVar 4)])) (dSeq (dPar 4 5 (dVar 5) (dVar 4))
    (dSet 6 (dPrim gNeg [(dVar 6)]))) (fun env => .next env))
    (dRet (dMake dTup [(dVar 6), (dMake dTup [(dVar 1), (dVar 2), (dVar 3), (dVar 4), (dVar 5)])]))))))
def F_plain : List D → FnR := runFn M_plain 7 sg_plain
abbrev sg_renamed_exchange : List PM := [.va, .rd]
def K_renamed_exchange_1 : DEnv → ER :=
  (dPrim gDGet [(dVar 1), (dVar 2)])
def M_renamed_exchange : DEnv → FR :=
  (dRet (dCall sg_plain F_plain [(dPrim gTuple [(dLc (mIt itT (dVar 0)) (gNm 2) [2] dYes K_renamed_exchange_1)])]))
def F_renamed_exchange : List D → FnR := runFn M_renamed_exchange 3 sg_renamed_exchange
abbrev sg_triple : List PM := [.va, .va, .va]
def M_triple : DEnv → FR :=
  (dRet (dPrim gTuple [(dPrim gSorted [(dMake dLst [(dVar 0), (dVar 1), (dVar 2)])])]))
def F_triple : List D → FnR := runFn M_triple 3 sg_triple
abbrev sg_renamed : List PM := [.rd, .rd]
def B_renamed_1 : DEnv → FR :=
  (dSeq (dAsg (gTp [(gNm 11), (gNm 12)]) (dCall sg_renamed_exchange F_renamed_exchange [(dVar 10), (dVar 1)]))
    (dDrop (dMutL 8 gAppend [(dMake dTup [(dVar 12), (dPrim gMul [(dPrim gMul [(dVar 9), (dVar 11)]), (dVar 6)])])])))
def K_renamed_1 : DEnv → ER :=
  (dMake dTup [(dVar 9), (dVar 12)])
def B_renamed_2 : DEnv → FR :=
  (dSeq (dAsg (gTp [(gNm 6), (gNm 7)]) (dCall sg_renamed_exchange F_renamed_exchange [(dVar 4), (dVar 1)]))
    (dSeq (dSet 8 (dMake dLst []))
    (dSeq (dFor itL (dVar 5) (gTp [(gNm 9), (gNm 10)]) [9, 10, 11, 12] B_renamed_1)
    (dSeq (dSet 13 (dLc (mIt itL (dPrim gSortedT [(dVar 8)])) (gTp [(gNm 12), (gNm 9)]) [12, 9] dYes K_renamed_1))
    (dDrop (dAppO 2 (dTupO [(dCall sg_triple F_triple [(dPrim gDGet [(dVar 1), (dPrim gIx [(dVar 3), (dC (.int 0))])]), (dPrim gDGet [(dVar 1), (dPrim gIx [(dVar 3), (dC (.int 1))])]), (dPrim gDGet [(dVar 1), (dPrim gIx [(dVar 3), (dC (.int 2))])])]), (dVar 7), (dVar 13)])))))))
def M_renamed : DEnv → FR :=
  (dSeq (dSet 2 (dLstO []))
    (dSeq (dFor itL (dVar 0) (gTp [(gNm 3), (gNm 4), (gNm 5)]) [3, 4, 5, 6, 7, 8, 9, 10, 11, 12, 13] B_renamed_2)
    (dRet (dVar 2))))
def F_renamed : List D → FnR := runFn M_renamed 14 sg_renamed
abbrev sg__law_plain_of : List PM := [.va, .rd]
def K__law_plain_of_1 : DEnv → ER :=
  (dPrim gDGet [(dVar 1), (dVar 8)])
def M__law_plain_of : DEnv → FR :=
  (dSeq (dAsg (gLs [(gNm 2), (gNm 3), (gNm 4), (gNm 5), (gNm 6)]) (dLc (mIt itT (dVar 0)) (gNm 8) [8] dYes K__law_plain_of_1))
    (dSeq (dSet 7 (dC (.int 1)))
    (dSeq (dIf (dTst (dPrim gLt [(dVar 4), (dVar 3)])) (dSet 7 (dPrim gSub [(dC (.int 0)), (dVar 7)])) (fun env => .next env))
    (dSeq (dIf (dTst (dPrim gLt [(dVar 6), (dVar 5)])) (dSet 7 (dPrim gSub [(dC (.int 0)), (dVar 7)])) (fun env => .next env))
    (dRet (dMake dTup [(dVar 7), (dMake dTup [(dVar 2), (dPrim gMinS [(dVar 3), (dVar 4)]), (dPrim gMaxS [(dVar 3), (dVar 4)]), (dPrim gMinS [(dVar 5), (dVar 6)]), (dPrim gMaxS [(dVar 5), (dVar 6)])])]))))))
def F__law_plain_of : List D → FnR := runFn M__law_plain_of 9 sg__law_plain_of
abbrev sg__law_due : List PM := [.rd, .rd]
def B__law_due_1 : DEnv → FR :=
  (dSeq (dAsg (gTp [(gNm 11), (gNm 12)]) (dCall sg__law_plain_of F__law_plain_of [(dVar 10), (dVar 1)]))
    (dAsg (gPut 8 (dVar 12)) (dPrim gMul [(dPrim gMul [(dVar 9), (dVar 11)]), (dVar 6)])))
def K__law_due_1 : DEnv → ER :=
  (dMake dTup [(dPrim gDGet [(dVar 8), (dVar 12)]), (dVar 12)])
def B__law_due_2 : DEnv → FR :=
  (dSeq (dAsg (gTp [(gNm 6), (gNm 7)]) (dCall sg__law_plain_of F__law_plain_of [(dVar 4), (dVar 1)]))
    (dSeq (dSet 8 dNewT)
    (dSeq (dFor itL (dVar 5) (gTp [(gNm 9), (gNm 10)]) [9, 10, 11, 12] B__law_due_1)
    (dSeq (dSet 13 (dLc (mIt itL (dPrim gSortedDT [(dVar 8)])) (gNm 12) [12] dYes K__law_due_1))
    (dDrop (dMutL 2 gAppend [(dMake dTup [(dCall sg__law_triple F__law_triple [(dPrim gDGet [(dVar 1), (dPrim gIx [(dVar 3), (dC (.int 0))])]), (dPrim gDGet [(dVar 1), (dPrim gIx [(dVar 3), (dC (.int 1))])]), (dPrim gDGet [(dVar 1), (dPrim gIx [(dVar 3), (dC (.int 2))])])]), (dVar 7), (dVar 13)])]))))))
def M__law_due : DEnv → FR :=
  (dSeq (dSet 2 (dMake dLst []))
    (dSeq (dFor itL (dVar 0) (gTp [(gNm 3), (gNm 4), (gNm 5)]) [3, 4, 5, 6, 7, 8, 9, 10, 11, 12, 13] B__law_due_2)
    (dRet (dVar 2))))
def F__law_due : List D → FnR := runFn M__law_due 14 sg__law_due
abbrev sg_law : List PM := [.va]
def K_law_1 : DEnv → ER :=
  (dVar 12)
def B_law_1 : DEnv → FR :=
  (dSeq (dAsg (gPut 3 (dPrim gIx [(dVar 1), (dVar 5)])) (dPrim gIx [(dVar 2), (dVar 5)]))
    (dAsg (gPut 4 (dPrim gIx [(dVar 2), (dVar 5)])) (dPrim gIx [(dVar 1), (dVar 5)])))
def B_law_2 : DEnv → FR :=
  (dDrop (dAppIx 11 2 (dC (.int 0))))
def M_law : DEnv → FR :=
  (dSeq (dSet 1 (dCall sg__law_names F__law_names [(dVar 0), (dC (.int 1)), (dC (.int 7))]))
    (dSeq (dIf (dTst (dPrim gLt [(dPrim gLen [(dVar 1)]), (dC (.int 5))])) (dSet 1 (dMake dLst [(dC (.str "b")), (dC (.str "ab")), (dC (.str "a")), (dC (.str "zz")), (dC (.str "c"))])) (fun env => .next env))
    (dSeq (dSet 2 (dCall sg__law_names F__law_names [(dVar 0), (dC (.int 20)), (dC (.int 12))]))
    (dSeq (dSet 2 (dPrim gAdd [(dVar 2), (dLc (mIt itL (dVar 1)) (gNm 12) [12] (dTst (dPrim (gInDN true) [(dVar 12), (dVar 2)])) K_law_1)]))
    (dSeq (dSet 3 dNewK)
    (dSeq (dSet 4 dNewK)
    (dSeq (dForR1 (dPrim gLen [(dVar 1)]) (gNm 5) [5] B_law_1)
    (dSeq (dSet 6 (dCall sg__law_ground_by F__law_ground_by [(dVar 0), (dC (.int 10)), (dVar 1), (dC (.int 6))]))
    (dSeq (dSet 7 (dCall sg__law_copied F__law_copied [(dVar 6)]))
    (dSeq (dSet 8 (dPrim gDict [(dVar 3)]))
    (dSeq (dSet 9 (dCall sg_renamed F_renamed [(dVar 7), (dVar 3)]))
    (dSeq (dIf (dOrT (dNotT (dTst (dPrimP (gIsi .list) [(dVar 9)]))) (dOrT (dTst (dPrimP gNe [(dVar 9), (dCall sg__law_due F__law_due [(dVar 6), (dVar 3)])])) (dOrT (dTst (dPrim gNe [(dVar 7), (dVar 6)])) (dTst (dPrim gNeD [(dVar 3), (dVar 8)]))))) (dRet (dC (.bl false))) (fun env => .next env))
    (dSeq (dSet 10 (dCall sg__law_copied F__law_copied [(dVar 9)]))
    (dSeq (dForO (dVar 9) 11 [11] B_law_2)
    (dSeq (dDrop (dClrO 9))
    (dRet (dAndV (dPrimP gEq [(dCall sg_renamed F_renamed [(dVar 10), (dVar 4)]), (dVar 6)]) (dPrim gEq [(dVar 7), (dVar 6)]))))))))))))))))))
def F_law : List D → FnR := runFn M_law 13 sg_law
end
end K46

namespace K46
open PySem PySem.Spec L2 DX
open PyProof.Rows hiding St
def topS (i : Nat) : Stmt := PySem.Challenge.pw_linesaid_k46_renamed.main.body.getD i (.Pass ⟨0, 0, 0, 0⟩)
abbrev s__law_cell_at : Stmt := topS 8
abbrev s__law_number : Stmt := topS 9
abbrev s__law_word_by : Stmt := topS 10
abbrev s__law_names : Stmt := topS 11
abbrev s__law_exchange_by : Stmt := topS 17
abbrev s__law_triple : Stmt := topS 12
abbrev s__law_parts_by : Stmt := topS 18
abbrev s__law_ground_by : Stmt := topS 19
abbrev s__law_copied : Stmt := topS 20
abbrev s_plain : Stmt := topS 3
abbrev s_renamed_exchange : Stmt := topS 5
abbrev s_triple : Stmt := topS 1
abbrev s_renamed : Stmt := topS 6
abbrev s__law_plain_of : Stmt := topS 21
abbrev s__law_due : Stmt := topS 22
abbrev s_law : Stmt := topS 23
structure Txt (K : PySem.W.Frag) (mg : Str → Option Value) : Prop where
  n_abs : mg "abs" = none
  n_dict : mg "dict" = none
  n_isinstance : mg "isinstance" = none
  n_len : mg "len" = none
  n_list : mg "list" = none
  n_max : mg "max" = none
  n_min : mg "min" = none
  n_range : mg "range" = none
  n_sorted : mg "sorted" = none
  n_tuple : mg "tuple" = none
section
variable {P : Program} {w : World} {K : PySem.W.Frag} {mg : Str → Option Value} {base : Heap}
theorem sc__law_cell_at : FnScope ["_law_script", "_law_k"] ["_law_script", "_law_k"] (defScope s__law_cell_at) := ⟨rfl, rfl, rfl, by decide +kernel, rfl, by decide +kernel, by decide +kernel⟩
theorem b__law_cell_at (T : Txt K mg)  {f : Addr} : BodyOk P w K mg base ["_law_script", "_law_k"] "_law_cell_at" s__law_cell_at f 0 M__law_cell_at := by
  intro cdv A outer s H E R Pn hr
  have tk : Takes (cxOf (L2.CX P w) P w K mg base ["_law_script", "_law_k"] "_law_cell_at" (defScope s__law_cell_at) f cdv A outer s H E) (fun cls d _ H => E cls d H) := takes_of rfl rfl rfl rfl
  have po : PassesOwn (model P w) _ _ _ := passes_of (X := cxOf (L2.CX P w) P w K mg base ["_law_script", "_law_k"] "_law_cell_at" (defScope s__law_cell_at) f cdv A outer s H E) rfl
  exact (mss_cons (ms_if (mt_cmp opd_lt me_var (me_callB callLen (by rfl) T.n_len PySem.boot_len (.cons me_var .nil) (pa_cons pe_w pa_nil))) (mss_one (ms_ret (me_ix ixd me_var me_var))) mss_nil)
    (mss_one (ms_ret me_int)))
theorem ok__law_cell_at (T : Txt K mg)  {f : Addr} {fd : FuncData} (F : Fun K "_law_cell_at" "_law_cell_at" s__law_cell_at f fd) (hm : mg "_law_cell_at" = some (.ref f)) (hb : Binds K fd ["_law_script", "_law_k"] []) : FnD P w K mg base "_law_cell_at" 1 ["_law_script", "_law_k"] sg__law_cell_at F__law_cell_at :=
  ⟨f, fd, fn_ok F sc__law_cell_at sg__law_cell_at rfl (b__law_cell_at T ), hm, F.kp, hb⟩
theorem sc__law_number : FnScope ["_law_script", "_law_k", "_law_x", "_law_total", "_law_j"] ["_law_script", "_law_k"] (defScope s__law_number) := ⟨rfl, rfl, rfl, by decide +kernel, rfl, by decide +kernel, by decide +kernel⟩
theorem b__law_number (T : Txt K mg) (g__law_cell_at : FnD P w K mg base "_law_cell_at" 1 ["_law_script", "_law_k"] sg__law_cell_at F__law_cell_at) {f : Addr} : BodyOk P w K mg base ["_law_script", "_law_k", "_law_x", "_law_total", "_law_j"] "_law_number" s__law_number f 1 M__law_number := by
  obtain ⟨f__law_cell_at, fd__law_cell_at, O__law_cell_at, m__law_cell_at, k__law_cell_at, b__law_cell_at⟩ := g__law_cell_at
  intro cdv A outer s H E R Pn hr
  have tk : Takes (cxOf (L2.CX P w) P w K mg base ["_law_script", "_law_k", "_law_x", "_law_total", "_law_j"] "_law_number" (defScope s__law_number) f cdv A outer s H E) (fun cls d _ H => E cls d H) := takes_of rfl rfl rfl rfl
  have po : PassesOwn (model P w) _ _ _ := passes_of (X := cxOf (L2.CX P w) P w K mg base ["_law_script", "_law_k", "_law_x", "_law_total", "_law_j"] "_law_number" (defScope s__law_number) f cdv A outer s H E) rfl
  exact (mss_cons (ms_if (mt_cmp opd_ge (me_callB callAbs (by rfl) T.n_abs PyProof.Rows.boot_abs (.cons (me_call O__law_cell_at (hr.mono (by decide)) m__law_cell_at k__law_cell_at b__law_cell_at tk (.cons me_var (.cons me_var .nil)) (pa_cons pe_w (pa_cons pe_w pa_nil))) .nil) (pa_cons pe_w pa_nil)) (me_bin opd_pow me_int me_int)) (mss_one (ms_ret (me_call O__law_cell_at (hr.mono (by decide)) m__law_cell_at k__law_cell_at b__law_cell_at tk (.cons me_var (.cons me_var .nil)) (pa_cons pe_w (pa_cons pe_w pa_nil))))) mss_nil)
    (mss_cons (ms_set sc__law_number.nd (me_bin opd_add (me_bin opd_add (me_call O__law_cell_at (hr.mono (by decide)) m__law_cell_at k__law_cell_at b__law_cell_at tk (.cons me_var (.cons me_int .nil)) (pa_cons pe_w (pa_cons pe_w pa_nil))) (me_bin opd_mul me_int me_var)) (me_bin opd_mul me_int (me_call O__law_cell_at (hr.mono (by decide)) m__law_cell_at k__law_cell_at b__law_cell_at tk (.cons me_var (.cons me_var .nil)) (pa_cons pe_w (pa_cons pe_w pa_nil))))))
    (mss_cons (ms_set sc__law_number.nd (me_bin opd_add (me_bin opd_mod me_var me_int) me_int))
    (mss_cons (ms_set sc__law_number.nd me_int)
    (mss_cons (ms_forR1 po rfl T.n_range me_int (mg_name sc__law_number.nd) (mss_cons (ms_set sc__law_number.nd (me_bin opd_mod (me_bin opd_add (me_bin opd_add (me_bin opd_add (me_bin opd_mul me_var me_int) (me_bin opd_div me_var me_int)) (me_bin opd_mul (me_bin opd_mul me_int me_var) me_var)) me_int) me_int))
    (mss_one (ms_set sc__law_number.nd (me_bin opd_add (me_bin opd_mul me_var me_int) (me_bin opd_mod (me_bin opd_mul me_var me_int) me_int))))))
    (mss_one (ms_ret me_var)))))))
theorem ok__law_number (T : Txt K mg) (g__law_cell_at : FnD P w K mg base "_law_cell_at" 1 ["_law_script", "_law_k"] sg__law_cell_at F__law_cell_at) {f : Addr} {fd : FuncData} (F : Fun K "_law_number" "_law_number" s__law_number f fd) (hm : mg "_law_number" = some (.ref f)) (hb : Binds K fd ["_law_script", "_law_k"] []) : FnD P w K mg base "_law_number" 2 ["_law_script", "_law_k"] sg__law_number F__law_number :=
  ⟨f, fd, fn_ok F sc__law_number sg__law_number rfl (b__law_number T g__law_cell_at), hm, F.kp, hb⟩
theorem sc__law_word_by : FnScope ["_law_cell", "_law_letters", "_law_word", "_law_rest", "_law_k"] ["_law_cell"] (defScope s__law_word_by) := ⟨rfl, rfl, rfl, by decide +kernel, rfl, by decide +kernel, by decide +kernel⟩
theorem b__law_word_by (T : Txt K mg)  {f : Addr} : BodyOk P w K mg base ["_law_cell", "_law_letters", "_law_word", "_law_rest", "_law_k"] "_law_word_by" s__law_word_by f 0 M__law_word_by := by
  intro cdv A outer s H E R Pn hr
  have tk : Takes (cxOf (L2.CX P w) P w K mg base ["_law_cell", "_law_letters", "_law_word", "_law_rest", "_law_k"] "_law_word_by" (defScope s__law_word_by) f cdv A outer s H E) (fun cls d _ H => E cls d H) := takes_of rfl rfl rfl rfl
  have po : PassesOwn (model P w) _ _ _ := passes_of (X := cxOf (L2.CX P w) P w K mg base ["_law_cell", "_law_letters", "_law_word", "_law_rest", "_law_k"] "_law_word_by" (defScope s__law_word_by) f cdv A outer s H E) rfl
  exact (mss_cons (ms_set sc__law_word_by.nd me_str)
    (mss_cons (ms_set sc__law_word_by.nd me_str)
    (mss_cons (ms_set sc__law_word_by.nd (me_bin opd_div me_var me_int))
    (mss_cons (ms_forR1 po rfl T.n_range (me_bin opd_add me_int (me_bin opd_mod me_var me_int)) (mg_name sc__law_word_by.nd) (mss_cons (ms_set sc__law_word_by.nd (me_bin opd_add me_var (me_ix ixd me_var (me_bin opd_mod me_var me_int))))
    (mss_one (ms_set sc__law_word_by.nd (me_bin opd_div me_var me_int)))))
    (mss_one (ms_ret me_var))))))
theorem ok__law_word_by (T : Txt K mg)  {f : Addr} {fd : FuncData} (F : Fun K "_law_word_by" "_law_word_by" s__law_word_by f fd) (hm : mg "_law_word_by" = some (.ref f)) (hb : Binds K fd ["_law_cell"] []) : FnD P w K mg base "_law_word_by" 1 ["_law_cell"] sg__law_word_by F__law_word_by :=
  ⟨f, fd, fn_ok F sc__law_word_by sg__law_word_by rfl (b__law_word_by T ), hm, F.kp, hb⟩
theorem sc__law_names : FnScope ["_law_script", "_law_at", "_law_many", "_law_names_here", "_law_k", "_law_word"] ["_law_script", "_law_at", "_law_many"] (defScope s__law_names) := ⟨rfl, rfl, rfl, by decide +kernel, rfl, by decide +kernel, by decide +kernel⟩
theorem b__law_names (T : Txt K mg) (g__law_number : FnD P w K mg base "_law_number" 2 ["_law_script", "_law_k"] sg__law_number F__law_number) (g__law_word_by : FnD P w K mg base "_law_word_by" 1 ["_law_cell"] sg__law_word_by F__law_word_by) {f : Addr} : BodyOk P w K mg base ["_law_script", "_law_at", "_law_many", "_law_names_here", "_law_k", "_law_word"] "_law_names" s__law_names f 2 M__law_names := by
  obtain ⟨f__law_number, fd__law_number, O__law_number, m__law_number, k__law_number, b__law_number⟩ := g__law_number
  obtain ⟨f__law_word_by, fd__law_word_by, O__law_word_by, m__law_word_by, k__law_word_by, b__law_word_by⟩ := g__law_word_by
  intro cdv A outer s H E R Pn hr
  have tk : Takes (cxOf (L2.CX P w) P w K mg base ["_law_script", "_law_at", "_law_many", "_law_names_here", "_law_k", "_law_word"] "_law_names" (defScope s__law_names) f cdv A outer s H E) (fun cls d _ H => E cls d H) := takes_of rfl rfl rfl rfl
  have po : PassesOwn (model P w) _ _ _ := passes_of (X := cxOf (L2.CX P w) P w K mg base ["_law_script", "_law_at", "_law_many", "_law_names_here", "_law_k", "_law_word"] "_law_names" (defScope s__law_names) f cdv A outer s H E) rfl
  exact (mss_cons (ms_set sc__law_names.nd (me_lst .nil pa_nil))
    (mss_cons (ms_forR1 po rfl T.n_range me_var (mg_name sc__law_names.nd) (mss_cons (ms_set sc__law_names.nd (me_call O__law_word_by (hr.mono (by decide)) m__law_word_by k__law_word_by b__law_word_by tk (.cons (me_call O__law_number (hr.mono (by decide)) m__law_number k__law_number b__law_number tk (.cons me_var (.cons (me_bin opd_add me_var me_var) .nil)) (pa_cons pe_w (pa_cons pe_w pa_nil))) .nil) (pa_cons pe_w pa_nil)))
    (mss_one (ms_if (mt_cmp (opd_notInD hr.units) me_var me_var) (mss_one (ms_expr (me_mutL PySem.F.slot_list_append PySem.F.type_list_append mt_append lm_append (.cons me_var .nil) (pa_cons pe_w pa_nil)))) mss_nil))))
    (mss_one (ms_ret me_var))))
theorem ok__law_names (T : Txt K mg) (g__law_number : FnD P w K mg base "_law_number" 2 ["_law_script", "_law_k"] sg__law_number F__law_number) (g__law_word_by : FnD P w K mg base "_law_word_by" 1 ["_law_cell"] sg__law_word_by F__law_word_by) {f : Addr} {fd : FuncData} (F : Fun K "_law_names" "_law_names" s__law_names f fd) (hm : mg "_law_names" = some (.ref f)) (hb : Binds K fd ["_law_script", "_law_at", "_law_many"] []) : FnD P w K mg base "_law_names" 3 ["_law_script", "_law_at", "_law_many"] sg__law_names F__law_names :=
  ⟨f, fd, fn_ok F sc__law_names sg__law_names rfl (b__law_names T g__law_number g__law_word_by), hm, F.kp, hb⟩
theorem sc__law_exchange_by : FnScope ["_law_cell", "_law_names_here", "_law_left", "_law_some", "_law_k", "_law_a", "_law_b", "_law_c", "_law_d", "_law_e"] ["_law_cell", "_law_names_here"] (defScope s__law_exchange_by) := ⟨rfl, rfl, rfl, by decide +kernel, rfl, by decide +kernel, by decide +kernel⟩
theorem b__law_exchange_by (T : Txt K mg)  {f : Addr} : BodyOk P w K mg base ["_law_cell", "_law_names_here", "_law_left", "_law_some", "_law_k", "_law_a", "_law_b", "_law_c", "_law_d", "_law_e"] "_law_exchange_by" s__law_exchange_by f 0 M__law_exchange_by := by
  intro cdv A outer s H E R Pn hr
  have tk : Takes (cxOf (L2.CX P w) P w K mg base ["_law_cell", "_law_names_here", "_law_left", "_law_some", "_law_k", "_law_a", "_law_b", "_law_c", "_law_d", "_law_e"] "_law_exchange_by" (defScope s__law_exchange_by) f cdv A outer s H E) (fun cls d _ H => E cls d H) := takes_of rfl rfl rfl rfl
  have po : PassesOwn (model P w) _ _ _ := passes_of (X := cxOf (L2.CX P w) P w K mg base ["_law_cell", "_law_names_here", "_law_left", "_law_some", "_law_k", "_law_a", "_law_b", "_law_c", "_law_d", "_law_e"] "_law_exchange_by" (defScope s__law_exchange_by) f cdv A outer s H E) rfl
  exact (mss_cons (ms_set sc__law_exchange_by.nd (me_callTy callList (by rfl) T.n_list (by decide +kernel) (.cons me_var .nil) (pa_cons pe_w pa_nil)))
    (mss_cons (ms_set sc__law_exchange_by.nd (me_lst .nil pa_nil))
    (mss_cons (ms_forR1 po rfl T.n_range me_int (mg_name sc__law_exchange_by.nd) (mss_cons (ms_expr (me_mutL PySem.F.slot_list_append PySem.F.type_list_append mt_append lm_append (.cons (me_mutL PySem.F.slot_list_pop PySem.F.type_list_pop mt_popAt lm_popAt (.cons (me_bin opd_mod me_var (me_callB callLen (by rfl) T.n_len PySem.boot_len (.cons me_var .nil) (pa_cons pe_w pa_nil))) .nil) (pa_cons pe_w pa_nil)) .nil) (pa_cons pe_w pa_nil)))
    (mss_one (ms_set sc__law_exchange_by.nd (me_bin opd_div me_var (me_bin opd_add (me_callB callLen (by rfl) T.n_len PySem.boot_len (.cons me_var .nil) (pa_cons pe_w pa_nil)) me_int))))))
    (mss_cons (ms_asg me_var (mg_lst rfl (.cons (mg_name sc__law_exchange_by.nd) (.cons (mg_name sc__law_exchange_by.nd) (.cons (mg_name sc__law_exchange_by.nd) (.cons (mg_name sc__law_exchange_by.nd) (.cons (mg_name sc__law_exchange_by.nd) .nil))))) (pgs_cons pg_w (pgs_cons pg_w (pgs_cons pg_w (pgs_cons pg_w (pgs_cons pg_w pgs_nil)))))))
    (mss_one (ms_ret (me_tup (.cons me_var (.cons (me_callB (callSMin rfl) (by rfl) T.n_min (by decide +kernel) (.cons me_var (.cons me_var .nil)) (pa_cons pe_w (pa_cons pe_w pa_nil))) (.cons (me_callB (callSMax rfl) (by rfl) T.n_max (by decide +kernel) (.cons me_var (.cons me_var .nil)) (pa_cons pe_w (pa_cons pe_w pa_nil))) (.cons (me_callB (callSMin rfl) (by rfl) T.n_min (by decide +kernel) (.cons me_var (.cons me_var .nil)) (pa_cons pe_w (pa_cons pe_w pa_nil))) (.cons (me_callB (callSMax rfl) (by rfl) T.n_max (by decide +kernel) (.cons me_var (.cons me_var .nil)) (pa_cons pe_w (pa_cons pe_w pa_nil))) .nil))))) (pa_cons pe_w (pa_cons pe_w (pa_cons pe_w (pa_cons pe_w (pa_cons pe_w pa_nil))))))))))))
theorem ok__law_exchange_by (T : Txt K mg)  {f : Addr} {fd : FuncData} (F : Fun K "_law_exchange_by" "_law_exchange_by" s__law_exchange_by f fd) (hm : mg "_law_exchange_by" = some (.ref f)) (hb : Binds K fd ["_law_cell", "_law_names_here"] []) : FnD P w K mg base "_law_exchange_by" 1 ["_law_cell", "_law_names_here"] sg__law_exchange_by F__law_exchange_by :=
  ⟨f, fd, fn_ok F sc__law_exchange_by sg__law_exchange_by rfl (b__law_exchange_by T ), hm, F.kp, hb⟩
theorem sc__law_triple : FnScope ["_law_one", "_law_other", "_law_third"] ["_law_one", "_law_other", "_law_third"] (defScope s__law_triple) := ⟨rfl, rfl, rfl, by decide +kernel, rfl, by decide +kernel, by decide +kernel⟩
theorem b__law_triple (T : Txt K mg)  {f : Addr} : BodyOk P w K mg base ["_law_one", "_law_other", "_law_third"] "_law_triple" s__law_triple f 0 M__law_triple := by
  intro cdv A outer s H E R Pn hr
  have tk : Takes (cxOf (L2.CX P w) P w K mg base ["_law_one", "_law_other", "_law_third"] "_law_triple" (defScope s__law_triple) f cdv A outer s H E) (fun cls d _ H => E cls d H) := takes_of rfl rfl rfl rfl
  have po : PassesOwn (model P w) _ _ _ := passes_of (X := cxOf (L2.CX P w) P w K mg base ["_law_one", "_law_other", "_law_third"] "_law_triple" (defScope s__law_triple) f cdv A outer s H E) rfl
  exact (mss_one (ms_ret (me_callTy callTuple (by rfl) T.n_tuple (by decide +kernel) (.cons (me_callB callSorted (by rfl) T.n_sorted (by decide +kernel) (.cons (me_lst (.cons me_var (.cons me_var (.cons me_var .nil))) (pa_cons pe_w (pa_cons pe_w (pa_cons pe_w pa_nil)))) .nil) (pa_cons pe_w pa_nil)) .nil) (pa_cons pe_w pa_nil))))
theorem ok__law_triple (T : Txt K mg)  {f : Addr} {fd : FuncData} (F : Fun K "_law_triple" "_law_triple" s__law_triple f fd) (hm : mg "_law_triple" = some (.ref f)) (hb : Binds K fd ["_law_one", "_law_other", "_law_third"] []) : FnD P w K mg base "_law_triple" 1 ["_law_one", "_law_other", "_law_third"] sg__law_triple F__law_triple :=
  ⟨f, fd, fn_ok F sc__law_triple sg__law_triple rfl (b__law_triple T ), hm, F.kp, hb⟩
theorem sc__law_parts_by : FnScope ["_law_cell", "_law_names_here", "_law_some", "_law_rest", "_law_k", "_law_many", "_law_one"] ["_law_cell", "_law_names_here"] (defScope s__law_parts_by) := ⟨rfl, rfl, rfl, by decide +kernel, rfl, by decide +kernel, by decide +kernel⟩
theorem b__law_parts_by (T : Txt K mg) (g__law_exchange_by : FnD P w K mg base "_law_exchange_by" 1 ["_law_cell", "_law_names_here"] sg__law_exchange_by F__law_exchange_by) {f : Addr} : BodyOk P w K mg base ["_law_cell", "_law_names_here", "_law_some", "_law_rest", "_law_k", "_law_many", "_law_one"] "_law_parts_by" s__law_parts_by f 1 M__law_parts_by := by
  obtain ⟨f__law_exchange_by, fd__law_exchange_by, O__law_exchange_by, m__law_exchange_by, k__law_exchange_by, b__law_exchange_by⟩ := g__law_exchange_by
  intro cdv A outer s H E R Pn hr
  have tk : Takes (cxOf (L2.CX P w) P w K mg base ["_law_cell", "_law_names_here", "_law_some", "_law_rest", "_law_k", "_law_many", "_law_one"] "_law_parts_by" (defScope s__law_parts_by) f cdv A outer s H E) (fun cls d _ H => E cls d H) := takes_of rfl rfl rfl rfl
  have po : PassesOwn (model P w) _ _ _ := passes_of (X := cxOf (L2.CX P w) P w K mg base ["_law_cell", "_law_names_here", "_law_some", "_law_rest", "_law_k", "_law_many", "_law_one"] "_law_parts_by" (defScope s__law_parts_by) f cdv A outer s H E) rfl
  exact (mss_cons (ms_set sc__law_parts_by.nd me_dnewT)
    (mss_cons (ms_set sc__law_parts_by.nd (me_bin opd_div me_var me_int))
    (mss_cons (ms_forR1 po rfl T.n_range (me_bin opd_mod me_var me_int) (mg_name sc__law_parts_by.nd) (mss_cons (ms_set sc__law_parts_by.nd (me_bin opd_sub (me_bin opd_mod me_var me_int) me_int))
    (mss_cons (ms_set sc__law_parts_by.nd (me_bin opd_div me_var me_int))
    (mss_cons (ms_if (mt_cmp (opd_ne hr.units) me_var me_int) (mss_one (ms_asg me_var (mg_put (W := W0) hr.units (me_call O__law_exchange_by (hr.mono (by decide)) m__law_exchange_by k__law_exchange_by b__law_exchange_by takesB (.cons (me_bin opd_mod me_var (me_bin opd_pow me_int me_int)) (.cons me_var .nil)) (pa_cons pe_w (pa_cons pe_w pa_nil)))))) mss_nil)
    (mss_one (ms_set sc__law_parts_by.nd (me_bin opd_div me_var (me_bin opd_pow me_int me_int))))))))
    (mss_one (ms_ret (me_lc (own := [("_law_one", 6)]) rfl sc__law_parts_by.nd (mi_list (me_callB (callSortedDT rfl hr.units) (by rfl) T.n_sorted (by decide +kernel) (.cons me_var .nil) (pa_cons pe_w pa_nil))) (blkOk_by (by rfl)) (fun _ _ _ _ _ => (mgo_name sc__law_parts_by.nd)) (fun _ _ _ _ _ => (me_tup (.cons (me_dget hr.units me_var me_var) (.cons me_var .nil)) (pa_cons pe_w (pa_cons pe_w pa_nil))))))))))
theorem ok__law_parts_by (T : Txt K mg) (g__law_exchange_by : FnD P w K mg base "_law_exchange_by" 1 ["_law_cell", "_law_names_here"] sg__law_exchange_by F__law_exchange_by) {f : Addr} {fd : FuncData} (F : Fun K "_law_parts_by" "_law_parts_by" s__law_parts_by f fd) (hm : mg "_law_parts_by" = some (.ref f)) (hb : Binds K fd ["_law_cell", "_law_names_here"] []) : FnD P w K mg base "_law_parts_by" 2 ["_law_cell", "_law_names_here"] sg__law_parts_by F__law_parts_by :=
  ⟨f, fd, fn_ok F sc__law_parts_by sg__law_parts_by rfl (b__law_parts_by T g__law_exchange_by), hm, F.kp, hb⟩
theorem sc__law_ground_by : FnScope ["_law_script", "_law_at", "_law_names_here", "_law_most", "_law_ground", "_law_k", "_law_cell", "_law_target", "_law_claim"] ["_law_script", "_law_at", "_law_names_here", "_law_most"] (defScope s__law_ground_by) := ⟨rfl, rfl, rfl, by decide +kernel, rfl, by decide +kernel, by decide +kernel⟩
theorem b__law_ground_by (T : Txt K mg) (g__law_number : FnD P w K mg base "_law_number" 2 ["_law_script", "_law_k"] sg__law_number F__law_number) (g__law_exchange_by : FnD P w K mg base "_law_exchange_by" 1 ["_law_cell", "_law_names_here"] sg__law_exchange_by F__law_exchange_by) (g__law_triple : FnD P w K mg base "_law_triple" 1 ["_law_one", "_law_other", "_law_third"] sg__law_triple F__law_triple) (g__law_parts_by : FnD P w K mg base "_law_parts_by" 2 ["_law_cell", "_law_names_here"] sg__law_parts_by F__law_parts_by) {f : Addr} : BodyOk P w K mg base ["_law_script", "_law_at", "_law_names_here", "_law_most", "_law_ground", "_law_k", "_law_cell", "_law_target", "_law_claim"] "_law_ground_by" s__law_ground_by f 2 M__law_ground_by := by
  obtain ⟨f__law_number, fd__law_number, O__law_number, m__law_number, k__law_number, b__law_number⟩ := g__law_number
  obtain ⟨f__law_exchange_by, fd__law_exchange_by, O__law_exchange_by, m__law_exchange_by, k__law_exchange_by, b__law_exchange_by⟩ := g__law_exchange_by
  obtain ⟨f__law_triple, fd__law_triple, O__law_triple, m__law_triple, k__law_triple, b__law_triple⟩ := g__law_triple
  obtain ⟨f__law_parts_by, fd__law_parts_by, O__law_parts_by, m__law_parts_by, k__law_parts_by, b__law_parts_by⟩ := g__law_parts_by
  intro cdv A outer s H E R Pn hr
  have tk : Takes (cxOf (L2.CX P w) P w K mg base ["_law_script", "_law_at", "_law_names_here", "_law_most", "_law_ground", "_law_k", "_law_cell", "_law_target", "_law_claim"] "_law_ground_by" (defScope s__law_ground_by) f cdv A outer s H E) (fun cls d _ H => E cls d H) := takes_of rfl rfl rfl rfl
  have po : PassesOwn (model P w) _ _ _ := passes_of (X := cxOf (L2.CX P w) P w K mg base ["_law_script", "_law_at", "_law_names_here", "_law_most", "_law_ground", "_law_k", "_law_cell", "_law_target", "_law_claim"] "_law_ground_by" (defScope s__law_ground_by) f cdv A outer s H E) rfl
  exact (mss_cons (ms_set sc__law_ground_by.nd (me_lst .nil pa_nil))
    (mss_cons (ms_forR1 po rfl T.n_range (me_bin opd_mod (me_call O__law_number (hr.mono (by decide)) m__law_number k__law_number b__law_number tk (.cons me_var (.cons me_var .nil)) (pa_cons pe_w (pa_cons pe_w pa_nil))) (me_bin opd_add me_var me_int)) (mg_name sc__law_ground_by.nd) (mss_cons (ms_set sc__law_ground_by.nd (me_call O__law_number (hr.mono (by decide)) m__law_number k__law_number b__law_number tk (.cons me_var (.cons (me_bin opd_add (me_bin opd_add me_var me_int) me_var) .nil)) (pa_cons pe_w (pa_cons pe_w pa_nil))))
    (mss_cons (ms_set sc__law_ground_by.nd (me_call O__law_exchange_by (hr.mono (by decide)) m__law_exchange_by k__law_exchange_by b__law_exchange_by tk (.cons (me_bin opd_mod me_var (me_bin opd_pow me_int me_int)) (.cons me_var .nil)) (pa_cons pe_w (pa_cons pe_w pa_nil))))
    (mss_cons (ms_set sc__law_ground_by.nd (me_call O__law_triple (hr.mono (by decide)) m__law_triple k__law_triple b__law_triple tk (.cons (me_ix ixd me_var me_int) (.cons (me_ix ixd me_var me_int) (.cons (me_ix ixd me_var me_int) .nil))) (pa_cons pe_w (pa_cons pe_w (pa_cons pe_w pa_nil)))))
    (mss_one (ms_expr (me_mutL PySem.F.slot_list_append PySem.F.type_list_append mt_append lm_append (.cons (me_tup (.cons me_var (.cons me_var (.cons (me_call O__law_parts_by (hr.mono (by decide)) m__law_parts_by k__law_parts_by b__law_parts_by tk (.cons (me_bin opd_div me_var (me_bin opd_pow me_int me_int)) (.cons me_var .nil)) (pa_cons pe_w (pa_cons pe_w pa_nil))) .nil))) (pa_cons pe_w (pa_cons pe_w (pa_cons pe_w pa_nil)))) .nil) (pa_cons pe_w pa_nil))))))))
    (mss_one (ms_ret me_var))))
theorem ok__law_ground_by (T : Txt K mg) (g__law_number : FnD P w K mg base "_law_number" 2 ["_law_script", "_law_k"] sg__law_number F__law_number) (g__law_exchange_by : FnD P w K mg base "_law_exchange_by" 1 ["_law_cell", "_law_names_here"] sg__law_exchange_by F__law_exchange_by) (g__law_triple : FnD P w K mg base "_law_triple" 1 ["_law_one", "_law_other", "_law_third"] sg__law_triple F__law_triple) (g__law_parts_by : FnD P w K mg base "_law_parts_by" 2 ["_law_cell", "_law_names_here"] sg__law_parts_by F__law_parts_by) {f : Addr} {fd : FuncData} (F : Fun K "_law_ground_by" "_law_ground_by" s__law_ground_by f fd) (hm : mg "_law_ground_by" = some (.ref f)) (hb : Binds K fd ["_law_script", "_law_at", "_law_names_here", "_law_most"] []) : FnD P w K mg base "_law_ground_by" 3 ["_law_script", "_law_at", "_law_names_here", "_law_most"] sg__law_ground_by F__law_ground_by :=
  ⟨f, fd, fn_ok F sc__law_ground_by sg__law_ground_by rfl (b__law_ground_by T g__law_number g__law_exchange_by g__law_triple g__law_parts_by), hm, F.kp, hb⟩
theorem sc__law_copied : FnScope ["_law_ground", "_law_claim", "_law_target", "_law_parts"] ["_law_ground"] (defScope s__law_copied) := ⟨rfl, rfl, rfl, by decide +kernel, rfl, by decide +kernel, by decide +kernel⟩
theorem b__law_copied (T : Txt K mg)  {f : Addr} : BodyOk P w K mg base ["_law_ground", "_law_claim", "_law_target", "_law_parts"] "_law_copied" s__law_copied f 0 M__law_copied := by
  intro cdv A outer s H E R Pn hr
  have tk : Takes (cxOf (L2.CX P w) P w K mg base ["_law_ground", "_law_claim", "_law_target", "_law_parts"] "_law_copied" (defScope s__law_copied) f cdv A outer s H E) (fun cls d _ H => E cls d H) := takes_of rfl rfl rfl rfl
  have po : PassesOwn (model P w) _ _ _ := passes_of (X := cxOf (L2.CX P w) P w K mg base ["_law_ground", "_law_claim", "_law_target", "_law_parts"] "_law_copied" (defScope s__law_copied) f cdv A outer s H E) rfl
  exact (mss_one (ms_ret (me_lcR (own := [("_law_claim", 1), ("_law_target", 2), ("_law_parts", 3)]) rfl sc__law_copied.nd me_var (blkOk_by (by rfl)) (fun _ _ _ _ _ => (mgoR_tup rfl (.cons (mgo_name sc__law_copied.nd) (.cons (mgo_name sc__law_copied.nd) (.cons (mgo_name sc__law_copied.nd) .nil))) (.cons (mn_name sc__law_copied.nd) (.cons (mn_name sc__law_copied.nd) (.cons (mn_name sc__law_copied.nd) .nil))) (by decide) (pgs_cons pg_w (pgs_cons pg_w (pgs_cons pg_w pgs_nil))))) (fun _ _ _ _ _ => (me_tup (.cons me_var (.cons me_var (.cons (me_callTy callList (by rfl) T.n_list (by decide +kernel) (.cons me_var .nil) (pa_cons pe_w pa_nil)) .nil))) (pa_cons pe_w (pa_cons pe_w (pa_cons pe_w pa_nil))))))))
theorem ok__law_copied (T : Txt K mg)  {f : Addr} {fd : FuncData} (F : Fun K "_law_copied" "_law_copied" s__law_copied f fd) (hm : mg "_law_copied" = some (.ref f)) (hb : Binds K fd ["_law_ground"] []) : FnD P w K mg base "_law_copied" 1 ["_law_ground"] sg__law_copied F__law_copied :=
  ⟨f, fd, fn_ok F sc__law_copied sg__law_copied rfl (b__law_copied T ), hm, F.kp, hb⟩
theorem sc_plain : FnScope ["exchange", "a", "b", "c", "d", "e", "sign"] ["exchange"] (defScope s_plain) := ⟨rfl, rfl, rfl, by decide +kernel, rfl, by decide +kernel, by decide +kernel⟩
theorem b_plain (T : Txt K mg)  {f : Addr} : BodyOk P w K mg base ["exchange", "a", "b", "c", "d", "e", "sign"] "plain" s_plain f 0 M_plain := by
  intro cdv A outer s H E R Pn hr
  have tk : Takes (cxOf (L2.CX P w) P w K mg base ["exchange", "a", "b", "c", "d", "e", "sign"] "plain" (defScope s_plain) f cdv A outer s H E) (fun cls d _ H => E cls d H) := takes_of rfl rfl rfl rfl
  have po : PassesOwn (model P w) _ _ _ := passes_of (X := cxOf (L2.CX P w) P w K mg base ["exchange", "a", "b", "c", "d", "e", "sign"] "plain" (defScope s_plain) f cdv A outer s H E) rfl
  exact (mss_cons (ms_asg me_var (mg_tup rfl (.cons (mg_name sc_plain.nd) (.cons (mg_name sc_plain.nd) (.cons (mg_name sc_plain.nd) (.cons (mg_name sc_plain.nd) (.cons (mg_name sc_plain.nd) .nil))))) (pgs_cons pg_w (pgs_cons pg_w (pgs_cons pg_w (pgs_cons pg_w (pgs_cons pg_w pgs_nil)))))))
    (mss_cons (ms_set sc_plain.nd me_int)
    (mss_cons (ms_if (mt_cmp opd_lt me_var me_var) (mss_cons (ms_par rfl sc_plain.nd (by decide) me_var me_var)
    (mss_one (ms_set sc_plain.nd (me_un un_neg neg_imp me_var)))) mss_nil)
    (mss_cons (ms_if (mt_cmp opd_lt me_var me_var) (mss_cons (ms_par rfl sc_plain.nd (by decide) me_var me_var)
    (mss_one (ms_set sc_plain.nd (me_un un_neg neg_imp me_var)))) mss_nil)
    (mss_one (ms_ret (me_tup (.cons me_var (.cons (me_tup (.cons me_var (.cons me_var (.cons me_var (.cons me_var (.cons me_var .nil))))) (pa_cons pe_w (pa_cons pe_w (pa_cons pe_w (pa_cons pe_w (pa_cons pe_w pa_nil)))))) .nil)) (pa_cons pe_w (pa_cons pe_w pa_nil)))))))))
theorem ok_plain (T : Txt K mg)  {f : Addr} {fd : FuncData} (F : Fun K "plain" "plain" s_plain f fd) (hm : mg "plain" = some (.ref f)) (hb : Binds K fd ["exchange"] []) : FnD P w K mg base "plain" 1 ["exchange"] sg_plain F_plain :=
  ⟨f, fd, fn_ok F sc_plain sg_plain rfl (b_plain T ), hm, F.kp, hb⟩
theorem sc_renamed_exchange : FnScope ["exchange", "by", "name"] ["exchange", "by"] (defScope s_renamed_exchange) := ⟨rfl, rfl, rfl, by decide +kernel, rfl, by decide +kernel, by decide +kernel⟩
theorem b_renamed_exchange (T : Txt K mg) (g_plain : FnD P w K mg base "plain" 1 ["exchange"] sg_plain F_plain) {f : Addr} : BodyOk P w K mg base ["exchange", "by", "name"] "renamed_exchange" s_renamed_exchange f 1 M_renamed_exchange := by
  obtain ⟨f_plain, fd_plain, O_plain, m_plain, k_plain, b_plain⟩ := g_plain
  intro cdv A outer s H E R Pn hr
  have tk : Takes (cxOf (L2.CX P w) P w K mg base ["exchange", "by", "name"] "renamed_exchange" (defScope s_renamed_exchange) f cdv A outer s H E) (fun cls d _ H => E cls d H) := takes_of rfl rfl rfl rfl
  have po : PassesOwn (model P w) _ _ _ := passes_of (X := cxOf (L2.CX P w) P w K mg base ["exchange", "by", "name"] "renamed_exchange" (defScope s_renamed_exchange) f cdv A outer s H E) rfl
  exact (mss_one (ms_ret (me_call O_plain (hr.mono (by decide)) m_plain k_plain b_plain tk (.cons (me_callTy callTuple (by rfl) T.n_tuple (by decide +kernel) (.cons (me_lc (own := [("name", 2)]) rfl sc_renamed_exchange.nd (mi_tup me_var) (blkOk_by (by rfl)) (fun _ _ _ _ _ => (mgo_name sc_renamed_exchange.nd)) (fun _ _ _ _ _ => (me_dget hr.units me_var me_var))) .nil) (pa_cons pe_w pa_nil)) .nil) (pa_cons pe_w pa_nil))))
theorem ok_renamed_exchange (T : Txt K mg) (g_plain : FnD P w K mg base "plain" 1 ["exchange"] sg_plain F_plain) {f : Addr} {fd : FuncData} (F : Fun K "renamed_exchange" "renamed_exchange" s_renamed_exchange f fd) (hm : mg "renamed_exchange" = some (.ref f)) (hb : Binds K fd ["exchange", "by"] []) : FnD P w K mg base "renamed_exchange" 2 ["exchange", "by"] sg_renamed_exchange F_renamed_exchange :=
  ⟨f, fd, fn_ok F sc_renamed_exchange sg_renamed_exchange rfl (b_renamed_exchange T g_plain), hm, F.kp, hb⟩
theorem sc_triple : FnScope ["one", "other", "third"] ["one", "other", "third"] (defScope s_triple) := ⟨rfl, rfl, rfl, by decide +kernel, rfl, by decide +kernel, by decide +kernel⟩
theorem b_triple (T : Txt K mg)  {f : Addr} : BodyOk P w K mg base ["one", "other", "third"] "triple" s_triple f 0 M_triple := by
  intro cdv A outer s H E R Pn hr
  have tk : Takes (cxOf (L2.CX P w) P w K mg base ["one", "other", "third"] "triple" (defScope s_triple) f cdv A outer s H E) (fun cls d _ H => E cls d H) := takes_of rfl rfl rfl rfl
  have po : PassesOwn (model P w) _ _ _ := passes_of (X := cxOf (L2.CX P w) P w K mg base ["one", "other", "third"] "triple" (defScope s_triple) f cdv A outer s H E) rfl
  exact (mss_one (ms_ret (me_callTy callTuple (by rfl) T.n_tuple (by decide +kernel) (.cons (me_callB callSorted (by rfl) T.n_sorted (by decide +kernel) (.cons (me_lst (.cons me_var (.cons me_var (.cons me_var .nil))) (pa_cons pe_w (pa_cons pe_w (pa_cons pe_w pa_nil)))) .nil) (pa_cons pe_w pa_nil)) .nil) (pa_cons pe_w pa_nil))))
theorem ok_triple (T : Txt K mg)  {f : Addr} {fd : FuncData} (F : Fun K "triple" "triple" s_triple f fd) (hm : mg "triple" = some (.ref f)) (hb : Binds K fd ["one", "other", "third"] []) : FnD P w K mg base "triple" 1 ["one", "other", "third"] sg_triple F_triple :=
  ⟨f, fd, fn_ok F sc_triple sg_triple rfl (b_triple T ), hm, F.kp, hb⟩
theorem sc_renamed : FnScope ["ground", "by", "found", "claim", "target", "parts", "sign", "aim", "row", "many", "exchange", "other", "one", "some"] ["ground", "by"] (defScope s_renamed) := ⟨rfl, rfl, rfl, by decide +kernel, rfl, by decide +kernel, by decide +kernel⟩
theorem b_renamed (T : Txt K mg) (g_renamed_exchange : FnD P w K mg base "renamed_exchange" 2 ["exchange", "by"] sg_renamed_exchange F_renamed_exchange) (g_triple : FnD P w K mg base "triple" 1 ["one", "other", "third"] sg_triple F_triple) {f : Addr} : BodyOk P w K mg base ["ground", "by", "found", "claim", "target", "parts", "sign", "aim", "row", "many", "exchange", "other", "one", "some"] "renamed" s_renamed f 2 M_renamed := by
  obtain ⟨f_renamed_exchange, fd_renamed_exchange, O_renamed_exchange, m_renamed_exchange, k_renamed_exchange, b_renamed_exchange⟩ := g_renamed_exchange
  obtain ⟨f_triple, fd_triple, O_triple, m_triple, k_triple, b_triple⟩ := g_triple
  intro cdv A outer s H E R Pn hr
  have tk : Takes (cxOf (L2.CX P w) P w K mg base ["ground", "by", "found", "claim", "target", "parts", "sign", "aim", "row", "many", "exchange", "other", "one", "some"] "renamed" (defScope s_renamed) f cdv A outer s H E) (fun cls d _ H => E cls d H) := takes_of rfl rfl rfl rfl
  have po : PassesOwn (model P w) _ _ _ := passes_of (X := cxOf (L2.CX P w) P w K mg base ["ground", "by", "found", "claim", "target", "parts", "sign", "aim", "row", "many", "exchange", "other", "one", "some"] "renamed" (defScope s_renamed) f cdv A outer s H E) rfl
  exact (mss_cons (ms_set sc_renamed.nd (me_lstO .nil pa_nil))
    (mss_cons (ms_forL po rfl me_var (mg_tup rfl (.cons (mg_name sc_renamed.nd) (.cons (mg_name sc_renamed.nd) (.cons (mg_name sc_renamed.nd) .nil))) (pgs_cons pg_w (pgs_cons pg_w (pgs_cons pg_w pgs_nil)))) (mss_cons (ms_asg (me_call O_renamed_exchange (hr.mono (by decide)) m_renamed_exchange k_renamed_exchange b_renamed_exchange tk (.cons me_var (.cons me_var .nil)) (pa_cons pe_w (pa_cons pe_w pa_nil))) (mg_tup rfl (.cons (mg_name sc_renamed.nd) (.cons (mg_name sc_renamed.nd) .nil)) (pgs_cons pg_w (pgs_cons pg_w pgs_nil))))
    (mss_cons (ms_set sc_renamed.nd (me_lst .nil pa_nil))
    (mss_cons (ms_forL po rfl me_var (mg_tup rfl (.cons (mg_name sc_renamed.nd) (.cons (mg_name sc_renamed.nd) .nil)) (pgs_cons pg_w (pgs_cons pg_w pgs_nil))) (mss_cons (ms_asg (me_call O_renamed_exchange (hr.mono (by decide)) m_renamed_exchange k_renamed_exchange b_renamed_exchange tk (.cons me_var (.cons me_var .nil)) (pa_cons pe_w (pa_cons pe_w pa_nil))) (mg_tup rfl (.cons (mg_name sc_renamed.nd) (.cons (mg_name sc_renamed.nd) .nil)) (pgs_cons pg_w (pgs_cons pg_w pgs_nil))))
    (mss_one (ms_expr (me_mutL PySem.F.slot_list_append PySem.F.type_list_append mt_append lm_append (.cons (me_tup (.cons me_var (.cons (me_bin opd_mul (me_bin opd_mul me_var me_var) me_var) .nil)) (pa_cons pe_w (pa_cons pe_w pa_nil))) .nil) (pa_cons pe_w pa_nil))))))
    (mss_cons (by first | exact (ms_setLc (own := [("one", 12), ("many", 9)]) rfl sc_renamed.nd (mi_list (me_callB (callSortedT hr.units) (by rfl) T.n_sorted (by decide +kernel) (.cons me_var .nil) (pa_cons pe_w pa_nil))) (blkOk_by (by rfl)) (fun _ _ _ _ _ => (mgo_tup rfl (.cons (mgo_name sc_renamed.nd) (.cons (mgo_name sc_renamed.nd) .nil)) (pgs_cons pg_w (pgs_cons pg_w pgs_nil)))) (fun _ _ _ _ _ => (me_tup (.cons me_var (.cons me_var .nil)) (pa_cons pe_w (pa_cons pe_w pa_nil))))) | exact (ms_set sc_renamed.nd (me_lc (own := [("one", 12), ("many", 9)]) rfl sc_renamed.nd (mi_list (me_callB (callSortedT hr.units) (by rfl) T.n_sorted (by decide +kernel) (.cons me_var .nil) (pa_cons pe_w pa_nil))) (blkOk_by (by rfl)) (fun _ _ _ _ _ => (mgo_tup rfl (.cons (mgo_name sc_renamed.nd) (.cons (mgo_name sc_renamed.nd) .nil)) (pgs_cons pg_w (pgs_cons pg_w pgs_nil)))) (fun _ _ _ _ _ => (me_tup (.cons me_var (.cons me_var .nil)) (pa_cons pe_w (pa_cons pe_w pa_nil)))))))
    (mss_one (ms_expr (me_appO (me_tupO (.cons (me_call O_triple (hr.mono (by decide)) m_triple k_triple b_triple tk (.cons (me_dget hr.units me_var (me_ix ixd me_var me_int)) (.cons (me_dget hr.units me_var (me_ix ixd me_var me_int)) (.cons (me_dget hr.units me_var (me_ix ixd me_var me_int)) .nil))) (pa_cons pe_w (pa_cons pe_w (pa_cons pe_w pa_nil)))) (.cons me_var (.cons me_var .nil))) (pa_cons pe_w (pa_cons pe_w (pa_cons pe_w pa_nil))))))))))))
    (mss_one (ms_ret me_var))))
theorem ok_renamed (T : Txt K mg) (g_renamed_exchange : FnD P w K mg base "renamed_exchange" 2 ["exchange", "by"] sg_renamed_exchange F_renamed_exchange) (g_triple : FnD P w K mg base "triple" 1 ["one", "other", "third"] sg_triple F_triple) {f : Addr} {fd : FuncData} (F : Fun K "renamed" "renamed" s_renamed f fd) (hm : mg "renamed" = some (.ref f)) (hb : Binds K fd ["ground", "by"] []) : FnD P w K mg base "renamed" 3 ["ground", "by"] sg_renamed F_renamed :=
  ⟨f, fd, fn_ok F sc_renamed sg_renamed rfl (b_renamed T g_renamed_exchange g_triple), hm, F.kp, hb⟩
theorem sc__law_plain_of : FnScope ["_law_exchange", "_law_by", "_law_a", "_law_b", "_law_c", "_law_d", "_law_e", "_law_sign", "_law_name"] ["_law_exchange", "_law_by"] (defScope s__law_plain_of) := ⟨rfl, rfl, rfl, by decide +kernel, rfl, by decide +kernel, by decide +kernel⟩
theorem b__law_plain_of (T : Txt K mg)  {f : Addr} : BodyOk P w K mg base ["_law_exchange", "_law_by", "_law_a", "_law_b", "_law_c", "_law_d", "_law_e", "_law_sign", "_law_name"] "_law_plain_of" s__law_plain_of f 0 M__law_plain_of := by
  intro cdv A outer s H E R Pn hr
  have tk : Takes (cxOf (L2.CX P w) P w K mg base ["_law_exchange", "_law_by", "_law_a", "_law_b", "_law_c", "_law_d", "_law_e", "_law_sign", "_law_name"] "_law_plain_of" (defScope s__law_plain_of) f cdv A outer s H E) (fun cls d _ H => E cls d H) := takes_of rfl rfl rfl rfl
  have po : PassesOwn (model P w) _ _ _ := passes_of (X := cxOf (L2.CX P w) P w K mg base ["_law_exchange", "_law_by", "_law_a", "_law_b", "_law_c", "_law_d", "_law_e", "_law_sign", "_law_name"] "_law_plain_of" (defScope s__law_plain_of) f cdv A outer s H E) rfl
  exact (mss_cons (ms_asg (me_lc (own := [("_law_name", 8)]) rfl sc__law_plain_of.nd (mi_tup me_var) (blkOk_by (by rfl)) (fun _ _ _ _ _ => (mgo_name sc__law_plain_of.nd)) (fun _ _ _ _ _ => (me_dget hr.units me_var me_var))) (mg_lst rfl (.cons (mg_name sc__law_plain_of.nd) (.cons (mg_name sc__law_plain_of.nd) (.cons (mg_name sc__law_plain_of.nd) (.cons (mg_name sc__law_plain_of.nd) (.cons (mg_name sc__law_plain_of.nd) .nil))))) (pgs_cons pg_w (pgs_cons pg_w (pgs_cons pg_w (pgs_cons pg_w (pgs_cons pg_w pgs_nil)))))))
    (mss_cons (ms_set sc__law_plain_of.nd me_int)
    (mss_cons (ms_if (mt_cmp opd_lt me_var me_var) (mss_one (ms_set sc__law_plain_of.nd (me_bin opd_sub me_int me_var))) mss_nil)
    (mss_cons (ms_if (mt_cmp opd_lt me_var me_var) (mss_one (ms_set sc__law_plain_of.nd (me_bin opd_sub me_int me_var))) mss_nil)
    (mss_one (ms_ret (me_tup (.cons me_var (.cons (me_tup (.cons me_var (.cons (me_callB (callSMin rfl) (by rfl) T.n_min (by decide +kernel) (.cons me_var (.cons me_var .nil)) (pa_cons pe_w (pa_cons pe_w pa_nil))) (.cons (me_callB (callSMax rfl) (by rfl) T.n_max (by decide +kernel) (.cons me_var (.cons me_var .nil)) (pa_cons pe_w (pa_cons pe_w pa_nil))) (.cons (me_callB (callSMin rfl) (by rfl) T.n_min (by decide +kernel) (.cons me_var (.cons me_var .nil)) (pa_cons pe_w (pa_cons pe_w pa_nil))) (.cons (me_callB (callSMax rfl) (by rfl) T.n_max (by decide +kernel) (.cons me_var (.cons me_var .nil)) (pa_cons pe_w (pa_cons pe_w pa_nil))) .nil))))) (pa_cons pe_w (pa_cons pe_w (pa_cons pe_w (pa_cons pe_w (pa_cons pe_w pa_nil)))))) .nil)) (pa_cons pe_w (pa_cons pe_w pa_nil)))))))))
theorem ok__law_plain_of (T : Txt K mg)  {f : Addr} {fd : FuncData} (F : Fun K "_law_plain_of" "_law_plain_of" s__law_plain_of f fd) (hm : mg "_law_plain_of" = some (.ref f)) (hb : Binds K fd ["_law_exchange", "_law_by"] []) : FnD P w K mg base "_law_plain_of" 1 ["_law_exchange", "_law_by"] sg__law_plain_of F__law_plain_of :=
  ⟨f, fd, fn_ok F sc__law_plain_of sg__law_plain_of rfl (b__law_plain_of T ), hm, F.kp, hb⟩
theorem sc__law_due : FnScope ["_law_ground", "_law_by", "_law_found", "_law_claim", "_law_target", "_law_parts", "_law_sign", "_law_aim", "_law_some", "_law_many", "_law_exchange", "_law_other", "_law_one", "_law_row"] ["_law_ground", "_law_by"] (defScope s__law_due) := ⟨rfl, rfl, rfl, by decide +kernel, rfl, by decide +kernel, by decide +kernel⟩
theorem b__law_due (T : Txt K mg) (g__law_plain_of : FnD P w K mg base "_law_plain_of" 1 ["_law_exchange", "_law_by"] sg__law_plain_of F__law_plain_of) (g__law_triple : FnD P w K mg base "_law_triple" 1 ["_law_one", "_law_other", "_law_third"] sg__law_triple F__law_triple) {f : Addr} : BodyOk P w K mg base ["_law_ground", "_law_by", "_law_found", "_law_claim", "_law_target", "_law_parts", "_law_sign", "_law_aim", "_law_some", "_law_many", "_law_exchange", "_law_other", "_law_one", "_law_row"] "_law_due" s__law_due f 1 M__law_due := by
  obtain ⟨f__law_plain_of, fd__law_plain_of, O__law_plain_of, m__law_plain_of, k__law_plain_of, b__law_plain_of⟩ := g__law_plain_of
  obtain ⟨f__law_triple, fd__law_triple, O__law_triple, m__law_triple, k__law_triple, b__law_triple⟩ := g__law_triple
  intro cdv A outer s H E R Pn hr
  have tk : Takes (cxOf (L2.CX P w) P w K mg base ["_law_ground", "_law_by", "_law_found", "_law_claim", "_law_target", "_law_parts", "_law_sign", "_law_aim", "_law_some", "_law_many", "_law_exchange", "_law_other", "_law_one", "_law_row"] "_law_due" (defScope s__law_due) f cdv A outer s H E) (fun cls d _ H => E cls d H) := takes_of rfl rfl rfl rfl
  have po : PassesOwn (model P w) _ _ _ := passes_of (X := cxOf (L2.CX P w) P w K mg base ["_law_ground", "_law_by", "_law_found", "_law_claim", "_law_target", "_law_parts", "_law_sign", "_law_aim", "_law_some", "_law_many", "_law_exchange", "_law_other", "_law_one", "_law_row"] "_law_due" (defScope s__law_due) f cdv A outer s H E) rfl
  exact (mss_cons (ms_set sc__law_due.nd (me_lst .nil pa_nil))
    (mss_cons (ms_forL po rfl me_var (mg_tup rfl (.cons (mg_name sc__law_due.nd) (.cons (mg_name sc__law_due.nd) (.cons (mg_name sc__law_due.nd) .nil))) (pgs_cons pg_w (pgs_cons pg_w (pgs_cons pg_w pgs_nil)))) (mss_cons (ms_asg (me_call O__law_plain_of (hr.mono (by decide)) m__law_plain_of k__law_plain_of b__law_plain_of tk (.cons me_var (.cons me_var .nil)) (pa_cons pe_w (pa_cons pe_w pa_nil))) (mg_tup rfl (.cons (mg_name sc__law_due.nd) (.cons (mg_name sc__law_due.nd) .nil)) (pgs_cons pg_w (pgs_cons pg_w pgs_nil))))
    (mss_cons (ms_set sc__law_due.nd me_dnewT)
    (mss_cons (ms_forL po rfl me_var (mg_tup rfl (.cons (mg_name sc__law_due.nd) (.cons (mg_name sc__law_due.nd) .nil)) (pgs_cons pg_w (pgs_cons pg_w pgs_nil))) (mss_cons (ms_asg (me_call O__law_plain_of (hr.mono (by decide)) m__law_plain_of k__law_plain_of b__law_plain_of tk (.cons me_var (.cons me_var .nil)) (pa_cons pe_w (pa_cons pe_w pa_nil))) (mg_tup rfl (.cons (mg_name sc__law_due.nd) (.cons (mg_name sc__law_due.nd) .nil)) (pgs_cons pg_w (pgs_cons pg_w pgs_nil))))
    (mss_one (ms_asg (me_bin opd_mul (me_bin opd_mul me_var me_var) me_var) (mg_put (W := W0) hr.units me_var)))))
    (mss_cons (by first | exact (ms_setLc (own := [("_law_one", 12)]) rfl sc__law_due.nd (mi_list (me_callB (callSortedDT rfl hr.units) (by rfl) T.n_sorted (by decide +kernel) (.cons me_var .nil) (pa_cons pe_w pa_nil))) (blkOk_by (by rfl)) (fun _ _ _ _ _ => (mgo_name sc__law_due.nd)) (fun _ _ _ _ _ => (me_tup (.cons (me_dget hr.units me_var me_var) (.cons me_var .nil)) (pa_cons pe_w (pa_cons pe_w pa_nil))))) | exact (ms_set sc__law_due.nd (me_lc (own := [("_law_one", 12)]) rfl sc__law_due.nd (mi_list (me_callB (callSortedDT rfl hr.units) (by rfl) T.n_sorted (by decide +kernel) (.cons me_var .nil) (pa_cons pe_w pa_nil))) (blkOk_by (by rfl)) (fun _ _ _ _ _ => (mgo_name sc__law_due.nd)) (fun _ _ _ _ _ => (me_tup (.cons (me_dget hr.units me_var me_var) (.cons me_var .nil)) (pa_cons pe_w (pa_cons pe_w pa_nil)))))))
    (mss_one (ms_expr (me_mutL PySem.F.slot_list_append PySem.F.type_list_append mt_append lm_append (.cons (me_tup (.cons (me_call O__law_triple (hr.mono (by decide)) m__law_triple k__law_triple b__law_triple tk (.cons (me_dget hr.units me_var (me_ix ixd me_var me_int)) (.cons (me_dget hr.units me_var (me_ix ixd me_var me_int)) (.cons (me_dget hr.units me_var (me_ix ixd me_var me_int)) .nil))) (pa_cons pe_w (pa_cons pe_w (pa_cons pe_w pa_nil)))) (.cons me_var (.cons me_var .nil))) (pa_cons pe_w (pa_cons pe_w (pa_cons pe_w pa_nil)))) .nil) (pa_cons pe_w pa_nil)))))))))
    (mss_one (ms_ret me_var))))
theorem ok__law_due (T : Txt K mg) (g__law_plain_of : FnD P w K mg base "_law_plain_of" 1 ["_law_exchange", "_law_by"] sg__law_plain_of F__law_plain_of) (g__law_triple : FnD P w K mg base "_law_triple" 1 ["_law_one", "_law_other", "_law_third"] sg__law_triple F__law_triple) {f : Addr} {fd : FuncData} (F : Fun K "_law_due" "_law_due" s__law_due f fd) (hm : mg "_law_due" = some (.ref f)) (hb : Binds K fd ["_law_ground", "_law_by"] []) : FnD P w K mg base "_law_due" 2 ["_law_ground", "_law_by"] sg__law_due F__law_due :=
  ⟨f, fd, fn_ok F sc__law_due sg__law_due rfl (b__law_due T g__law_plain_of g__law_triple), hm, F.kp, hb⟩
theorem sc_law : FnScope ["_law_script", "_law_names_here", "_law_others", "_law_by", "_law_to", "_law_k", "_law_ground", "_law_handed", "_law_kept", "_law_found", "_law_again", "_law_step", "_law_name"] ["_law_script"] (defScope s_law) := ⟨rfl, rfl, rfl, by decide +kernel, rfl, by decide +kernel, by decide +kernel⟩
theorem b_law (T : Txt K mg) (g__law_names : FnD P w K mg base "_law_names" 3 ["_law_script", "_law_at", "_law_many"] sg__law_names F__law_names) (g__law_ground_by : FnD P w K mg base "_law_ground_by" 3 ["_law_script", "_law_at", "_law_names_here", "_law_most"] sg__law_ground_by F__law_ground_by) (g__law_copied : FnD P w K mg base "_law_copied" 1 ["_law_ground"] sg__law_copied F__law_copied) (g_renamed : FnD P w K mg base "renamed" 3 ["ground", "by"] sg_renamed F_renamed) (g__law_due : FnD P w K mg base "_law_due" 2 ["_law_ground", "_law_by"] sg__law_due F__law_due) {f : Addr} : BodyOk P w K mg base ["_law_script", "_law_names_here", "_law_others", "_law_by", "_law_to", "_law_k", "_law_ground", "_law_handed", "_law_kept", "_law_found", "_law_again", "_law_step", "_law_name"] "law" s_law f 3 M_law := by
  obtain ⟨f__law_names, fd__law_names, O__law_names, m__law_names, k__law_names, b__law_names⟩ := g__law_names
  obtain ⟨f__law_ground_by, fd__law_ground_by, O__law_ground_by, m__law_ground_by, k__law_ground_by, b__law_ground_by⟩ := g__law_ground_by
  obtain ⟨f__law_copied, fd__law_copied, O__law_copied, m__law_copied, k__law_copied, b__law_copied⟩ := g__law_copied
  obtain ⟨f_renamed, fd_renamed, O_renamed, m_renamed, k_renamed, b_renamed⟩ := g_renamed
  obtain ⟨f__law_due, fd__law_due, O__law_due, m__law_due, k__law_due, b__law_due⟩ := g__law_due
  intro cdv A outer s H E R Pn hr
  have tk : Takes (cxOf (L2.CX P w) P w K mg base ["_law_script", "_law_names_here", "_law_others", "_law_by", "_law_to", "_law_k", "_law_ground", "_law_handed", "_law_kept", "_law_found", "_law_again", "_law_step", "_law_name"] "law" (defScope s_law) f cdv A outer s H E) (fun cls d _ H => E cls d H) := takes_of rfl rfl rfl rfl
  have po : PassesOwn (model P w) _ _ _ := passes_of (X := cxOf (L2.CX P w) P w K mg base ["_law_script", "_law_names_here", "_law_others", "_law_by", "_law_to", "_law_k", "_law_ground", "_law_handed", "_law_kept", "_law_found", "_law_again", "_law_step", "_law_name"] "law" (defScope s_law) f cdv A outer s H E) rfl
  exact (mss_cons (ms_set sc_law.nd (me_call O__law_names (hr.mono (by decide)) m__law_names k__law_names b__law_names tk (.cons me_var (.cons me_int (.cons me_int .nil))) (pa_cons pe_w (pa_cons pe_w (pa_cons pe_w pa_nil)))))
    (mss_cons (ms_if (mt_cmp opd_lt (me_callB callLen (by rfl) T.n_len PySem.boot_len (.cons me_var .nil) (pa_cons pe_w pa_nil)) me_int) (mss_one (ms_set sc_law.nd (me_lst (.cons me_str (.cons me_str (.cons me_str (.cons me_str (.cons me_str .nil))))) (pa_cons pe_w (pa_cons pe_w (pa_cons pe_w (pa_cons pe_w (pa_cons pe_w pa_nil)))))))) mss_nil)
    (mss_cons (ms_set sc_law.nd (me_call O__law_names (hr.mono (by decide)) m__law_names k__law_names b__law_names tk (.cons me_var (.cons me_int (.cons me_int .nil))) (pa_cons pe_w (pa_cons pe_w (pa_cons pe_w pa_nil)))))
    (mss_cons (ms_set sc_law.nd (me_bin opd_add me_var (me_lcIf (own := [("_law_name", 12)]) rfl sc_law.nd (mi_list me_var) (blkOk_by (by rfl)) (fun _ _ _ _ _ => (mgo_name sc_law.nd)) (fun _ _ _ _ _ => (mt_cmp (opd_notInD hr.units) me_var me_var)) (fun _ _ _ _ _ => me_var))))
    (mss_cons (ms_set sc_law.nd me_dnewK)
    (mss_cons (ms_set sc_law.nd me_dnewK)
    (mss_cons (ms_forR1 po rfl T.n_range (me_callB callLen (by rfl) T.n_len PySem.boot_len (.cons me_var .nil) (pa_cons pe_w pa_nil)) (mg_name sc_law.nd) (mss_cons (ms_asg (me_ix ixd me_var me_var) (mg_put (W := W0) hr.units (me_ix ixd me_var me_var)))
    (mss_one (ms_asg (me_ix ixd me_var me_var) (mg_put (W := W0) hr.units (me_ix ixd me_var me_var))))))
    (mss_cons (ms_set sc_law.nd (me_call O__law_ground_by (hr.mono (by decide)) m__law_ground_by k__law_ground_by b__law_ground_by tk (.cons me_var (.cons me_int (.cons me_var (.cons me_int .nil)))) (pa_cons pe_w (pa_cons pe_w (pa_cons pe_w (pa_cons pe_w pa_nil))))))
    (mss_cons (ms_set sc_law.nd (me_call O__law_copied (hr.mono (by decide)) m__law_copied k__law_copied b__law_copied tk (.cons me_var .nil) (pa_cons pe_w pa_nil)))
    (mss_cons (ms_set sc_law.nd (me_callTy (callDict rfl) (by rfl) T.n_dict (by decide +kernel) (.cons me_var .nil) (pa_cons pe_w pa_nil)))
    (mss_cons (ms_set sc_law.nd (me_call O_renamed (hr.mono (by decide)) m_renamed k_renamed b_renamed tk (.cons me_var (.cons me_var .nil)) (pa_cons pe_w (pa_cons pe_w pa_nil))))
    (mss_cons (ms_if (mt_w (mw_or (mt_not (mt_val (me_isiP .list rfl T.n_isinstance T.n_list me_var))) (mw_or (mt_cmpP (opd_ne hr.units) me_var (me_call O__law_due (hr.mono (by decide)) m__law_due k__law_due b__law_due tk (.cons me_var (.cons me_var .nil)) (pa_cons pe_w (pa_cons pe_w pa_nil)))) (mw_or (mt_cmp (opd_ne hr.units) me_var me_var) (mw_or1 (mt_cmp (opd_neD hr.units) me_var me_var)))))) (mss_one (ms_ret me_bl)) mss_nil)
    (mss_cons (ms_set sc_law.nd (me_call O__law_copied (hr.mono (by decide)) m__law_copied k__law_copied b__law_copied tk (.cons me_var .nil) (pa_cons pe_w pa_nil)))
    (mss_cons (ms_forO po rfl me_var (mn_name sc_law.nd) (fun _ => (mss_one (ms_expr (me_appIx me_int)))))
    (mss_cons (ms_expr me_clrO)
    (mss_one (ms_ret (me_and (me_cmpP (opd_eq hr.units) (me_call O_renamed (hr.mono (by decide)) m_renamed k_renamed b_renamed tk (.cons me_var (.cons me_var .nil)) (pa_cons pe_w (pa_cons pe_w pa_nil))) me_var) (me_one (me_cmp (opd_eq hr.units) me_var me_var))))))))))))))))))))
theorem ok_law (T : Txt K mg) (g__law_names : FnD P w K mg base "_law_names" 3 ["_law_script", "_law_at", "_law_many"] sg__law_names F__law_names) (g__law_ground_by : FnD P w K mg base "_law_ground_by" 3 ["_law_script", "_law_at", "_law_names_here", "_law_most"] sg__law_ground_by F__law_ground_by) (g__law_copied : FnD P w K mg base "_law_copied" 1 ["_law_ground"] sg__law_copied F__law_copied) (g_renamed : FnD P w K mg base "renamed" 3 ["ground", "by"] sg_renamed F_renamed) (g__law_due : FnD P w K mg base "_law_due" 2 ["_law_ground", "_law_by"] sg__law_due F__law_due) {f : Addr} {fd : FuncData} (F : Fun K "law" "law" s_law f fd) (hm : mg "law" = some (.ref f)) (hb : Binds K fd ["_law_script"] []) : FnD P w K mg base "law" 4 ["_law_script"] sg_law F_law :=
  ⟨f, fd, fn_ok F sc_law sg_law rfl (b_law T g__law_names g__law_ground_by g__law_copied g_renamed g__law_due), hm, F.kp, hb⟩
end
theorem all_mk (l : PySem.W.OpenLaw) {w : World} {K : PySem.W.Frag} {h : Heap} {mg : Str → Option Value} {fa : Addr} (X : K.In h) (G : h.Ns mainGlobals mg) (hfa : mg "law" = some (.ref fa))
    {f0 : Addr} {od0 an0 : Option Addr} {sl0 : Array (Option Value)} {oc0 kV0 dc0 pm0 cd0 ct0 : Value}
    {f1 : Addr} {od1 an1 : Option Addr} {sl1 : Array (Option Value)} {oc1 kV1 dc1 pm1 cd1 ct1 : Value}
    {f2 : Addr} {od2 an2 : Option Addr} {sl2 : Array (Option Value)} {oc2 kV2 dc2 pm2 cd2 ct2 : Value}
    {f3 : Addr} {od3 an3 : Option Addr} {sl3 : Array (Option Value)} {oc3 kV3 dc3 pm3 cd3 ct3 : Value}
    {f4 : Addr} {od4 an4 : Option Addr} {sl4 : Array (Option Value)} {oc4 kV4 dc4 pm4 cd4 ct4 : Value}
    {f5 : Addr} {od5 an5 : Option Addr} {sl5 : Array (Option Value)} {oc5 kV5 dc5 pm5 cd5 ct5 : Value}
    {f6 : Addr} {od6 an6 : Option Addr} {sl6 : Array (Option Value)} {oc6 kV6 dc6 pm6 cd6 ct6 : Value}
    {f7 : Addr} {od7 an7 : Option Addr} {sl7 : Array (Option Value)} {oc7 kV7 dc7 pm7 cd7 ct7 : Value}
    {f8 : Addr} {od8 an8 : Option Addr} {sl8 : Array (Option Value)} {oc8 kV8 dc8 pm8 cd8 ct8 : Value}
    {f9 : Addr} {od9 an9 : Option Addr} {sl9 : Array (Option Value)} {oc9 kV9 dc9 pm9 cd9 ct9 : Value}
    {f10 : Addr} {od10 an10 : Option Addr} {sl10 : Array (Option Value)} {oc10 kV10 dc10 pm10 cd10 ct10 : Value}
    {f11 : Addr} {od11 an11 : Option Addr} {sl11 : Array (Option Value)} {oc11 kV11 dc11 pm11 cd11 ct11 : Value}
    {f12 : Addr} {od12 an12 : Option Addr} {sl12 : Array (Option Value)} {oc12 kV12 dc12 pm12 cd12 ct12 : Value}
    {f13 : Addr} {od13 an13 : Option Addr} {sl13 : Array (Option Value)} {oc13 kV13 dc13 pm13 cd13 ct13 : Value}
    {f14 : Addr} {od14 an14 : Option Addr} {sl14 : Array (Option Value)} {oc14 kV14 dc14 pm14 cd14 ct14 : Value}
    {f15 : Addr} {od15 an15 : Option Addr} {sl15 : Array (Option Value)} {oc15 kV15 dc15 pm15 cd15 ct15 : Value}
    (a0 : PySem.W.nsIn K mainGlobals "_law_cell_at" = some (some (.ref f0))) (l0 : K.lookup f0 = some ⟨oc0, od0, .func (PySem.W.fnOf "_law_cell_at" "_law_cell_at" (defArgs s__law_cell_at) (defBody s__law_cell_at) (defScope s__law_cell_at) .none kV0 dc0 pm0 an0 cd0 ct0), sl0⟩) (c0 : PySem.W.codeIn K cd0 "_law_cell_at" = true) (k0 : PySem.W.keepIn K (.ref f0) = true)
    (a1 : PySem.W.nsIn K mainGlobals "_law_number" = some (some (.ref f1))) (l1 : K.lookup f1 = some ⟨oc1, od1, .func (PySem.W.fnOf "_law_number" "_law_number" (defArgs s__law_number) (defBody s__law_number) (defScope s__law_number) .none kV1 dc1 pm1 an1 cd1 ct1), sl1⟩) (c1 : PySem.W.codeIn K cd1 "_law_number" = true) (k1 : PySem.W.keepIn K (.ref f1) = true)
    (a2 : PySem.W.nsIn K mainGlobals "_law_word_by" = some (some (.ref f2))) (l2 : K.lookup f2 = some ⟨oc2, od2, .func (PySem.W.fnOf "_law_word_by" "_law_word_by" (defArgs s__law_word_by) (defBody s__law_word_by) (defScope s__law_word_by) .none kV2 dc2 pm2 an2 cd2 ct2), sl2⟩) (c2 : PySem.W.codeIn K cd2 "_law_word_by" = true) (k2 : PySem.W.keepIn K (.ref f2) = true)
    (a3 : PySem.W.nsIn K mainGlobals "_law_names" = some (some (.ref f3))) (l3 : K.lookup f3 = some ⟨oc3, od3, .func (PySem.W.fnOf "_law_names" "_law_names" (defArgs s__law_names) (defBody s__law_names) (defScope s__law_names) .none kV3 dc3 pm3 an3 cd3 ct3), sl3⟩) (c3 : PySem.W.codeIn K cd3 "_law_names" = true) (k3 : PySem.W.keepIn K (.ref f3) = true)
    (a4 : PySem.W.nsIn K mainGlobals "_law_exchange_by" = some (some (.ref f4))) (l4 : K.lookup f4 = some ⟨oc4, od4, .func (PySem.W.fnOf "_law_exchange_by" "_law_exchange_by" (defArgs s__law_exchange_by) (defBody s__law_exchange_by) (defScope s__law_exchange_by) .none kV4 dc4 pm4 an4 cd4 ct4), sl4⟩) (c4 : PySem.W.codeIn K cd4 "_law_exchange_by" = true) (k4 : PySem.W.keepIn K (.ref f4) = true)
    (a5 : PySem.W.nsIn K mainGlobals "_law_triple" = some (some (.ref f5))) (l5 : K.lookup f5 = some ⟨oc5, od5, .func (PySem.W.fnOf "_law_triple" "_law_triple" (defArgs s__law_triple) (defBody s__law_triple) (defScope s__law_triple) .none kV5 dc5 pm5 an5 cd5 ct5), sl5⟩) (c5 : PySem.W.codeIn K cd5 "_law_triple" = true) (k5 : PySem.W.keepIn K (.ref f5) = true)
    (a6 : PySem.W.nsIn K mainGlobals "_law_parts_by" = some (some (.ref f6))) (l6 : K.lookup f6 = some ⟨oc6, od6, .func (PySem.W.fnOf "_law_parts_by" "_law_parts_by" (defArgs s__law_parts_by) (defBody s__law_parts_by) (defScope s__law_parts_by) .none kV6 dc6 pm6 an6 cd6 ct6), sl6⟩) (c6 : PySem.W.codeIn K cd6 "_law_parts_by" = true) (k6 : PySem.W.keepIn K (.ref f6) = true)
    (a7 : PySem.W.nsIn K mainGlobals "_law_ground_by" = some (some (.ref f7))) (l7 : K.lookup f7 = some ⟨oc7, od7, .func (PySem.W.fnOf "_law_ground_by" "_law_ground_by" (defArgs s__law_ground_by) (defBody s__law_ground_by) (defScope s__law_ground_by) .none kV7 dc7 pm7 an7 cd7 ct7), sl7⟩) (c7 : PySem.W.codeIn K cd7 "_law_ground_by" = true) (k7 : PySem.W.keepIn K (.ref f7) = true)
    (a8 : PySem.W.nsIn K mainGlobals "_law_copied" = some (some (.ref f8))) (l8 : K.lookup f8 = some ⟨oc8, od8, .func (PySem.W.fnOf "_law_copied" "_law_copied" (defArgs s__law_copied) (defBody s__law_copied) (defScope s__law_copied) .none kV8 dc8 pm8 an8 cd8 ct8), sl8⟩) (c8 : PySem.W.codeIn K cd8 "_law_copied" = true) (k8 : PySem.W.keepIn K (.ref f8) = true)
    (a9 : PySem.W.nsIn K mainGlobals "plain" = some (some (.ref f9))) (l9 : K.lookup f9 = some ⟨oc9, od9, .func (PySem.W.fnOf "plain" "plain" (defArgs s_plain) (defBody s_plain) (defScope s_plain) .none kV9 dc9 pm9 an9 cd9 ct9), sl9⟩) (c9 : PySem.W.codeIn K cd9 "plain" = true) (k9 : PySem.W.keepIn K (.ref f9) = true)
    (a10 : PySem.W.nsIn K mainGlobals "renamed_exchange" = some (some (.ref f10))) (l10 : K.lookup f10 = some ⟨oc10, od10, .func (PySem.W.fnOf "renamed_exchange" "renamed_exchange" (defArgs s_renamed_exchange) (defBody s_renamed_exchange) (defScope s_renamed_exchange) .none kV10 dc10 pm10 an10 cd10 ct10), sl10⟩) (c10 : PySem.W.codeIn K cd10 "renamed_exchange" = true) (k10 : PySem.W.keepIn K (.ref f10) = true)
    (a11 : PySem.W.nsIn K mainGlobals "triple" = some (some (.ref f11))) (l11 : K.lookup f11 = some ⟨oc11, od11, .func (PySem.W.fnOf "triple" "triple" (defArgs s_triple) (defBody s_triple) (defScope s_triple) .none kV11 dc11 pm11 an11 cd11 ct11), sl11⟩) (c11 : PySem.W.codeIn K cd11 "triple" = true) (k11 : PySem.W.keepIn K (.ref f11) = true)
    (a12 : PySem.W.nsIn K mainGlobals "renamed" = some (some (.ref f12))) (l12 : K.lookup f12 = some ⟨oc12, od12, .func (PySem.W.fnOf "renamed" "renamed" (defArgs s_renamed) (defBody s_renamed) (defScope s_renamed) .none kV12 dc12 pm12 an12 cd12 ct12), sl12⟩) (c12 : PySem.W.codeIn K cd12 "renamed" = true) (k12 : PySem.W.keepIn K (.ref f12) = true)
    (a13 : PySem.W.nsIn K mainGlobals "_law_plain_of" = some (some (.ref f13))) (l13 : K.lookup f13 = some ⟨oc13, od13, .func (PySem.W.fnOf "_law_plain_of" "_law_plain_of" (defArgs s__law_plain_of) (defBody s__law_plain_of) (defScope s__law_plain_of) .none kV13 dc13 pm13 an13 cd13 ct13), sl13⟩) (c13 : PySem.W.codeIn K cd13 "_law_plain_of" = true) (k13 : PySem.W.keepIn K (.ref f13) = true)
    (a14 : PySem.W.nsIn K mainGlobals "_law_due" = some (some (.ref f14))) (l14 : K.lookup f14 = some ⟨oc14, od14, .func (PySem.W.fnOf "_law_due" "_law_due" (defArgs s__law_due) (defBody s__law_due) (defScope s__law_due) .none kV14 dc14 pm14 an14 cd14 ct14), sl14⟩) (c14 : PySem.W.codeIn K cd14 "_law_due" = true) (k14 : PySem.W.keepIn K (.ref f14) = true)
    (a15 : PySem.W.nsIn K mainGlobals "law" = some (some (.ref f15))) (l15 : K.lookup f15 = some ⟨oc15, od15, .func (PySem.W.fnOf "law" "law" (defArgs s_law) (defBody s_law) (defScope s_law) .none kV15 dc15 pm15 an15 cd15 ct15), sl15⟩) (c15 : PySem.W.codeIn K cd15 "law" = true) (k15 : PySem.W.keepIn K (.ref f15) = true)
    (z_abs : PySem.W.nsIn K mainGlobals "abs" = some none)
    (z_dict : PySem.W.nsIn K mainGlobals "dict" = some none)
    (z_isinstance : PySem.W.nsIn K mainGlobals "isinstance" = some none)
    (z_len : PySem.W.nsIn K mainGlobals "len" = some none)
    (z_list : PySem.W.nsIn K mainGlobals "list" = some none)
    (z_max : PySem.W.nsIn K mainGlobals "max" = some none)
    (z_min : PySem.W.nsIn K mainGlobals "min" = some none)
    (z_range : PySem.W.nsIn K mainGlobals "range" = some none)
    (z_sorted : PySem.W.nsIn K mainGlobals "sorted" = some none)
    (z_tuple : PySem.W.nsIn K mainGlobals "tuple" = some none) :
    ∃ fd : FuncData, (∀ (s : Shared) (v : Value), BindsTo s fd ⟨[v], []⟩ [("_law_script", v)]) ∧ ∀ base : Heap, K.In base → base.Ns mainGlobals mg → FnOk l.prog w K mg base (L2.CX l.prog w) 4 fa fd ["_law_script"] (spF K mg [.va] F_law) := by
  have e := hfa.symm.trans (PySem.W.mg_of X G a15)
  cases e
  have T : Txt K mg := ⟨PySem.W.mg_none_of X G z_abs, PySem.W.mg_none_of X G z_dict, PySem.W.mg_none_of X G z_isinstance, PySem.W.mg_none_of X G z_len, PySem.W.mg_none_of X G z_list, PySem.W.mg_none_of X G z_max, PySem.W.mg_none_of X G z_min, PySem.W.mg_none_of X G z_range, PySem.W.mg_none_of X G z_sorted, PySem.W.mg_none_of X G z_tuple⟩
  have F0 := fun_mk (st := s__law_cell_at) l0 c0 k0
  have bb0 := F0.binds (ps := ["_law_script", "_law_k"]) fun _ _ _ _ _ _ us hl => match us, hl with | [_, _], _ => rfl
  have F1 := fun_mk (st := s__law_number) l1 c1 k1
  have bb1 := F1.binds (ps := ["_law_script", "_law_k"]) fun _ _ _ _ _ _ us hl => match us, hl with | [_, _], _ => rfl
  have F2 := fun_mk (st := s__law_word_by) l2 c2 k2
  have bb2 := F2.binds (ps := ["_law_cell"]) fun _ _ _ _ _ _ us hl => match us, hl with | [_], _ => rfl
  have F3 := fun_mk (st := s__law_names) l3 c3 k3
  have bb3 := F3.binds (ps := ["_law_script", "_law_at", "_law_many"]) fun _ _ _ _ _ _ us hl => match us, hl with | [_, _, _], _ => rfl
  have F4 := fun_mk (st := s__law_exchange_by) l4 c4 k4
  have bb4 := F4.binds (ps := ["_law_cell", "_law_names_here"]) fun _ _ _ _ _ _ us hl => match us, hl with | [_, _], _ => rfl
  have F5 := fun_mk (st := s__law_triple) l5 c5 k5
  have bb5 := F5.binds (ps := ["_law_one", "_law_other", "_law_third"]) fun _ _ _ _ _ _ us hl => match us, hl with | [_, _, _], _ => rfl
  have F6 := fun_mk (st := s__law_parts_by) l6 c6 k6
  have bb6 := F6.binds (ps := ["_law_cell", "_law_names_here"]) fun _ _ _ _ _ _ us hl => match us, hl with | [_, _], _ => rfl
  have F7 := fun_mk (st := s__law_ground_by) l7 c7 k7
  have bb7 := F7.binds (ps := ["_law_script", "_law_at", "_law_names_here", "_law_most"]) fun _ _ _ _ _ _ us hl => match us, hl with | [_, _, _, _], _ => rfl
  have F8 := fun_mk (st := s__law_copied) l8 c8 k8
  have bb8 := F8.binds (ps := ["_law_ground"]) fun _ _ _ _ _ _ us hl => match us, hl with | [_], _ => rfl
  have F9 := fun_mk (st := s_plain) l9 c9 k9
  have bb9 := F9.binds (ps := ["exchange"]) fun _ _ _ _ _ _ us hl => match us, hl with | [_], _ => rfl
  have F10 := fun_mk (st := s_renamed_exchange) l10 c10 k10
  have bb10 := F10.binds (ps := ["exchange", "by"]) fun _ _ _ _ _ _ us hl => match us, hl with | [_, _], _ => rfl
  have F11 := fun_mk (st := s_triple) l11 c11 k11
  have bb11 := F11.binds (ps := ["one", "other", "third"]) fun _ _ _ _ _ _ us hl => match us, hl with | [_, _, _], _ => rfl
  have F12 := fun_mk (st := s_renamed) l12 c12 k12
  have bb12 := F12.binds (ps := ["ground", "by"]) fun _ _ _ _ _ _ us hl => match us, hl with | [_, _], _ => rfl
  have F13 := fun_mk (st := s__law_plain_of) l13 c13 k13
  have bb13 := F13.binds (ps := ["_law_exchange", "_law_by"]) fun _ _ _ _ _ _ us hl => match us, hl with | [_, _], _ => rfl
  have F14 := fun_mk (st := s__law_due) l14 c14 k14
  have bb14 := F14.binds (ps := ["_law_ground", "_law_by"]) fun _ _ _ _ _ _ us hl => match us, hl with | [_, _], _ => rfl
  have F15 := fun_mk (st := s_law) l15 c15 k15
  have bb15 := F15.binds (ps := ["_law_script"]) fun _ _ _ _ _ _ us hl => match us, hl with | [_], _ => rfl
  have g__law_cell_at := fun base => ok__law_cell_at (P := l.prog) (w := w) (base := base) T  F0 (PySem.W.mg_of X G a0) bb0
  have g__law_number := fun base => ok__law_number (P := l.prog) (w := w) (base := base) T (g__law_cell_at base) F1 (PySem.W.mg_of X G a1) bb1
  have g__law_word_by := fun base => ok__law_word_by (P := l.prog) (w := w) (base := base) T  F2 (PySem.W.mg_of X G a2) bb2
  have g__law_names := fun base => ok__law_names (P := l.prog) (w := w) (base := base) T (g__law_number base) (g__law_word_by base) F3 (PySem.W.mg_of X G a3) bb3
  have g__law_exchange_by := fun base => ok__law_exchange_by (P := l.prog) (w := w) (base := base) T  F4 (PySem.W.mg_of X G a4) bb4
  have g__law_triple := fun base => ok__law_triple (P := l.prog) (w := w) (base := base) T  F5 (PySem.W.mg_of X G a5) bb5
  have g__law_parts_by := fun base => ok__law_parts_by (P := l.prog) (w := w) (base := base) T (g__law_exchange_by base) F6 (PySem.W.mg_of X G a6) bb6
  have g__law_ground_by := fun base => ok__law_ground_by (P := l.prog) (w := w) (base := base) T (g__law_number base) (g__law_exchange_by base) (g__law_triple base) (g__law_parts_by base) F7 (PySem.W.mg_of X G a7) bb7
  have g__law_copied := fun base => ok__law_copied (P := l.prog) (w := w) (base := base) T  F8 (PySem.W.mg_of X G a8) bb8
  have g_plain := fun base => ok_plain (P := l.prog) (w := w) (base := base) T  F9 (PySem.W.mg_of X G a9) bb9
  have g_renamed_exchange := fun base => ok_renamed_exchange (P := l.prog) (w := w) (base := base) T (g_plain base) F10 (PySem.W.mg_of X G a10) bb10
  have g_triple := fun base => ok_triple (P := l.prog) (w := w) (base := base) T  F11 (PySem.W.mg_of X G a11) bb11
  have g_renamed := fun base => ok_renamed (P := l.prog) (w := w) (base := base) T (g_renamed_exchange base) (g_triple base) F12 (PySem.W.mg_of X G a12) bb12
  have g__law_plain_of := fun base => ok__law_plain_of (P := l.prog) (w := w) (base := base) T  F13 (PySem.W.mg_of X G a13) bb13
  have g__law_due := fun base => ok__law_due (P := l.prog) (w := w) (base := base) T (g__law_plain_of base) (g__law_triple base) F14 (PySem.W.mg_of X G a14) bb14
  exact ⟨_, fun s v => by exact .of_eq rfl, fun base _ _ => fn_ok F15 sc_law [.va] rfl (b_law (P := l.prog) (w := w) (base := base) T (g__law_names base) (g__law_ground_by base) (g__law_copied base) (g_renamed base) (g__law_due base))⟩
end K46

namespace K46
open PySem PySem.Spec L2 DX
open PyProof.Rows hiding St
theorem cell_at_is (ns : List Int) (k : Nat) : ∃ c : Int, F__law_cell_at [.scr ns, .int (k : Nat)] = .ok (.fz (.int c)) [] := by
  by_cases h : k < ns.length
  · have h' : (k : Int) < (ns.length : Int) := by omega
    exact ⟨ns[k], by simp [F__law_cell_at, M__law_cell_at, dVar, dC, dPrim, dMake, dTup, dLst, mArgs, AR.bind, AR.thn, ER.bind, ER.thn, FR.bind, TR.bind, TR.thn, TR.thenE, rdVs, rdV, frzV, frzVs, frzD, dTst, dNotT, dAndT, dOrT, dNotV, dAndV, dOrV, dIfE, dSeq, dDrop, dRet, dIf, dSet, putV, putRaw, gNm, gLs, gEach, dAsg, dPar, dCall, callV, takeA, take1, fillR, putB, rdA, rdFl, retS, inS, outS, List.tail, runFn, gAdd, DX.gSub, gNeg, gAbs, gLen, gEq_int, gNe_int, gLt_int, gGt_int, gLe_int, gGe_int, gIsi, tyD, isiD, dPin, forget, List.set_cons_zero, List.set_cons_succ, List.getElem?_cons_zero, List.getElem?_cons_succ, List.length_cons, List.length_nil, List.replicate, List.cons_append, List.nil_append, Nat.reduceAdd, Nat.reduceSub, Option.bind_some, Option.map_some, if_true, Bool.false_eq_true, if_false, h', gIx, atI_nn, List.getElem?_eq_getElem h]⟩
  · have h' : ¬ (k : Int) < (ns.length : Int) := by omega
    exact ⟨0, by simp [F__law_cell_at, M__law_cell_at, dVar, dC, dPrim, dMake, dTup, dLst, mArgs, AR.bind, AR.thn, ER.bind, ER.thn, FR.bind, TR.bind, TR.thn, TR.thenE, rdVs, rdV, frzV, frzVs, frzD, dTst, dNotT, dAndT, dOrT, dNotV, dAndV, dOrV, dIfE, dSeq, dDrop, dRet, dIf, dSet, putV, putRaw, gNm, gLs, gEach, dAsg, dPar, dCall, callV, takeA, take1, fillR, putB, rdA, rdFl, retS, inS, outS, List.tail, runFn, gAdd, DX.gSub, gNeg, gAbs, gLen, gEq_int, gNe_int, gLt_int, gGt_int, gLe_int, gGe_int, gIsi, tyD, isiD, dPin, forget, List.set_cons_zero, List.set_cons_succ, List.getElem?_cons_zero, List.getElem?_cons_succ, List.length_cons, List.length_nil, List.replicate, List.cons_append, List.nil_append, Nat.reduceAdd, Nat.reduceSub, Option.bind_some, Option.map_some, if_true, Bool.false_eq_true, if_false, h']⟩
theorem pow18 : gPow [.int 10, .int 18] = some (.fz (.int 1000000000000000000)) := by simp [gPow]
theorem number_b (s0 s1 : Slot) (j : Nat) (hj : j < 9) (x t : Int) (hx : Bd 32 x) (ht : Bd (40 * j + 33) t) : ∃ x' t', B__law_number_1 [s0, s1, .v .fz (.int x), .v .fz (.int t), .v .fz (.int (j : Nat))] =
    .next [s0, s1, .v .fz (.int x'), .v .fz (.int t'), .v .fz (.int (j : Nat))] ∧ Bd 32 x' ∧ Bd (40 * (j + 1) + 33) t' := by
  have bj : Bd 4 (j : Int) := by unfold Bd; omega
  have m1 := gMul_ok (b := 40692) (m := 17) hx Bd.lit (by decide)
  have d1 : gDiv [.int x, .int 52774] = some (.fz (.int (x / 52774))) := gDiv_ok (k := 17) Bd.lit (by decide) (by decide)
  have m2 := gMul_ok (a := 23) (k := 6) Bd.lit bj (by decide)
  have m3 := gMul_ok (k := 10) (Bd.mul (n := 10) (a := 23) (k := 6) Bd.lit bj (by decide)) bj (by decide)
  obtain ⟨x', e1, h1, h2⟩ : ∃ x', gMod [.int (x * 40692 + x / 52774 + 23 * (j : Int) * j + 7), .int 2147483647] = some (.fz (.int x')) ∧ 0 ≤ x' ∧ x' < 2147483647 := ⟨_, gMod_ok (by decide), Int.emod_nonneg _ (by decide), Int.emod_lt_of_pos _ (by decide)⟩
  have bx : Bd 31 x' := by unfold Bd; omega
  have m4 := gMul_ok (b := 2147483647) (m := 32) ht Bd.lit (by omega)
  have m5 := gMul_ok (b := 39373) (m := 16) bx Bd.lit (by decide)
  obtain ⟨y, e2, h3, h4⟩ : ∃ y, gMod [.int (x' * 39373), .int 2147483549] = some (.fz (.int y)) ∧ 0 ≤ y ∧ y < 2147483549 := ⟨_, gMod_ok (by decide), Int.emod_nonneg _ (by decide), Int.emod_lt_of_pos _ (by decide)⟩
  have bt : Bd (40 * (j + 1) + 33) (t * 2147483647 + y) := by
    have a : Bd (40 * j + 33 + 32) (t * 2147483647) := Bd.mul (k := 40 * j + 33) (m := 32) ht Bd.lit (by omega)
    have b : Bd 31 y := by unfold Bd; omega
    exact Bd.add a b (by omega) (by omega)
  exact ⟨x', t * 2147483647 + y, by simp [B__law_number_1, dVar, dC, dPrim, dMake, dTup, dLst, mArgs, AR.bind, AR.thn, ER.bind, ER.thn, FR.bind, TR.bind, TR.thn, TR.thenE, rdVs, rdV, frzV, frzVs, frzD, dTst, dNotT, dAndT, dOrT, dNotV, dAndV, dOrV, dIfE, dSeq, dDrop, dRet, dIf, dSet, putV, putRaw, gNm, gLs, gEach, dAsg, dPar, dCall, callV, takeA, take1, fillR, putB, rdA, rdFl, retS, inS, outS, List.tail, runFn, gAdd, DX.gSub, gNeg, gAbs, gLen, gEq_int, gNe_int, gLt_int, gGt_int, gLe_int, gGe_int, gIsi, tyD, isiD, dPin, forget, List.set_cons_zero, List.set_cons_succ, List.getElem?_cons_zero, List.getElem?_cons_succ, List.length_cons, List.length_nil, List.replicate, List.cons_append, List.nil_append, Nat.reduceAdd, Nat.reduceSub, Option.bind_some, Option.map_some, if_true, Bool.false_eq_true, if_false, m1, d1, m2, m3, e1, m4, m5, e2], bx.mono (by decide), bt⟩
theorem law_number_is (ns : List Int) (k : Nat) (hk : k < 1000) : ∃ v : Int, F__law_number [.scr ns, .int (k : Nat)] = .ok (.fz (.int v)) [] := by
  obtain ⟨c, hc⟩ := cell_at_is ns k
  obtain ⟨z, hz⟩ := cell_at_is ns 0
  simp only [Int.natCast_zero, Int.ofNat_zero] at hz
  have hz : F__law_cell_at [.scr ns, .int 0] = .ok (.fz (.int z)) [] := hz
  by_cases h : 1000000000000000000 ≤ (if c < 0 then -c else c)
  · exact ⟨c, by simp [F__law_number, M__law_number, dVar, dC, dPrim, dMake, dTup, dLst, mArgs, AR.bind, AR.thn, ER.bind, ER.thn, FR.bind, TR.bind, TR.thn, TR.thenE, rdVs, rdV, frzV, frzVs, frzD, dTst, dNotT, dAndT, dOrT, dNotV, dAndV, dOrV, dIfE, dSeq, dDrop, dRet, dIf, dSet, putV, putRaw, gNm, gLs, gEach, dAsg, dPar, dCall, callV, takeA, take1, fillR, putB, rdA, rdFl, retS, inS, outS, List.tail, runFn, gAdd, DX.gSub, gNeg, gAbs, gLen, gEq_int, gNe_int, gLt_int, gGt_int, gLe_int, gGe_int, gIsi, tyD, isiD, dPin, forget, List.set_cons_zero, List.set_cons_succ, List.getElem?_cons_zero, List.getElem?_cons_succ, List.length_cons, List.length_nil, List.replicate, List.cons_append, List.nil_append, Nat.reduceAdd, Nat.reduceSub, Option.bind_some, Option.map_some, if_true, Bool.false_eq_true, if_false, hc, pow18, h]⟩
  · have bc : Bd 60 c := by unfold Bd; split at h <;> omega
    have bk : Bd 10 (k : Int) := by unfold Bd; omega
    have m1 := gMul_ok (a := 6007) (k := 13) Bd.lit bk (by decide)
    have m2 := gMul_ok (a := 37) (k := 6) Bd.lit bc (by decide)
    obtain ⟨x, e1, h1, h2⟩ : ∃ x, gMod [.int (z + 6007 * (k : Int) + 37 * c), .int 2147483563] = some (.fz (.int x)) ∧ 0 ≤ x ∧ x < 2147483563 := ⟨_, gMod_ok (by decide), Int.emod_nonneg _ (by decide), Int.emod_lt_of_pos _ (by decide)⟩
    obtain ⟨e, r, x', t', s4, rfl, _⟩ := forRng (t := gNm 4) (dead := [4]) (body := B__law_number_1)
      (fun i e => ∃ (x' t' : Int) (s4 : DX.Slot), e = [.v .rd (.scr ns), .v .fz (.int (k : Nat)), .v .fz (.int x'), .v .fz (.int t'), s4] ∧ Bd 32 x' ∧ Bd (40 * i + 33) t') 9
      [.v .rd (.scr ns), .v .fz (.int (k : Nat)), .v .fz (.int (x + 29)), .v .fz (.int 0), .un] ⟨_, _, _, rfl, by unfold Bd; omega, Bd.lit⟩ (by
        rintro i e hi ⟨x', t', s4, rfl, h1, h2⟩
        obtain ⟨x2, t2, e, h3, h4⟩ := number_b (.v .rd (.scr ns)) (.v .fz (.int (k : Nat))) i hi x' t' h1 h2
        exact ⟨[.v .rd (.scr ns), .v .fz (.int (k : Nat)), .v .fz (.int x'), .v .fz (.int t'), .v .fz (.int (i : Nat))], _, rfl, .inl e, _, _, _, rfl, h3, h4⟩)
    refine ⟨t', ?_⟩
    have r' := fun env => forR1_nat (n := 9) (by decide) (gNm 4) [4] B__law_number_1 env
    have r9 : ∀ env, forR1 (.fz (.int 9)) (gNm 4) [4] B__law_number_1 env = forL (gNm 4) [4] B__law_number_1 (rng 9) env := r'
    simp [F__law_number, M__law_number, dForR1_eq, dVar, dC, dPrim, dMake, dTup, dLst, mArgs, AR.bind, AR.thn, ER.bind, ER.thn, FR.bind, TR.bind, TR.thn, TR.thenE, rdVs, rdV, frzV, frzVs, frzD, dTst, dNotT, dAndT, dOrT, dNotV, dAndV, dOrV, dIfE, dSeq, dDrop, dRet, dIf, dSet, putV, putRaw, gNm, gLs, gEach, dAsg, dPar, dCall, callV, takeA, take1, fillR, putB, rdA, rdFl, retS, inS, outS, List.tail, runFn, gAdd, DX.gSub, gNeg, gAbs, gLen, gEq_int, gNe_int, gLt_int, gGt_int, gLe_int, gGe_int, gIsi, tyD, isiD, dPin, forget, List.set_cons_zero, List.set_cons_succ, List.getElem?_cons_zero, List.getElem?_cons_succ, List.length_cons, List.length_nil, List.replicate, List.cons_append, List.nil_append, Nat.reduceAdd, Nat.reduceSub, Option.bind_some, Option.map_some, if_true, Bool.false_eq_true, if_false, hc, hz, pow18, h, m1, m2, e1, r9, r]
/-- a letter of the alphabet -/
theorem letter (j : Int) (h0 : 0 ≤ j) (h1 : j < 26) : ∃ c : Str, gIx [.str "abcdefghijklmnopqrstuvwxyz", .int j] = some (.fz (.str c)) ∧ c.length = 1 := by
  obtain ⟨n, rfl⟩ := Int.eq_ofNat_of_zero_le h0
  have hn : n < 26 := by omega
  have hl : (("abcdefghijklmnopqrstuvwxyz" : Str).cps.toList).length = 26 := by decide +kernel
  have hz : ("abcdefghijklmnopqrstuvwxyz" : Str).length ≤ sizeLine := by decide +kernel
  refine ⟨⟨#[("abcdefghijklmnopqrstuvwxyz" : Str).cps.toList[n]'(by omega)]⟩, ?_, rfl⟩
  simp only [gIx, hz, if_true]
  have e := atI_nn (("abcdefghijklmnopqrstuvwxyz" : Str).cps.toList) n
  rw [List.getElem?_eq_getElem (by omega)] at e
  rw [e]
  rfl
theorem word_b (s0 s4 : Slot) (w : Str) (r : Int) (i : Nat) (hw : w.length ≤ i) (hi : i < 8) : ∃ (w' : Str) (r' : Int), B__law_word_by_1 [s0, .v .fz (.str "abcdefghijklmnopqrstuvwxyz"), .v .fz (.str w), .v .fz (.int r), s4] =
    .next [s0, .v .fz (.str "abcdefghijklmnopqrstuvwxyz"), .v .fz (.str w'), .v .fz (.int r'), s4] ∧ w'.length ≤ i + 1 := by
  have e1 : gMod [.int r, .int 26] = some (.fz (.int (r % 26))) := gMod_ok (by decide)
  have e2 : gDiv [.int r, .int 26] = some (.fz (.int (r / 26))) := gDiv_ok (k := 5) Bd.lit (by decide) (by decide)
  obtain ⟨c, e3, hc⟩ := letter (r % 26) (Int.emod_nonneg _ (by decide)) (Int.emod_lt_of_pos _ (by decide))
  have hs : w.length + c.length ≤ sizeLine := by unfold sizeLine; omega
  exact ⟨w ++ c, r / 26, by simp [B__law_word_by_1, dVar, dC, dPrim, dMake, dTup, dLst, mArgs, AR.bind, AR.thn, ER.bind, ER.thn, FR.bind, TR.bind, TR.thn, TR.thenE, rdVs, rdV, frzV, frzVs, frzD, dTst, dNotT, dAndT, dOrT, dNotV, dAndV, dOrV, dIfE, dSeq, dDrop, dRet, dIf, dSet, putV, putRaw, gNm, gLs, gEach, dAsg, dPar, dCall, callV, takeA, take1, fillR, putB, rdA, rdFl, retS, inS, outS, List.tail, runFn, gAdd, DX.gSub, gNeg, gAbs, gLen, gEq_int, gNe_int, gLt_int, gGt_int, gLe_int, gGe_int, gIsi, tyD, isiD, dPin, forget, List.set_cons_zero, List.set_cons_succ, List.getElem?_cons_zero, List.getElem?_cons_succ, List.length_cons, List.length_nil, List.replicate, List.cons_append, List.nil_append, Nat.reduceAdd, Nat.reduceSub, Option.bind_some, Option.map_some, if_true, Bool.false_eq_true, if_false, e1, e2, e3, hs], by have e : (w ++ c).length = w.length + c.length := Array.size_append; omega⟩
theorem law_word_is (c : Int) : ∃ w : Str, F__law_word_by [.int c] = .ok (.fz (.str w)) [] := by
  have e1 : gMod [.int c, .int 8] = some (.fz (.int (c % 8))) := gMod_ok (by decide)
  have e2 : gDiv [.int c, .int 8] = some (.fz (.int (c / 8))) := gDiv_ok (k := 4) Bd.lit (by decide) (by decide)
  obtain ⟨n, hn, hn8⟩ : ∃ n : Nat, 1 + c % 8 = (n : Nat) ∧ n ≤ 8 := ⟨(1 + c % 8).toNat, by have := Int.emod_nonneg c (b := 8) (by decide); omega, by have := Int.emod_lt_of_pos c (b := 8) (by decide); omega⟩
  obtain ⟨e, r, w, r', s4, rfl, _⟩ := forRng (t := gNm 4) (dead := [4]) (body := B__law_word_by_1)
    (fun i e => ∃ (w : Str) (r : Int) (s4 : DX.Slot), e = [.v .fz (.int c), .v .fz (.str "abcdefghijklmnopqrstuvwxyz"), .v .fz (.str w), .v .fz (.int r), s4] ∧ w.length ≤ i) n
    [.v .fz (.int c), .v .fz (.str "abcdefghijklmnopqrstuvwxyz"), .v .fz (.str ""), .v .fz (.int (c / 8)), .un] ⟨_, _, _, rfl, Nat.le_refl _⟩ (by
      rintro i e hi ⟨w, r, s4, rfl, h1⟩
      obtain ⟨w', r', e, h2⟩ := word_b (.v .fz (.int c)) (.v .fz (.int (i : Nat))) w r i h1 (by omega)
      exact ⟨[.v .fz (.int c), .v .fz (.str "abcdefghijklmnopqrstuvwxyz"), .v .fz (.str w), .v .fz (.int r), .v .fz (.int (i : Nat))], _, rfl, .inl e, _, _, _, rfl, h2⟩)
  refine ⟨w, ?_⟩
  have hn2 : n < 4611686018427387904 := by omega
  simp [F__law_word_by, M__law_word_by, dForR1_eq, dVar, dC, dPrim, dMake, dTup, dLst, mArgs, AR.bind, AR.thn, ER.bind, ER.thn, FR.bind, TR.bind, TR.thn, TR.thenE, rdVs, rdV, frzV, frzVs, frzD, dTst, dNotT, dAndT, dOrT, dNotV, dAndV, dOrV, dIfE, dSeq, dDrop, dRet, dIf, dSet, putV, putRaw, gNm, gLs, gEach, dAsg, dPar, dCall, callV, takeA, take1, fillR, putB, rdA, rdFl, retS, inS, outS, List.tail, runFn, gAdd, DX.gSub, gNeg, gAbs, gLen, gEq_int, gNe_int, gLt_int, gGt_int, gLe_int, gGe_int, gIsi, tyD, isiD, dPin, forget, List.set_cons_zero, List.set_cons_succ, List.getElem?_cons_zero, List.getElem?_cons_succ, List.length_cons, List.length_nil, List.replicate, List.cons_append, List.nil_append, Nat.reduceAdd, Nat.reduceSub, Option.bind_some, Option.map_some, if_true, Bool.false_eq_true, if_false, e1, e2, hn, forR1_nat hn2, r]
/-- a list of texts, no two of them alike -/
theorem anyD_str (x : Str) : ∀ xs : List Str, anyD (.str x) (xs.map D.str) = some (decide (x ∈ xs))
  | [] => rfl
  | y :: ys => by
    rw [List.map_cons]
    unfold anyD
    rw [anyD_str x ys, show deq (.str y) (.str x) = some (y == x) from rfl]
    simp only [Option.some.injEq]
    by_cases h : y = x
    · subst h; simp
    · have : ¬ x = y := fun e => h e.symm
      simp [h, this]
theorem law_names_is (ns : List Int) (at_ many : Nat) (h : at_ + many < 1000) : ∃ xs : List Str, F__law_names [.scr ns, .int (at_ : Nat), .int (many : Nat)] = .ok (.tmp (.lst (xs.map .str))) [] ∧ xs.Nodup ∧ xs.length ≤ many := by
  obtain ⟨e, r, xs, s4, s5, rfl, hn, hl⟩ := forRng (t := gNm 4) (dead := [4, 5]) (body := B__law_names_1)
    (fun i e => ∃ (xs : List Str) (s4 s5 : DX.Slot), e = [.v .rd (.scr ns), .v .fz (.int (at_ : Nat)), .v .fz (.int (many : Nat)), .v .ow (.lst (xs.map .str)), s4, s5] ∧ xs.Nodup ∧ xs.length ≤ i) many
    [.v .rd (.scr ns), .v .fz (.int (at_ : Nat)), .v .fz (.int (many : Nat)), .v .ow (.lst []), .un, .un] ⟨[], _, _, rfl, .nil, Nat.le_refl _⟩ (by
      rintro i e hi ⟨xs, s4, s5, rfl, h1, h2⟩
      obtain ⟨v, hv⟩ := law_number_is ns (at_ + i) (by omega)
      obtain ⟨w, hw⟩ := law_word_is v
      rw [show (((at_ + i : Nat) : Nat) : Int) = (at_ : Int) + (i : Int) by omega] at hv
      have ha := anyD_str w xs
      refine ⟨[.v .rd (.scr ns), .v .fz (.int (at_ : Nat)), .v .fz (.int (many : Nat)), .v .ow (.lst (xs.map .str)), .v .fz (.int (i : Nat)), .un], ?_⟩
      have hs : xs.length < sizeLine := by unfold sizeLine; omega
      by_cases hm : w ∈ xs
      · refine ⟨_, rfl, .inl ?_, xs, .v .fz (.int (i : Nat)), .v .fz (.str w), rfl, h1, by omega⟩
        simp [B__law_names_1, dVar, dC, dPrim, dMake, dTup, dLst, mArgs, AR.bind, AR.thn, ER.bind, ER.thn, FR.bind, TR.bind, TR.thn, TR.thenE, rdVs, rdV, frzV, frzVs, frzD, dTst, dNotT, dAndT, dOrT, dNotV, dAndV, dOrV, dIfE, dSeq, dDrop, dRet, dIf, dSet, putV, putRaw, gNm, gLs, gEach, dAsg, dPar, dCall, callV, takeA, take1, fillR, putB, rdA, rdFl, retS, inS, outS, List.tail, runFn, gAdd, DX.gSub, gNeg, gAbs, gLen, gEq_int, gNe_int, gLt_int, gGt_int, gLe_int, gGe_int, gIsi, tyD, isiD, dPin, forget, List.set_cons_zero, List.set_cons_succ, List.getElem?_cons_zero, List.getElem?_cons_succ, List.length_cons, List.length_nil, List.replicate, List.cons_append, List.nil_append, Nat.reduceAdd, Nat.reduceSub, Option.bind_some, Option.map_some, if_true, Bool.false_eq_true, if_false, hv, hw, gInDN, ha, hm]
      · refine ⟨_, rfl, .inl ?_, xs ++ [w], .v .fz (.int (i : Nat)), .v .fz (.str w), rfl, ?_, by simp; omega⟩
        · simp [B__law_names_1, dVar, dC, dPrim, dMake, dTup, dLst, mArgs, AR.bind, AR.thn, ER.bind, ER.thn, FR.bind, TR.bind, TR.thn, TR.thenE, rdVs, rdV, frzV, frzVs, frzD, dTst, dNotT, dAndT, dOrT, dNotV, dAndV, dOrV, dIfE, dSeq, dDrop, dRet, dIf, dSet, putV, putRaw, gNm, gLs, gEach, dAsg, dPar, dCall, callV, takeA, take1, fillR, putB, rdA, rdFl, retS, inS, outS, List.tail, runFn, gAdd, DX.gSub, gNeg, gAbs, gLen, gEq_int, gNe_int, gLt_int, gGt_int, gLe_int, gGe_int, gIsi, tyD, isiD, dPin, forget, List.set_cons_zero, List.set_cons_succ, List.getElem?_cons_zero, List.getElem?_cons_succ, List.length_cons, List.length_nil, List.replicate, List.cons_append, List.nil_append, Nat.reduceAdd, Nat.reduceSub, Option.bind_some, Option.map_some, if_true, Bool.false_eq_true, if_false, hv, hw, gInDN, ha, hm, dMutL, gAppend, hs]
        · rw [List.nodup_append]
          exact ⟨h1, by simp, fun a ha b hb => by rw [List.mem_singleton.1 hb]; exact fun e => hm (e ▸ ha)⟩)
  refine ⟨xs, ?_, hn, hl⟩
  have hn2 : many < 4611686018427387904 := by omega
  have hz : 0 ≤ sizeLine := Nat.zero_le _
  simp only [forget, List.set_cons_succ, List.set_cons_zero] at r
  simp [F__law_names, M__law_names, dForR1_eq, dVar, dC, dPrim, dMake, dTup, dLst, mArgs, AR.bind, AR.thn, ER.bind, ER.thn, FR.bind, TR.bind, TR.thn, TR.thenE, rdVs, rdV, frzV, frzVs, frzD, dTst, dNotT, dAndT, dOrT, dNotV, dAndV, dOrV, dIfE, dSeq, dDrop, dRet, dIf, dSet, putV, putRaw, gNm, gLs, gEach, dAsg, dPar, dCall, callV, takeA, take1, fillR, putB, rdA, rdFl, retS, inS, outS, List.tail, runFn, gAdd, DX.gSub, gNeg, gAbs, gLen, gEq_int, gNe_int, gLt_int, gGt_int, gLe_int, gGe_int, gIsi, tyD, isiD, dPin, forget, List.set_cons_zero, List.set_cons_succ, List.getElem?_cons_zero, List.getElem?_cons_succ, List.length_cons, List.length_nil, List.replicate, List.cons_append, List.nil_append, Nat.reduceAdd, Nat.reduceSub, Option.bind_some, Option.map_some, if_true, Bool.false_eq_true, if_false, forR1_nat hn2, r, hz]
theorem lt_of_ne {x y : Str} (h : x ≠ y) : (strLt x y = true ∧ strLt y x = false) ∨ (strLt x y = false ∧ strLt y x = true) := by
  by_cases a : strLt x y = true
  · refine .inl ⟨a, ?_⟩
    simp only [strLt, decide_eq_true_eq, decide_eq_false_iff_not] at *
    exact List.lt_asymm a
  · by_cases b : strLt y x = true
    · exact .inr ⟨by simpa using a, b⟩
    · exact absurd (leS_anti x y (by simpa [leS] using b) (by simpa [leS] using a)) h
/-- an exchange in its plain form -/
structure Pl (N : List Str) (x : TRow) : Prop where
  is : ∃ a b c d e, x = [a, b, c, d, e] ∧ strLt b c = true ∧ strLt d e = true
  nd : x.Nodup
  sub : ∀ z ∈ x, z ∈ N
theorem Pl.ne {N : List Str} {x : TRow} (h : Pl N x) : x ≠ [] := by obtain ⟨a, b, c, d, e, rfl, _⟩ := h.is; simp
theorem law_triple_is (a b c : Str) : F__law_triple [.str a, .str b, .str c] = .ok (.fz (row (DX.tri a b c))) [] := by
  have h3 : 3 ≤ sizeLine := by simp [sizeLine]
  simp [F__law_triple, M__law_triple, dVar, dC, dPrim, dMake, dTup, dLst, mArgs, AR.bind, AR.thn, ER.bind, ER.thn, FR.bind, TR.bind, TR.thn, TR.thenE, rdVs, rdV, frzV, frzVs, frzD, dTst, dNotT, dAndT, dOrT, dNotV, dAndV, dOrV, dIfE, dSeq, dDrop, dRet, dIf, dSet, putV, putRaw, gNm, gLs, gEach, dAsg, dPar, dCall, callV, takeA, take1, fillR, putB, rdA, rdFl, retS, inS, outS, List.tail, runFn, gAdd, DX.gSub, gNeg, gAbs, gLen, gEq_int, gNe_int, gLt_int, gGt_int, gLe_int, gGe_int, gIsi, tyD, isiD, dPin, forget, List.set_cons_zero, List.set_cons_succ, List.getElem?_cons_zero, List.getElem?_cons_succ, List.length_cons, List.length_nil, List.replicate, List.cons_append, List.nil_append, Nat.reduceAdd, Nat.reduceSub, Option.bind_some, Option.map_some, if_true, Bool.false_eq_true, if_false, h3, gTri, gTuple, row]
theorem exch_b {N : List Str} (s1 : Slot) (c : Int) (left some : List Str) (k : Int) (s5 s6 s7 s8 s9 : Slot) (h : 0 < left.length) (hl : left.length < 1000) (hs : some.length < 1000) : ∃ (a : Str) (ys : List Str) (c' : Int), left.Perm (a :: ys) ∧
    B__law_exchange_by_1 [.v .fz (.int c), s1, .v .ow (.lst (left.map .str)), .v .ow (.lst (some.map .str)), .v .fz (.int k), s5, s6, s7, s8, s9] = .next [.v .fz (.int c'), s1, .v .ow (.lst (ys.map .str)), .v .ow (.lst ((some ++ [a]).map .str)), .v .fz (.int k), s5, s6, s7, s8, s9] := by
  obtain ⟨a, ys, g, p⟩ := popAt_is D.str (xs := left) (v := c) h (by omega)
  have pl := p.length_eq
  simp only [List.length_cons] at pl
  have e1 : gMod [.int c, .int (left.length : Nat)] = Option.some (.fz (.int (c % (left.length : Nat)))) := gMod_ok (by omega)
  have e2 : gDiv [.int c, .int ((ys.length : Nat) + 1)] = Option.some (.fz (.int (c / ((ys.length : Nat) + 1)))) := gDiv_ok (k := 20) (by unfold Bd; omega) (by omega) (by decide)
  have hz : some.length < sizeLine := small_lt' (by omega)
  refine ⟨a, ys, c / ((ys.length : Nat) + 1), p, ?_⟩
  simp [B__law_exchange_by_1, dMutL, gAppend, gLen, dVar, dC, dPrim, dMake, dTup, dLst, mArgs, AR.bind, AR.thn, ER.bind, ER.thn, FR.bind, TR.bind, TR.thn, TR.thenE, rdVs, rdV, frzV, frzVs, frzD, dTst, dNotT, dAndT, dOrT, dNotV, dAndV, dOrV, dIfE, dSeq, dDrop, dRet, dIf, dSet, putV, putRaw, gNm, gLs, gEach, dAsg, dPar, dCall, callV, takeA, take1, fillR, putB, rdA, rdFl, retS, inS, outS, List.tail, runFn, gAdd, DX.gSub, gNeg, gAbs, gLen, gEq_int, gNe_int, gLt_int, gGt_int, gLe_int, gGe_int, gIsi, tyD, isiD, dPin, forget, List.set_cons_zero, List.set_cons_succ, List.getElem?_cons_zero, List.getElem?_cons_succ, List.length_cons, List.length_nil, List.replicate, List.cons_append, List.nil_append, Nat.reduceAdd, Nat.reduceSub, Option.bind_some, Option.map_some, if_true, Bool.false_eq_true, if_false, e1, e2, g, hz]
theorem exch_is {N : List Str} (nd : N.Nodup) (h5 : 5 ≤ N.length) (hl : N.length ≤ 500) (c : Int) : ∃ x, Pl N x ∧ F__law_exchange_by [.int c, .lst (N.map .str)] = .ok (.fz (row x)) [] := by
  obtain ⟨e, r, c', left, some, s4, rfl, hp, hn⟩ := forRng (t := gNm 4) (dead := [4]) (body := B__law_exchange_by_1)
    (fun i e => ∃ (c' : Int) (left some : List Str) (s4 : DX.Slot), e = [.v .fz (.int c'), .v .rd (.lst (N.map .str)), .v .ow (.lst (left.map .str)), .v .ow (.lst (some.map .str)), s4, .un, .un, .un, .un, .un] ∧ N.Perm (some ++ left) ∧ some.length = i) 5
    [.v .fz (.int c), .v .rd (.lst (N.map .str)), .v .ow (.lst (N.map .str)), .v .ow (.lst []), .un, .un, .un, .un, .un, .un] ⟨c, N, [], _, rfl, by simp, rfl⟩ (by
      rintro i e hi ⟨c', left, some, s4, rfl, hp, hn⟩
      have pl := hp.length_eq
      rw [List.length_append] at pl
      obtain ⟨a, ys, c2, p, q⟩ := exch_b (N := N) (.v .rd (.lst (N.map .str))) c' left some (i : Nat) .un .un .un .un .un (by omega) (by omega) (by omega)
      refine ⟨[.v .fz (.int c'), .v .rd (.lst (N.map .str)), .v .ow (.lst (left.map .str)), .v .ow (.lst (some.map .str)), .v .fz (.int (i : Nat)), .un, .un, .un, .un, .un], _, rfl, .inl q, c2, ys, some ++ [a], _, rfl, ?_, by simp [hn]⟩
      refine hp.trans ((p.append_left some).trans ?_)
      simp)
  match some, hn with
  | [a, b, d, e, f], _ =>
    have nd5 := (List.nodup_append.1 (hp.nodup_iff.1 nd)).1
    have sub : ∀ z ∈ [a, b, d, e, f], z ∈ N := fun z hz => hp.mem_iff.2 (List.mem_append_left _ hz)
    have r5 : forR1 (.fz (.int 5)) (gNm 4) [4] B__law_exchange_by_1 = fun env => forL (gNm 4) [4] B__law_exchange_by_1 (rng 5) env := by funext env; exact forR1_nat (n := 5) (by decide) (gNm 4) [4] B__law_exchange_by_1 env
    have h5' : 5 ≤ sizeLine := by simp [sizeLine]
    have z0 : 0 ≤ sizeLine := Nat.zero_le _
    have zN : N.length ≤ sizeLine := small_le (by omega)
    have bd : b ≠ d := by simp at nd5; exact nd5.2.1.1
    have ef : e ≠ f := by simp at nd5; exact nd5.2.2.2
    refine ⟨[a, if strLt d b then d else b, if strLt b d then d else b, if strLt f e then f else e, if strLt e f then f else e], ?_, ?_⟩
    · rcases lt_of_ne bd with ⟨u1, u2⟩ | ⟨u1, u2⟩ <;> rcases lt_of_ne ef with ⟨v1, v2⟩ | ⟨v1, v2⟩ <;> simp only [u1, u2, v1, v2, if_true, Bool.false_eq_true, if_false] <;>
        refine ⟨⟨_, _, _, _, _, rfl, ?_, ?_⟩, ?_, ?_⟩ <;> first | assumption | (simp at nd5 sub ⊢; grind)
    · simp only [forget, List.set_cons_succ, List.set_cons_zero, List.map_cons, List.map_nil] at r
      simp [F__law_exchange_by, M__law_exchange_by, dForR1_eq, dVar, dC, dPrim, dMake, dTup, dLst, mArgs, AR.bind, AR.thn, ER.bind, ER.thn, FR.bind, TR.bind, TR.thn, TR.thenE, rdVs, rdV, frzV, frzVs, frzD, dTst, dNotT, dAndT, dOrT, dNotV, dAndV, dOrV, dIfE, dSeq, dDrop, dRet, dIf, dSet, putV, putRaw, gNm, gLs, gEach, dAsg, dPar, dCall, callV, takeA, take1, fillR, putB, rdA, rdFl, retS, inS, outS, List.tail, runFn, gAdd, DX.gSub, gNeg, gAbs, gLen, gEq_int, gNe_int, gLt_int, gGt_int, gLe_int, gGe_int, gIsi, tyD, isiD, dPin, forget, List.set_cons_zero, List.set_cons_succ, List.getElem?_cons_zero, List.getElem?_cons_succ, List.length_cons, List.length_nil, List.replicate, List.cons_append, List.nil_append, Nat.reduceAdd, Nat.reduceSub, Option.bind_some, Option.map_some, if_true, Bool.false_eq_true, if_false, r5, r, gList, gMinS, gMaxS, row, h5', z0, zN, rdMode, itL]
def goodParts (N : List Str) (ps : List (Int × TRow)) : Prop := (ps.map (·.2)).Nodup ∧ (∀ p ∈ ps, Pl N p.2) ∧ ps.length ≤ 4 ∧ sortRows (ps.map (·.2)) = ps.map (·.2) ∧ ∀ p ∈ ps, Bd 3 p.1
theorem putK_val {α : Type} {m : List (TRow × α)} {r : TRow} {v : α} : ∀ q ∈ DX.putK m r v, q.2 = v ∨ q ∈ m := fun q hq => by
  unfold DX.putK at hq
  split at hq
  · obtain ⟨p, hp, rfl⟩ := List.mem_map.1 hq
    split
    · exact .inl rfl
    · exact .inr hp
  · rcases List.mem_append.1 hq with y | y
    · exact .inr y
    · rw [List.mem_singleton.1 y]; exact .inl rfl
theorem sortRows_idem (xs : List TRow) : sortRows (sortRows xs) = sortRows xs := List.mergeSort_of_pairwise (List.pairwise_mergeSort (fun a b c => leRow_trans a b c) leRow_total xs)
theorem parts_is {N : List Str} (nd : N.Nodup) (h5 : 5 ≤ N.length) (hl : N.length ≤ 500) (c : Int) : ∃ ps, goodParts N ps ∧ F__law_parts_by [.int c, .lst (N.map .str)] = .ok (.tmp (.lst (ps.map ptD))) [] := by
  have d5 : gDiv [.int c, .int 5] = Option.some (.fz (.int (c / 5))) := gDiv_ok (k := 3) Bd.lit (by decide) (by decide)
  have m5 : gMod [.int c, .int 5] = Option.some (.fz (.int (c % 5))) := gMod_ok (by decide)
  obtain ⟨n, hn, hn4⟩ : ∃ n : Nat, c % 5 = (n : Nat) ∧ n ≤ 4 := ⟨(c % 5).toNat, by have := Int.emod_nonneg c (b := 5) (by decide); omega, by have := Int.emod_lt_of_pos c (b := 5) (by decide); omega⟩
  obtain ⟨e, r, m, rest, s4, s5, rfl, hnd, hP, hlen, hB⟩ := forRng (t := gNm 4) (dead := [4, 5]) (body := B__law_parts_by_1)
    (fun i e => ∃ (m : List (TRow × Int)) (rest : Int) (s4 s5 : DX.Slot), e = [.v .fz (.int c), .v .rd (.lst (N.map .str)), .v .ow (.dT (kvR D.int m)), .v .fz (.int rest), s4, s5, .un] ∧ (m.map (·.1)).Nodup ∧ (∀ x ∈ m.map (·.1), Pl N x) ∧ m.length ≤ i ∧ ∀ q ∈ m, Bd 3 q.2) n
    [.v .fz (.int c), .v .rd (.lst (N.map .str)), .v .ow (.dT []), .v .fz (.int (c / 5)), .un, .un, .un] ⟨[], _, _, _, rfl, by simp, by simp, Nat.le_refl _, by simp⟩ (by
      rintro i e hi ⟨m, rest, s4, s5, rfl, h1, h2, h3, h4⟩
      have m9 : gMod [.int rest, .int 9] = Option.some (.fz (.int (rest % 9))) := gMod_ok (by decide)
      have d9 : gDiv [.int rest, .int 9] = Option.some (.fz (.int (rest / 9))) := gDiv_ok (k := 4) Bd.lit (by decide) (by decide)
      have mM : gMod [.int (rest / 9), .int 1000000] = Option.some (.fz (.int (rest / 9 % 1000000))) := gMod_ok (by decide)
      have dM : gDiv [.int (rest / 9), .int 1000000] = Option.some (.fz (.int (rest / 9 / 1000000))) := gDiv_ok (k := 20) Bd.lit (by decide) (by decide)
      obtain ⟨x, hx, ex⟩ := exch_is nd h5 hl (rest / 9 % 1000000)
      have pu := putD_kvR D.int m x (rest % 9 - 4)
      have sz : (kvR D.int m).length < sizeLine := small_lt' (by unfold kvR; rw [List.length_map]; omega)
      refine ⟨[.v .fz (.int c), .v .rd (.lst (N.map .str)), .v .ow (.dT (kvR D.int m)), .v .fz (.int rest), .v .fz (.int (i : Nat)), .un, .un], ?_⟩
      by_cases h0 : rest % 9 - 4 = 0
      · exact ⟨_, rfl, .inl (by simp [B__law_parts_by_1, dVar, dC, dPrim, dMake, dTup, dLst, mArgs, AR.bind, AR.thn, ER.bind, ER.thn, FR.bind, TR.bind, TR.thn, TR.thenE, rdVs, rdV, frzV, frzVs, frzD, dTst, dNotT, dAndT, dOrT, dNotV, dAndV, dOrV, dIfE, dSeq, dDrop, dRet, dIf, dSet, putV, putRaw, gNm, gLs, gEach, dAsg, dPar, dCall, callV, takeA, take1, fillR, putB, rdA, rdFl, retS, inS, outS, List.tail, runFn, gAdd, DX.gSub, gNeg, gAbs, gLen, gEq_int, gNe_int, gLt_int, gGt_int, gLe_int, gGe_int, gIsi, tyD, isiD, dPin, forget, List.set_cons_zero, List.set_cons_succ, List.getElem?_cons_zero, List.getElem?_cons_succ, List.length_cons, List.length_nil, List.replicate, List.cons_append, List.nil_append, Nat.reduceAdd, Nat.reduceSub, Option.bind_some, Option.map_some, if_true, Bool.false_eq_true, if_false, m9, d9, mM, dM, pow6, h0]; exact ⟨rfl, rfl⟩), m, rest / 9 / 1000000, _, _, rfl, h1, h2, by omega, h4⟩
      · refine ⟨_, rfl, .inl (by simp [B__law_parts_by_1, dVar, dC, dPrim, dMake, dTup, dLst, mArgs, AR.bind, AR.thn, ER.bind, ER.thn, FR.bind, TR.bind, TR.thn, TR.thenE, rdVs, rdV, frzV, frzVs, frzD, dTst, dNotT, dAndT, dOrT, dNotV, dAndV, dOrV, dIfE, dSeq, dDrop, dRet, dIf, dSet, putV, putRaw, gNm, gLs, gEach, dAsg, dPar, dCall, callV, takeA, take1, fillR, putB, rdA, rdFl, retS, inS, outS, List.tail, runFn, gAdd, DX.gSub, gNeg, gAbs, gLen, gEq_int, gNe_int, gLt_int, gGt_int, gLe_int, gGe_int, gIsi, tyD, isiD, dPin, forget, List.set_cons_zero, List.set_cons_succ, List.getElem?_cons_zero, List.getElem?_cons_succ, List.length_cons, List.length_nil, List.replicate, List.cons_append, List.nil_append, Nat.reduceAdd, Nat.reduceSub, Option.bind_some, Option.map_some, if_true, Bool.false_eq_true, if_false, m9, d9, mM, dM, pow6, h0, ex, gPut, putD1, keyT_row, pu, sz]; exact ⟨rfl, rfl⟩), putK m x (rest % 9 - 4), rest / 9 / 1000000, _, _, rfl, ?_, ?_, ?_, fun q hq => (putK_val q hq).elim (fun e => by rw [e]; have := Int.emod_nonneg rest (b := 9) (by decide); have := Int.emod_lt_of_pos rest (b := 9) (by decide); unfold Bd; omega) (h4 q)⟩
        · rw [putK_keys]; exact addR_nodup h1
        · rw [putK_keys]
          intro y hy
          rcases addR_mem.1 hy with q | rfl
          · exact h2 y q
          · exact hx
        · have := congrArg List.length (putK_keys m x (rest % 9 - 4))
          have l := addR_len (ks := m.map (·.1)) (z := x)
          rw [List.length_map] at this l
          omega)
  have hne : ∀ r ∈ m.map (·.1), r ≠ [] := fun r hr => (hP r hr).ne
  have gs := gSortedDT_kvR D.int m hne
  have ln : (sortRows (m.map (·.1))).length ≤ 4 := by rw [sortRows_len, List.length_map]; omega
  have cmp := lcL_map (t := gNm 6) (own := [6]) (me := K__law_parts_by_1) (env := [.v .fz (.int c), .v .rd (.lst (N.map .str)), .v .ow (.dT (kvR D.int m)), .v .fz (.int rest), .un, .un, .un]) row ptD (fun x => ((getK m x).getD 0, x)) (sortRows (m.map (·.1))) (small_le (by omega)) fun x hx => by
    obtain ⟨v, hv, _⟩ := getK_some (sortRows_mem.1 hx)
    have g := gDGet_kvR D.int m x hv
    have h2 : 2 ≤ sizeLine := by simp [sizeLine]
    exact ⟨[.v .fz (.int c), .v .rd (.lst (N.map .str)), .v .ow (.dT (kvR D.int m)), .v .fz (.int rest), .un, .un, .v .fz (row x)], rfl, .fz (.tup [.int v, row x]), [.v .fz (.int c), .v .rd (.lst (N.map .str)), .v .ow (.dT (kvR D.int m)), .v .fz (.int rest), .un, .un, .v .fz (row x)], [.v .fz (.int c), .v .rd (.lst (N.map .str)), .v .ow (.dT (kvR D.int m)), .v .fz (.int rest), .un, .un, .v .fz (row x)], by simp [K__law_parts_by_1, dVar, dC, dPrim, dMake, dTup, dLst, mArgs, AR.bind, AR.thn, ER.bind, ER.thn, FR.bind, TR.bind, TR.thn, TR.thenE, rdVs, rdV, frzV, frzVs, frzD, dTst, dNotT, dAndT, dOrT, dNotV, dAndV, dOrV, dIfE, dSeq, dDrop, dRet, dIf, dSet, putV, putRaw, gNm, gLs, gEach, dAsg, dPar, dCall, callV, takeA, take1, fillR, putB, rdA, rdFl, retS, inS, outS, List.tail, runFn, gAdd, DX.gSub, gNeg, gAbs, gLen, gEq_int, gNe_int, gLt_int, gGt_int, gLe_int, gGe_int, gIsi, tyD, isiD, dPin, forget, List.set_cons_zero, List.set_cons_succ, List.getElem?_cons_zero, List.getElem?_cons_succ, List.length_cons, List.length_nil, List.replicate, List.cons_append, List.nil_append, Nat.reduceAdd, Nat.reduceSub, Option.bind_some, Option.map_some, if_true, Bool.false_eq_true, if_false, g, h2], by rw [hv]; rfl, rfl⟩
  have em : ((sortRows (m.map (·.1))).map fun x => ((getK m x).getD 0, x)).map (·.2) = sortRows (m.map (·.1)) := by
    rw [List.map_map]
    have : ((fun p : Int × TRow => p.2) ∘ fun x => ((getK m x).getD 0, x)) = id := rfl
    rw [this, List.map_id]
  refine ⟨(sortRows (m.map (·.1))).map fun x => ((getK m x).getD 0, x), ⟨?_, ?_, by rw [List.length_map]; exact ln, ?_, ?_⟩, ?_⟩
  · rw [em]; exact (List.mergeSort_perm _ _).nodup_iff.2 hnd
  · intro p hp
    obtain ⟨x, hx, rfl⟩ := List.mem_map.1 hp
    exact hP x (sortRows_mem.1 hx)
  · rw [em, sortRows_idem]
  · intro p hp
    obtain ⟨x, hx, rfl⟩ := List.mem_map.1 hp
    obtain ⟨v, hv, hm⟩ := getK_some (sortRows_mem.1 hx)
    show Bd 3 ((getK m x).getD 0)
    rw [hv]
    exact hB _ hm
  · have rn := fun env => forR1_nat (n := n) (by omega) (gNm 4) [4, 5] B__law_parts_by_1 env
    have z0 : 0 ≤ sizeLine := Nat.zero_le _
    simp only [forget, List.set_cons_succ, List.set_cons_zero] at r cmp
    simp [F__law_parts_by, M__law_parts_by, dForR1_eq, dLc, mIt, itL, rdMode, dNewT, dVar, dC, dPrim, dMake, dTup, dLst, mArgs, AR.bind, AR.thn, ER.bind, ER.thn, FR.bind, TR.bind, TR.thn, TR.thenE, rdVs, rdV, frzV, frzVs, frzD, dTst, dNotT, dAndT, dOrT, dNotV, dAndV, dOrV, dIfE, dSeq, dDrop, dRet, dIf, dSet, putV, putRaw, gNm, gLs, gEach, dAsg, dPar, dCall, callV, takeA, take1, fillR, putB, rdA, rdFl, retS, inS, outS, List.tail, runFn, gAdd, DX.gSub, gNeg, gAbs, gLen, gEq_int, gNe_int, gLt_int, gGt_int, gLe_int, gGe_int, gIsi, tyD, isiD, dPin, forget, List.set_cons_zero, List.set_cons_succ, List.getElem?_cons_zero, List.getElem?_cons_succ, List.length_cons, List.length_nil, List.replicate, List.cons_append, List.nil_append, Nat.reduceAdd, Nat.reduceSub, Option.bind_some, Option.map_some, if_true, Bool.false_eq_true, if_false, d5, m5, hn, rn, r, gs, cmp]
/-- a ground -/
structure GoodStp (N : List Str) (s : Stp) : Prop where
  aim : Pl N s.aim
  claim : ∃ a b c d e, s.aim = [a, b, c, d, e] ∧ s.claim = DX.tri a b c
  parts : goodParts N s.parts
theorem ground_is {N : List Str} (nd : N.Nodup) (h5 : 5 ≤ N.length) (hl : N.length ≤ 500) (ns : List Int) (at_ most : Nat) (h : at_ + most < 900) : ∃ g : List Stp, (∀ s ∈ g, GoodStp N s) ∧ g.length ≤ most ∧ F__law_ground_by [.scr ns, .int (at_ : Nat), .lst (N.map .str), .int (most : Nat)] = .ok (.tmp (.lst (g.map stD))) [] := by
  obtain ⟨v, hv⟩ := law_number_is ns at_ (by omega)
  have mm : gMod [.int v, .int ((most : Nat) + 1)] = Option.some (.fz (.int (v % ((most : Nat) + 1)))) := gMod_ok (by omega)
  obtain ⟨n, hn, hnm⟩ : ∃ n : Nat, v % ((most : Nat) + 1) = (n : Nat) ∧ n ≤ most := ⟨(v % ((most : Nat) + 1)).toNat, by have := Int.emod_nonneg v (b := (most : Nat) + 1) (by omega); omega, by have := Int.emod_lt_of_pos v (b := (most : Nat) + 1) (by omega); omega⟩
  obtain ⟨e, r, g, s5, s6, s7, s8, rfl, hg, hlen⟩ := forRng (t := gNm 5) (dead := [5, 6, 7, 8]) (body := B__law_ground_by_1)
    (fun i e => ∃ (g : List Stp) (s5 s6 s7 s8 : DX.Slot), e = [.v .rd (.scr ns), .v .fz (.int (at_ : Nat)), .v .rd (.lst (N.map .str)), .v .fz (.int (most : Nat)), .v .ow (.lst (g.map stD)), s5, s6, s7, s8] ∧ (∀ s ∈ g, GoodStp N s) ∧ g.length ≤ i) n
    [.v .rd (.scr ns), .v .fz (.int (at_ : Nat)), .v .rd (.lst (N.map .str)), .v .fz (.int (most : Nat)), .v .ow (.lst []), .un, .un, .un, .un] ⟨[], _, _, _, _, rfl, by simp, Nat.le_refl _⟩ (by
      rintro i e hi ⟨g, s5, s6, s7, s8, rfl, h1, h2⟩
      obtain ⟨w, hw⟩ := law_number_is ns (at_ + 1 + i) (by omega)
      rw [show (((at_ + 1 + i : Nat) : Nat) : Int) = (at_ : Int) + 1 + (i : Int) by omega] at hw
      have mM : gMod [.int w, .int 1000000] = Option.some (.fz (.int (w % 1000000))) := gMod_ok (by decide)
      have dM : gDiv [.int w, .int 1000000] = Option.some (.fz (.int (w / 1000000))) := gDiv_ok (k := 20) Bd.lit (by decide) (by decide)
      obtain ⟨x, hx, ex⟩ := exch_is nd h5 hl (w % 1000000)
      obtain ⟨ps, hp, ep⟩ := parts_is nd h5 hl (w / 1000000)
      obtain ⟨a, b, c, d, f, ea, _⟩ := hx.is
      have t := law_triple_is a b c
      have h3 : 3 ≤ sizeLine := by simp [sizeLine]
      have sz : g.length < sizeLine := small_lt' (by omega)
      have i0 : gIx [row x, .int 0] = Option.some (.fz (.str a)) := by rw [ea]; rfl
      have i1 : gIx [row x, .int 1] = Option.some (.fz (.str b)) := by rw [ea]; rfl
      have i2 : gIx [row x, .int 2] = Option.some (.fz (.str c)) := by rw [ea]; rfl
      refine ⟨[.v .rd (.scr ns), .v .fz (.int (at_ : Nat)), .v .rd (.lst (N.map .str)), .v .fz (.int (most : Nat)), .v .ow (.lst (g.map stD)), .v .fz (.int (i : Nat)), .un, .un, .un], _, rfl, .inl (by simp [B__law_ground_by_1, dMutL, gAppend, dVar, dC, dPrim, dMake, dTup, dLst, mArgs, AR.bind, AR.thn, ER.bind, ER.thn, FR.bind, TR.bind, TR.thn, TR.thenE, rdVs, rdV, frzV, frzVs, frzD, dTst, dNotT, dAndT, dOrT, dNotV, dAndV, dOrV, dIfE, dSeq, dDrop, dRet, dIf, dSet, putV, putRaw, gNm, gLs, gEach, dAsg, dPar, dCall, callV, takeA, take1, fillR, putB, rdA, rdFl, retS, inS, outS, List.tail, runFn, gAdd, DX.gSub, gNeg, gAbs, gLen, gEq_int, gNe_int, gLt_int, gGt_int, gLe_int, gGe_int, gIsi, tyD, isiD, dPin, forget, List.set_cons_zero, List.set_cons_succ, List.getElem?_cons_zero, List.getElem?_cons_succ, List.length_cons, List.length_nil, List.replicate, List.cons_append, List.nil_append, Nat.reduceAdd, Nat.reduceSub, Option.bind_some, Option.map_some, if_true, Bool.false_eq_true, if_false, hw, mM, dM, pow6, ex, ep, t, i0, i1, i2, h3, sz]; rfl), g ++ [⟨DX.tri a b c, x, ps⟩], _, _, _, _, by simp [stD]; exact ⟨rfl, rfl, rfl, rfl⟩, ?_, by simp; omega⟩
      intro s hs
      rcases List.mem_append.1 hs with q | q
      · exact h1 s q
      · rw [List.mem_singleton.1 q]; exact ⟨hx, ⟨a, b, c, d, f, ea, rfl⟩, hp⟩)
  refine ⟨g, hg, by omega, ?_⟩
  have rn := fun env => forR1_nat (n := n) (by omega) (gNm 5) [5, 6, 7, 8] B__law_ground_by_1 env
  have z0 : 0 ≤ sizeLine := Nat.zero_le _
  simp only [forget, List.set_cons_succ, List.set_cons_zero] at r
  simp [F__law_ground_by, M__law_ground_by, dForR1_eq, dVar, dC, dPrim, dMake, dTup, dLst, mArgs, AR.bind, AR.thn, ER.bind, ER.thn, FR.bind, TR.bind, TR.thn, TR.thenE, rdVs, rdV, frzV, frzVs, frzD, dTst, dNotT, dAndT, dOrT, dNotV, dAndV, dOrV, dIfE, dSeq, dDrop, dRet, dIf, dSet, putV, putRaw, gNm, gLs, gEach, dAsg, dPar, dCall, callV, takeA, take1, fillR, putB, rdA, rdFl, retS, inS, outS, List.tail, runFn, gAdd, DX.gSub, gNeg, gAbs, gLen, gEq_int, gNe_int, gLt_int, gGt_int, gLe_int, gGe_int, gIsi, tyD, isiD, dPin, forget, List.set_cons_zero, List.set_cons_succ, List.getElem?_cons_zero, List.getElem?_cons_succ, List.length_cons, List.length_nil, List.replicate, List.cons_append, List.nil_append, Nat.reduceAdd, Nat.reduceSub, Option.bind_some, Option.map_some, if_true, Bool.false_eq_true, if_false, hv, mm, hn, rn, r, z0]
def prD (p : TRow × Int) : D := .tup [row p.1, .int p.2]
theorem pyN_row (n : Nat) (r : TRow) : pyN (n + 2) (row r) = .tuple (r.map .str) := by
  unfold row pyN
  rw [List.map_map]
  refine congrArg PyData.tuple (List.map_congr_left fun z _ => ?_)
  show pyN (n + 1) (.str z) = _
  rfl
theorem pyD_pr (p : TRow × Int) : pyD (prD p) = .tuple [.tuple (p.1.map .str), .int p.2] := by
  show PyData.tuple ([row p.1, .int p.2].map (pyN 3)) = _
  rw [List.map_cons, List.map_cons, pyN_row 1]
  rfl
theorem eqv_strs : ∀ xs ys : List Str, PyData.eqvAll (xs.map .str) (ys.map .str) = decide (xs = ys)
  | [], [] => by simp [PyData.eqvAll]
  | [], _ :: _ => by simp [PyData.eqvAll]
  | _ :: _, [] => by simp [PyData.eqvAll]
  | x :: xs, y :: ys => by
    simp only [List.map_cons, PyData.eqvAll, PyData.eqv, eqv_strs xs ys, List.cons.injEq, Bool.decide_and]
    by_cases h : x = y <;> simp [h]
theorem lt_pr (p q : TRow × Int) : PySem.W.dataLt (pyD (prD p)) (pyD (prD q)) = if p.1 = q.1 then (if p.2 = q.2 then false else PySem.W.dataLt (.int p.2) (.int q.2)) else PySem.W.dataLt (pyD (row p.1)) (pyD (row q.1)) := by
  have a1 : PySem.W.alike (.tuple (p.1.map .str)) (.tuple (q.1.map .str)) = true := by
    have := alike_strs p.1 q.1
    simpa [PySem.W.alike] using this
  rw [pyD_pr, pyD_pr, PySem.W.dataLt_pair a1 (by simp [PySem.W.alike]), pyD_row, pyD_row]
  have e1 : PyData.eqv (.tuple (p.1.map .str)) (.tuple (q.1.map .str)) = decide (p.1 = q.1) := by
    show PyData.eqvAll _ _ = _
    exact eqv_strs _ _
  have e2 : PyData.eqv (.int p.2) (.int q.2) = decide (p.2 = q.2) := by
    by_cases h : p.2 = q.2 <;> simp [PyData.eqv, h]
  rw [e1, e2]
  simp only [decide_eq_true_eq]
theorem le_pr {ps : List (TRow × Int)} (nd : (ps.map (·.1)).Nodup) : ∀ a ∈ ps, ∀ b ∈ ps, leRow a.1 b.1 = leD (prD a) (prD b) := fun a ha b hb => by
  show leD (row a.1) (row b.1) = _
  show (!PySem.W.dataLt (pyD (row b.1)) (pyD (row a.1))) = !PySem.W.dataLt (pyD (prD b)) (pyD (prD a))
  rw [lt_pr]
  by_cases h : b.1 = a.1
  · have hb' := getK_nodup nd (show (b.1, b.2) ∈ ps from hb)
    have ha' := getK_nodup nd (show (a.1, a.2) ∈ ps from ha)
    rw [h, ha'] at hb'
    have e2 : b.2 = a.2 := by simpa using hb'.symm
    rw [if_pos h, if_pos e2, h]
    have := leRow_total a.1 a.1
    have l : leRow a.1 a.1 = true := by simpa using this
    exact l
  · rw [if_neg h]
def srtP (ps : List (TRow × Int)) : List (TRow × Int) := ps.mergeSort fun a b => leRow a.1 b.1
theorem srtP_keys (ps : List (TRow × Int)) : (srtP ps).map (·.1) = sortRows (ps.map (·.1)) := List.map_mergeSort (f := fun p : TRow × Int => p.1) fun a _ b _ => rfl
theorem srtP_perm (ps : List (TRow × Int)) : (srtP ps).Perm ps := List.mergeSort_perm _ _
theorem sort_pairs {ps : List (TRow × Int)} (nd : (ps.map (·.1)).Nodup) (hl : ps.length ≤ 1000) : gSortedT [.lst (ps.map prD)] = some (.tmp (.lst ((srtP ps).map prD))) := by
  have e : (ps.mergeSort fun a b => leRow a.1 b.1).map prD = (ps.map prD).mergeSort leD := List.map_mergeSort (f := prD) (le_pr nd)
  have ok : sortOk (ps.map prD) = true := by
    simp only [sortOk, Bool.and_eq_true, Bool.or_eq_true, List.all_eq_true]
    refine ⟨⟨fun d hd => ?_, fun d hd d' hd' => ?_⟩, .inl fun d hd => ?_⟩
    · obtain ⟨p, _, rfl⟩ := List.mem_map.1 hd
      show ([row p.1, .int p.2].all (okN 3)) = true
      have : okN 3 (row p.1) = true := by
        show ((p.1.map D.str).all (okN 2)) = true
        rw [List.all_eq_true]
        intro x hx
        obtain ⟨z, _, rfl⟩ := List.mem_map.1 hx
        rfl
      simp [this, okN]
    · obtain ⟨p, _, rfl⟩ := List.mem_map.1 hd
      obtain ⟨q, _, rfl⟩ := List.mem_map.1 hd'
      rw [pyD_pr, pyD_pr]
      have := alike_strs p.1 q.1
      simpa [PySem.W.alike, PySem.W.alikeAll] using this
    · obtain ⟨p, _, rfl⟩ := List.mem_map.1 hd
      rfl
  show (if sortOk (ps.map prD) = true ∧ (ps.map prD).length ≤ sizeLine then some (Val.tmp (.lst ((ps.map prD).mergeSort leD))) else none) = _
  rw [if_pos ⟨ok, small_le (by rw [List.length_map]; omega)⟩, ← e]
  rfl
def sgn (b c : Str) : Int := if strLt c b = true then -1 else 1
def loS (b c : Str) : Str := if strLt c b = true then c else b
def hiS (b c : Str) : Str := if strLt c b = true then b else c
def plX : TRow → TRow
  | [a, b, c, d, e] => [a, loS b c, hiS b c, loS d e, hiS d e]
  | x => x
def sgX : TRow → Int
  | [_, b, c, d, e] => sgn b c * sgn d e
  | _ => 1
theorem plain_is (a b c d e : Str) : F_plain [row [a, b, c, d, e]] = .ok (.fz (.tup [.int (sgX [a, b, c, d, e]), row (plX [a, b, c, d, e])])) [] := by
  have h5 : 5 ≤ sizeLine := by simp [sizeLine]
  have h2 : 2 ≤ sizeLine := by simp [sizeLine]
  have e1 : ∀ x y : Str, gLt [.str x, .str y] = some (.fz (.bl (strLt x y))) := fun _ _ => rfl
  unfold sgX plX sgn loS hiS row
  generalize hp : strLt c b = p
  generalize hq : strLt e d = q
  cases p <;> cases q <;> simp [F_plain, M_plain, gTp, dVar, dC, dPrim, dMake, dTup, dLst, mArgs, AR.bind, AR.thn, ER.bind, ER.thn, FR.bind, TR.bind, TR.thn, TR.thenE, rdVs, rdV, frzV, frzVs, frzD, dTst, dNotT, dAndT, dOrT, dNotV, dAndV, dOrV, dIfE, dSeq, dDrop, dRet, dIf, dSet, putV, putRaw, gNm, gLs, gEach, dAsg, dPar, dCall, callV, takeA, take1, fillR, putB, rdA, rdFl, retS, inS, outS, List.tail, runFn, gAdd, DX.gSub, gNeg, gAbs, gLen, gEq_int, gNe_int, gLt_int, gGt_int, gLe_int, gGe_int, gIsi, tyD, isiD, dPin, forget, List.set_cons_zero, List.set_cons_succ, List.getElem?_cons_zero, List.getElem?_cons_succ, List.length_cons, List.length_nil, List.replicate, List.cons_append, List.nil_append, Nat.reduceAdd, Nat.reduceSub, Option.bind_some, Option.map_some, if_true, Bool.false_eq_true, if_false, e1, hp, hq, h5, h2]
/-- a dict by which names are renamed -/
structure Ren (kvs : List (Key × D)) (N : List Str) (ρ : Str → Str) : Prop where
  get : ∀ z ∈ N, gDGet [.dK kvs, .str z] = some (.fz (.str (ρ z)))
  inj : ∀ y ∈ N, ∀ z ∈ N, ρ y = ρ z → y = z
theorem renamed_exchange_is {kvs : List (Key × D)} {N : List Str} {ρ : Str → Str} (R : Ren kvs N ρ) {x : TRow} (h : Pl N x) : F_renamed_exchange [row x, .dK kvs] = .ok (.fz (.tup [.int (sgX (x.map ρ)), row (plX (x.map ρ))])) [] := by
  have c1 := lcL_map (t := gNm 2) (own := [2]) (me := K_renamed_exchange_1) (env := [.v .fz (row x), .v .rd (.dK kvs), .un]) D.str D.str ρ x (by obtain ⟨a, b, c, d, e, rfl, _⟩ := h.is; simp [sizeLine]) fun z hz =>
    ⟨[.v .fz (row x), .v .rd (.dK kvs), .v .fz (.str z)], rfl, .fz (.str (ρ z)), [.v .fz (row x), .v .rd (.dK kvs), .v .fz (.str z)], [.v .fz (row x), .v .rd (.dK kvs), .v .fz (.str z)], by simp only [K_renamed_exchange_1, dVar, dC, dPrim, dMake, dTup, dLst, mArgs, AR.bind, AR.thn, ER.bind, ER.thn, FR.bind, TR.bind, TR.thn, TR.thenE, rdVs, rdV, frzV, frzVs, frzD, dTst, dNotT, dAndT, dOrT, dNotV, dAndV, dOrV, dIfE, dSeq, dDrop, dRet, dIf, dSet, putV, putRaw, gNm, gLs, gEach, dAsg, dPar, dCall, callV, takeA, take1, fillR, putB, rdA, rdFl, retS, inS, outS, List.tail, runFn, gAdd, DX.gSub, gNeg, gAbs, gLen, gEq_int, gNe_int, gLt_int, gGt_int, gLe_int, gGe_int, gIsi, tyD, isiD, dPin, forget, List.set_cons_zero, List.set_cons_succ, List.getElem?_cons_zero, List.getElem?_cons_succ, List.length_cons, List.length_nil, List.replicate, List.cons_append, List.nil_append, Nat.reduceAdd, Nat.reduceSub, Option.bind_some, Option.map_some, if_true, Bool.false_eq_true, if_false, R.get z (h.sub z hz)], rfl, rfl⟩
  have ir := itT_row
  obtain ⟨a, b, c, d, e, rfl, _⟩ := h.is
  have p := plain_is (ρ a) (ρ b) (ρ c) (ρ d) (ρ e)
  have gt : gTuple [.lst ([ρ a, ρ b, ρ c, ρ d, ρ e].map D.str)] = some (.fz (row [ρ a, ρ b, ρ c, ρ d, ρ e])) := rfl
  have em : [a, b, c, d, e].map ρ = [ρ a, ρ b, ρ c, ρ d, ρ e] := rfl
  rw [em] at c1 ⊢
  simp only [F_renamed_exchange, M_renamed_exchange, dLc, mIt, dVar, dC, dPrim, dMake, dTup, dLst, mArgs, AR.bind, AR.thn, ER.bind, ER.thn, FR.bind, TR.bind, TR.thn, TR.thenE, rdVs, rdV, frzV, frzVs, frzD, dTst, dNotT, dAndT, dOrT, dNotV, dAndV, dOrV, dIfE, dSeq, dDrop, dRet, dIf, dSet, putV, putRaw, gNm, gLs, gEach, dAsg, dPar, dCall, callV, takeA, take1, fillR, putB, rdA, rdFl, retS, inS, outS, List.tail, runFn, gAdd, DX.gSub, gNeg, gAbs, gLen, gEq_int, gNe_int, gLt_int, gGt_int, gLe_int, gGe_int, gIsi, tyD, isiD, dPin, forget, List.set_cons_zero, List.set_cons_succ, List.getElem?_cons_zero, List.getElem?_cons_succ, List.length_cons, List.length_nil, List.replicate, List.cons_append, List.nil_append, Nat.reduceAdd, Nat.reduceSub, Option.bind_some, Option.map_some, if_true, Bool.false_eq_true, if_false, ir, c1, gt, p]
theorem law_plain_of_is {kvs : List (Key × D)} {N : List Str} {ρ : Str → Str} (R : Ren kvs N ρ) {x : TRow} (h : Pl N x) : F__law_plain_of [row x, .dK kvs] = .ok (.fz (.tup [.int (sgX (x.map ρ)), row (plX (x.map ρ))])) [] := by
  have c1 := lcL_map (t := gNm 8) (own := [8]) (me := K__law_plain_of_1) (env := [.v .fz (row x), .v .rd (.dK kvs), .un, .un, .un, .un, .un, .un, .un]) D.str D.str ρ x (by obtain ⟨a, b, c, d, e, rfl, _⟩ := h.is; simp [sizeLine]) fun z hz =>
    ⟨[.v .fz (row x), .v .rd (.dK kvs), .un, .un, .un, .un, .un, .un, .v .fz (.str z)], rfl, .fz (.str (ρ z)), [.v .fz (row x), .v .rd (.dK kvs), .un, .un, .un, .un, .un, .un, .v .fz (.str z)], [.v .fz (row x), .v .rd (.dK kvs), .un, .un, .un, .un, .un, .un, .v .fz (.str z)], by simp only [K__law_plain_of_1, dVar, dC, dPrim, dMake, dTup, dLst, mArgs, AR.bind, AR.thn, ER.bind, ER.thn, FR.bind, TR.bind, TR.thn, TR.thenE, rdVs, rdV, frzV, frzVs, frzD, dTst, dNotT, dAndT, dOrT, dNotV, dAndV, dOrV, dIfE, dSeq, dDrop, dRet, dIf, dSet, putV, putRaw, gNm, gLs, gEach, dAsg, dPar, dCall, callV, takeA, take1, fillR, putB, rdA, rdFl, retS, inS, outS, List.tail, runFn, gAdd, DX.gSub, gNeg, gAbs, gLen, gEq_int, gNe_int, gLt_int, gGt_int, gLe_int, gGe_int, gIsi, tyD, isiD, dPin, forget, List.set_cons_zero, List.set_cons_succ, List.getElem?_cons_zero, List.getElem?_cons_succ, List.length_cons, List.length_nil, List.replicate, List.cons_append, List.nil_append, Nat.reduceAdd, Nat.reduceSub, Option.bind_some, Option.map_some, if_true, Bool.false_eq_true, if_false, R.get z (h.sub z hz)], rfl, rfl⟩
  have ir := itT_row
  have nd := h.nd
  have sub := h.sub
  obtain ⟨a, b, c, d, e, rfl, _⟩ := h.is
  have bc : ρ b ≠ ρ c := fun q => by
    have := R.inj b (sub b (by simp)) c (sub c (by simp)) q
    subst this; simp at nd
  have de : ρ d ≠ ρ e := fun q => by
    have := R.inj d (sub d (by simp)) e (sub e (by simp)) q
    subst this; simp at nd
  have em : [a, b, c, d, e].map ρ = [ρ a, ρ b, ρ c, ρ d, ρ e] := rfl
  rw [em] at c1 ⊢
  generalize ρ a = a' at *
  generalize ρ b = b' at *
  generalize ρ c = c' at *
  generalize ρ d = d' at *
  generalize ρ e = e' at *
  have h5 : 5 ≤ sizeLine := by simp [sizeLine]
  have h2 : 2 ≤ sizeLine := by simp [sizeLine]
  have e1 : ∀ x y : Str, gLt [.str x, .str y] = some (.fz (.bl (strLt x y))) := fun _ _ => rfl
  simp only [row, List.map_cons, List.map_nil] at c1
  have fr : ∀ env, itT env (.fz (.tup [.str a, .str b, .str c, .str d, .str e])) = some ([.str a, .str b, .str c, .str d, .str e], env) := fun _ => rfl
  unfold sgX plX sgn loS hiS row
  rcases lt_of_ne bc with ⟨u1, u2⟩ | ⟨u1, u2⟩ <;> rcases lt_of_ne de with ⟨v1, v2⟩ | ⟨v1, v2⟩ <;>
    simp [F__law_plain_of, M__law_plain_of, dLc, mIt, fr, c1, dVar, dC, dPrim, dMake, dTup, dLst, mArgs, AR.bind, AR.thn, ER.bind, ER.thn, FR.bind, TR.bind, TR.thn, TR.thenE, rdVs, rdV, frzV, frzVs, frzD, dTst, dNotT, dAndT, dOrT, dNotV, dAndV, dOrV, dIfE, dSeq, dDrop, dRet, dIf, dSet, putV, putRaw, gNm, gLs, gEach, dAsg, dPar, dCall, callV, takeA, take1, fillR, putB, rdA, rdFl, retS, inS, outS, List.tail, runFn, gAdd, DX.gSub, gNeg, gAbs, gLen, gEq_int, gNe_int, gLt_int, gGt_int, gLe_int, gGe_int, gIsi, tyD, isiD, dPin, forget, List.set_cons_zero, List.set_cons_succ, List.getElem?_cons_zero, List.getElem?_cons_succ, List.length_cons, List.length_nil, List.replicate, List.cons_append, List.nil_append, Nat.reduceAdd, Nat.reduceSub, Option.bind_some, Option.map_some, if_true, Bool.false_eq_true, if_false, e1, u1, u2, v1, v2, gMinS, gMaxS, h5, h2]
theorem copied_is (g : List Stp) (hl : g.length ≤ 1000) (hp : ∀ s ∈ g, s.parts.length ≤ 1000) : F__law_copied [.lst (g.map stD)] = .ok (.tmp (.lst (g.map stD))) [] := by
  have cmp := lcL_map (t := gTpR [1, 2, 3] (gTp [gNm 1, gNm 2, gNm 3])) (own := [1, 2, 3]) (me := K__law_copied_1) (env := [.v .rd (.lst (g.map stD)), .un, .un, .un]) stD stD id g (small_le (by omega)) fun s hs => by
    have h3 : 3 ≤ sizeLine := by simp [sizeLine]
    have sz : s.parts.length ≤ sizeLine := small_le (by have := hp s hs; omega)
    exact ⟨[.v .rd (.lst (g.map stD)), .v .fz (row s.claim), .v .fz (row s.aim), .v .fz (.lst (s.parts.map ptD))], rfl, .fz (stD s), [.v .rd (.lst (g.map stD)), .v .fz (row s.claim), .v .fz (row s.aim), .v .fz (.lst (s.parts.map ptD))], [.v .rd (.lst (g.map stD)), .v .fz (row s.claim), .v .fz (row s.aim), .v .fz (.lst (s.parts.map ptD))], by simp [K__law_copied_1, dVar, dC, dPrim, dMake, dTup, dLst, mArgs, AR.bind, AR.thn, ER.bind, ER.thn, FR.bind, TR.bind, TR.thn, TR.thenE, rdVs, rdV, frzV, frzVs, frzD, dTst, dNotT, dAndT, dOrT, dNotV, dAndV, dOrV, dIfE, dSeq, dDrop, dRet, dIf, dSet, putV, putRaw, gNm, gLs, gEach, dAsg, dPar, dCall, callV, takeA, take1, fillR, putB, rdA, rdFl, retS, inS, outS, List.tail, runFn, gAdd, DX.gSub, gNeg, gAbs, gLen, gEq_int, gNe_int, gLt_int, gGt_int, gLe_int, gGe_int, gIsi, tyD, isiD, dPin, forget, List.set_cons_zero, List.set_cons_succ, List.getElem?_cons_zero, List.getElem?_cons_succ, List.length_cons, List.length_nil, List.replicate, List.cons_append, List.nil_append, Nat.reduceAdd, Nat.reduceSub, Option.bind_some, Option.map_some, if_true, Bool.false_eq_true, if_false, gList, h3, sz, stD, row], rfl, rfl⟩
  simp only [List.map_id] at cmp
  simp [F__law_copied, M__law_copied, dLcR, dVar, dC, dPrim, dMake, dTup, dLst, mArgs, AR.bind, AR.thn, ER.bind, ER.thn, FR.bind, TR.bind, TR.thn, TR.thenE, rdVs, rdV, frzV, frzVs, frzD, dTst, dNotT, dAndT, dOrT, dNotV, dAndV, dOrV, dIfE, dSeq, dDrop, dRet, dIf, dSet, putV, putRaw, gNm, gLs, gEach, dAsg, dPar, dCall, callV, takeA, take1, fillR, putB, rdA, rdFl, retS, inS, outS, List.tail, runFn, gAdd, DX.gSub, gNeg, gAbs, gLen, gEq_int, gNe_int, gLt_int, gGt_int, gLe_int, gGe_int, gIsi, tyD, isiD, dPin, forget, List.set_cons_zero, List.set_cons_succ, List.getElem?_cons_zero, List.getElem?_cons_succ, List.length_cons, List.length_nil, List.replicate, List.cons_append, List.nil_append, Nat.reduceAdd, Nat.reduceSub, Option.bind_some, Option.map_some, if_true, Bool.false_eq_true, if_false, cmp]
theorem copied_own (g : List Stp) (hl : g.length ≤ 1000) (hp : ∀ s ∈ g, s.parts.length ≤ 1000) : F__law_copied [.dl (g.map stO)] = .ok (.tmp (.lst (g.map stD))) [] := by
  have cmp := lcL_map (t := gTpR [1, 2, 3] (gTp [gNm 1, gNm 2, gNm 3])) (own := [1, 2, 3]) (me := K__law_copied_1) (env := [.v .rd (.dl (g.map stO)), .un, .un, .un]) stO stD id g (small_le (by omega)) fun s hs => by
    have h3 : 3 ≤ sizeLine := by simp [sizeLine]
    have sz : s.parts.length ≤ sizeLine := small_le (by have := hp s hs; omega)
    exact ⟨[.v .rd (.dl (g.map stO)), .v .fz (row s.claim), .v .fz (row s.aim), .v .rd (.lst (s.parts.map ptD))], rfl, .fz (stD s), [.v .rd (.dl (g.map stO)), .v .fz (row s.claim), .v .fz (row s.aim), .v .rd (.lst (s.parts.map ptD))], [.v .rd (.dl (g.map stO)), .v .fz (row s.claim), .v .fz (row s.aim), .v .rd (.lst (s.parts.map ptD))], by simp [K__law_copied_1, dVar, dC, dPrim, dMake, dTup, dLst, mArgs, AR.bind, AR.thn, ER.bind, ER.thn, FR.bind, TR.bind, TR.thn, TR.thenE, rdVs, rdV, frzV, frzVs, frzD, dTst, dNotT, dAndT, dOrT, dNotV, dAndV, dOrV, dIfE, dSeq, dDrop, dRet, dIf, dSet, putV, putRaw, gNm, gLs, gEach, dAsg, dPar, dCall, callV, takeA, take1, fillR, putB, rdA, rdFl, retS, inS, outS, List.tail, runFn, gAdd, DX.gSub, gNeg, gAbs, gLen, gEq_int, gNe_int, gLt_int, gGt_int, gLe_int, gGe_int, gIsi, tyD, isiD, dPin, forget, List.set_cons_zero, List.set_cons_succ, List.getElem?_cons_zero, List.getElem?_cons_succ, List.length_cons, List.length_nil, List.replicate, List.cons_append, List.nil_append, Nat.reduceAdd, Nat.reduceSub, Option.bind_some, Option.map_some, if_true, Bool.false_eq_true, if_false, gList, h3, sz, stD, row], rfl, rfl⟩
  simp only [List.map_id] at cmp
  simp [F__law_copied, M__law_copied, dLcR, dVar, dC, dPrim, dMake, dTup, dLst, mArgs, AR.bind, AR.thn, ER.bind, ER.thn, FR.bind, TR.bind, TR.thn, TR.thenE, rdVs, rdV, frzV, frzVs, frzD, dTst, dNotT, dAndT, dOrT, dNotV, dAndV, dOrV, dIfE, dSeq, dDrop, dRet, dIf, dSet, putV, putRaw, gNm, gLs, gEach, dAsg, dPar, dCall, callV, takeA, take1, fillR, putB, rdA, rdFl, retS, inS, outS, List.tail, runFn, gAdd, DX.gSub, gNeg, gAbs, gLen, gEq_int, gNe_int, gLt_int, gGt_int, gLe_int, gGe_int, gIsi, tyD, isiD, dPin, forget, List.set_cons_zero, List.set_cons_succ, List.getElem?_cons_zero, List.getElem?_cons_succ, List.length_cons, List.length_nil, List.replicate, List.cons_append, List.nil_append, Nat.reduceAdd, Nat.reduceSub, Option.bind_some, Option.map_some, if_true, Bool.false_eq_true, if_false, cmp]
def trC (ρ : Str → Str) : TRow → TRow
  | [x, y, z] => DX.tri (ρ x) (ρ y) (ρ z)
  | _ => []
def qsS (ρ : Str → Str) (s : Stp) : List (TRow × Int) := s.parts.map fun p => (plX (p.2.map ρ), p.1 * sgX (p.2.map ρ) * sgX (s.aim.map ρ))
def renS (ρ : Str → Str) (s : Stp) : Stp := ⟨trC ρ s.claim, plX (s.aim.map ρ), (srtP (qsS ρ s)).map fun q => (q.2, q.1)⟩
structure GoodR (N : List Str) (s : Stp) : Prop where
  aim : Pl N s.aim
  claim : ∃ x y z, s.claim = [x, y, z] ∧ x ∈ N ∧ y ∈ N ∧ z ∈ N
  ex : ∀ p ∈ s.parts, Pl N p.2
  nd : (s.parts.map (·.2)).Nodup
  len : s.parts.length ≤ 4
  bd : ∀ p ∈ s.parts, Bd 3 p.1
theorem lt_asym {b c : Str} (h : strLt b c = true) : strLt c b = false := by
  simp only [strLt, decide_eq_true_eq, decide_eq_false_iff_not] at *
  exact List.lt_asymm h
theorem sgX_pm (x : TRow) : sgX x = 1 ∨ sgX x = -1 := by
  unfold sgX
  split
  · unfold sgn
    split <;> split <;> simp
  · exact .inl rfl
theorem back_pair {ρ τ : Str → Str} {b c : Str} (hb : τ (ρ b) = b) (hc : τ (ρ c) = c) (h : strLt b c = true) : loS (τ (loS (ρ b) (ρ c))) (τ (hiS (ρ b) (ρ c))) = b ∧ hiS (τ (loS (ρ b) (ρ c))) (τ (hiS (ρ b) (ρ c))) = c ∧ sgn (τ (loS (ρ b) (ρ c))) (τ (hiS (ρ b) (ρ c))) = sgn (ρ b) (ρ c) := by
  have h' := lt_asym h
  unfold loS hiS sgn
  by_cases q : strLt (ρ c) (ρ b) = true
  · simp only [q, if_true, hb, hc, h]; exact ⟨trivial, trivial, trivial⟩
  · simp only [q, if_false, hb, hc, h', Bool.false_eq_true]; exact ⟨trivial, trivial, trivial⟩
theorem back_is {N : List Str} {ρ τ : Str → Str} (inv : ∀ z ∈ N, τ (ρ z) = z) {x : TRow} (h : Pl N x) : plX ((plX (x.map ρ)).map τ) = x ∧ sgX ((plX (x.map ρ)).map τ) = sgX (x.map ρ) := by
  have sub := h.sub
  obtain ⟨a, b, c, d, e, rfl, h1, h2⟩ := h.is
  obtain ⟨p1, p2, p3⟩ := back_pair (inv b (sub b (by simp))) (inv c (sub c (by simp))) h1
  obtain ⟨q1, q2, q3⟩ := back_pair (inv d (sub d (by simp))) (inv e (sub e (by simp))) h2
  have ha := inv a (sub a (by simp))
  simp only [List.map_cons, List.map_nil, plX, sgX]
  rw [ha, p1, p2, p3, q1, q2, q3]
  exact ⟨rfl, rfl⟩
theorem fwd_is {N N' : List Str} {ρ : Str → Str} (inj : ∀ y ∈ N, ∀ z ∈ N, ρ y = ρ z → y = z) (to : ∀ z ∈ N, ρ z ∈ N') {x : TRow} (h : Pl N x) : Pl N' (plX (x.map ρ)) := by
  have sub := h.sub
  have nd := h.nd
  have ndr : (x.map ρ).Nodup := by
    refine List.Pairwise.map _ (fun _ _ h => h) ?_
    exact List.Pairwise.imp_of_mem (fun hy hz ne e => ne (inj _ (sub _ hy) _ (sub _ hz) e)) nd
  have subr : ∀ z ∈ x.map ρ, z ∈ N' := fun z hz => by
    obtain ⟨y, hy, rfl⟩ := List.mem_map.1 hz
    exact to y (sub y hy)
  obtain ⟨a, b, c, d, e, rfl, h1, h2⟩ := h.is
  simp only [List.map_cons, List.map_nil] at ndr subr ⊢
  generalize ρ a = a' at *
  generalize ρ b = b' at *
  generalize ρ c = c' at *
  generalize ρ d = d' at *
  generalize ρ e = e' at *
  have bc : b' ≠ c' := by simp at ndr; exact ndr.2.1.1
  have de : d' ≠ e' := by simp at ndr; exact ndr.2.2.2
  unfold plX loS hiS
  rcases lt_of_ne bc with ⟨u1, u2⟩ | ⟨u1, u2⟩ <;> rcases lt_of_ne de with ⟨v1, v2⟩ | ⟨v1, v2⟩ <;> simp only [u1, u2, v1, v2, if_true, Bool.false_eq_true, if_false] <;>
    refine ⟨⟨_, _, _, _, _, rfl, ?_, ?_⟩, ?_, ?_⟩ <;> first | assumption | (simp at ndr subr ⊢; grind)
theorem qs_nd {N : List Str} {ρ τ : Str → Str} (inv : ∀ z ∈ N, τ (ρ z) = z) {s : Stp} (h : GoodR N s) : ((qsS ρ s).map (·.1)).Nodup := by
  have e : (qsS ρ s).map (·.1) = (s.parts.map (·.2)).map fun x => plX (x.map ρ) := by
    unfold qsS
    rw [List.map_map, List.map_map]
    rfl
  rw [e]
  refine List.Pairwise.map _ (fun _ _ h => h) ?_
  refine List.Pairwise.imp_of_mem (fun {x y} hx hy ne e => ne ?_) h.nd
  obtain ⟨p, hp, rfl⟩ := List.mem_map.1 hx
  obtain ⟨q, hq, rfl⟩ := List.mem_map.1 hy
  rw [← (back_is inv (h.ex p hp)).1, e, (back_is inv (h.ex q hq)).1]
theorem same_keys {l1 l2 : List (TRow × Int)} (p : l1.Perm l2) (e : l1.map (·.1) = l2.map (·.1)) (nd : (l2.map (·.1)).Nodup) : l1 = l2 := by
  apply List.ext_getElem?
  intro i
  have len := p.length_eq
  by_cases h : i < l1.length
  · have h2 : i < l2.length := by omega
    rw [List.getElem?_eq_getElem h, List.getElem?_eq_getElem h2]
    have k : l1[i].1 = l2[i].1 := by
      have := congrArg (·[i]?) e
      simp only [List.getElem?_map, List.getElem?_eq_getElem h, List.getElem?_eq_getElem h2, Option.map_some, Option.some.injEq] at this
      exact this
    have m1 : (l1[i].1, l1[i].2) ∈ l2 := p.mem_iff.1 (List.getElem_mem h)
    have m2 : (l2[i].1, l2[i].2) ∈ l2 := List.getElem_mem h2
    have g1 := getK_nodup nd m1
    have g2 := getK_nodup nd m2
    rw [k, g2] at g1
    have : l2[i].2 = l1[i].2 := by simpa using g1
    exact congrArg some (Prod.ext k this.symm)
  · rw [List.getElem?_eq_none (by omega), List.getElem?_eq_none (by omega)]
theorem srtP_uniq {l l' : List (TRow × Int)} (p : l.Perm l') (nd : (l'.map (·.1)).Nodup) (srt : sortRows (l'.map (·.1)) = l'.map (·.1)) : srtP l = l' := by
  refine same_keys ((srtP_perm l).trans p) ?_ nd
  rw [srtP_keys, sortRows_perm (p.map _), srt]
theorem ren_back {N : List Str} {ρ τ : Str → Str} (inv : ∀ z ∈ N, τ (ρ z) = z) {s : Stp} (h : GoodStp N s) (hc : ∃ x y z, s.claim = [x, y, z] ∧ x ∈ N ∧ y ∈ N ∧ z ∈ N) : renS τ (renS ρ s) = s := by
  obtain ⟨claim, aim, parts⟩ := s
  obtain ⟨ba, bs⟩ := back_is inv h.aim
  have p1 : trC τ (trC ρ claim) = claim := by
    obtain ⟨x, y, z, e, hx, hy, hz⟩ := hc
    obtain ⟨a, b, c, d, f, _, ec⟩ := h.claim
    simp only at e ec
    have srt : sortStr claim = claim := by
      rw [ec]
      exact sortStr_id (sortStr_pw _)
    subst e
    have ix := inv x hx
    have iy := inv y hy
    have iz := inv z hz
    show trC τ (DX.tri (ρ x) (ρ y) (ρ z)) = _
    have pm : (DX.tri (ρ x) (ρ y) (ρ z)).Perm [ρ x, ρ y, ρ z] := List.mergeSort_perm _ _
    have l3 := tri_len (ρ x) (ρ y) (ρ z)
    match hm : DX.tri (ρ x) (ρ y) (ρ z), l3 with
    | [u, v, w], _ =>
      rw [hm] at pm
      have pm2 := pm.map τ
      simp only [List.map_cons, List.map_nil, ix, iy, iz] at pm2
      show DX.tri (τ u) (τ v) (τ w) = _
      exact tri_perm pm2 srt
  have key : (renS ρ ⟨claim, aim, parts⟩).parts = (srtP (qsS ρ ⟨claim, aim, parts⟩)).map fun q => (q.2, q.1) := rfl
  have pq : (qsS τ (renS ρ ⟨claim, aim, parts⟩)).Perm (parts.map fun p => (p.2, p.1)) := by
    have e1 : qsS τ (renS ρ ⟨claim, aim, parts⟩) = (srtP (qsS ρ ⟨claim, aim, parts⟩)).map fun q => (plX (q.1.map τ), q.2 * sgX (q.1.map τ) * sgX ((plX (aim.map ρ)).map τ)) := by
      unfold qsS
      rw [key, List.map_map]
      rfl
    rw [e1]
    refine ((srtP_perm _).map _).trans ?_
    have e2 : (qsS ρ ⟨claim, aim, parts⟩).map (fun q => (plX (q.1.map τ), q.2 * sgX (q.1.map τ) * sgX ((plX (aim.map ρ)).map τ))) = parts.map fun p => (p.2, p.1) := by
      unfold qsS
      rw [List.map_map]
      refine List.map_congr_left fun p hp => ?_
      obtain ⟨b1, b2⟩ := back_is inv (h.parts.2.1 p hp)
      simp only [Function.comp]
      rw [b1, b2, bs]
      congr 1
      rcases sgX_pm (p.2.map ρ) with e | e <;> rcases sgX_pm (aim.map ρ) with f | f <;> rw [e, f] <;> omega
    rw [e2]
  have ek : (parts.map fun p : Int × TRow => (p.2, p.1)).map (·.1) = parts.map (·.2) := by rw [List.map_map]; rfl
  have su := srtP_uniq pq (by rw [ek]; exact h.parts.1) (by rw [ek]; exact h.parts.2.2.2.1)
  have p3 : (srtP (qsS τ (renS ρ ⟨claim, aim, parts⟩))).map (fun q => (q.2, q.1)) = parts := by
    rw [su, List.map_map]
    have : ((fun q : TRow × Int => (q.2, q.1)) ∘ fun p : Int × TRow => (p.2, p.1)) = id := rfl
    rw [this, List.map_id]
  show Stp.mk (trC τ (trC ρ claim)) (plX ((plX (aim.map ρ)).map τ)) _ = _
  rw [p1, ba, p3]
theorem ren_good {N N' : List Str} {ρ τ : Str → Str} (inv : ∀ z ∈ N, τ (ρ z) = z) (to : ∀ z ∈ N, ρ z ∈ N') {s : Stp} (h : GoodR N s) : GoodR N' (renS ρ s) := by
  have inj : ∀ y ∈ N, ∀ z ∈ N, ρ y = ρ z → y = z := fun y hy z hz e => by rw [← inv y hy, e, inv z hz]
  have mq : ∀ q ∈ srtP (qsS ρ s), ∃ p ∈ s.parts, q = (plX (p.2.map ρ), p.1 * sgX (p.2.map ρ) * sgX (s.aim.map ρ)) := fun q hq => by
    obtain ⟨p, hp, e⟩ := List.mem_map.1 ((srtP_perm _).mem_iff.1 hq)
    exact ⟨p, hp, e.symm⟩
  refine ⟨fwd_is inj to h.aim, ?_, fun p hp => ?_, ?_, ?_, fun p hp => ?_⟩
  · obtain ⟨x, y, z, e, hx, hy, hz⟩ := h.claim
    have pm : (DX.tri (ρ x) (ρ y) (ρ z)).Perm [ρ x, ρ y, ρ z] := List.mergeSort_perm _ _
    have l3 := tri_len (ρ x) (ρ y) (ρ z)
    have ec : (renS ρ s).claim = DX.tri (ρ x) (ρ y) (ρ z) := by
      show trC ρ s.claim = _
      rw [e]; rfl
    match hm : DX.tri (ρ x) (ρ y) (ρ z), l3 with
    | [u, v, w], _ =>
      rw [hm] at pm
      have all : ∀ t ∈ [u, v, w], t ∈ N' := fun t ht => by
        have := pm.mem_iff.1 ht
        simp only [List.mem_cons, List.not_mem_nil, or_false] at this
        rcases this with rfl | rfl | rfl
        · exact to x hx
        · exact to y hy
        · exact to z hz
      exact ⟨u, v, w, by rw [ec, hm], all u (by simp), all v (by simp), all w (by simp)⟩
  · obtain ⟨q, hq, rfl⟩ := List.mem_map.1 hp
    obtain ⟨p, hp2, rfl⟩ := mq q hq
    exact fwd_is inj to (h.ex p hp2)
  · show (((srtP (qsS ρ s)).map fun q => (q.2, q.1)).map (·.2)).Nodup
    rw [List.map_map]
    have : ((fun p : Int × TRow => p.2) ∘ fun q : TRow × Int => (q.2, q.1)) = fun q => q.1 := rfl
    rw [this, srtP_keys]
    exact (List.mergeSort_perm _ _).nodup_iff.2 (qs_nd inv h)
  · show ((srtP (qsS ρ s)).map fun q => (q.2, q.1)).length ≤ 4
    rw [List.length_map, (srtP_perm _).length_eq]
    unfold qsS
    rw [List.length_map]
    exact h.len
  · obtain ⟨q, hq, rfl⟩ := List.mem_map.1 hp
    obtain ⟨p, hp2, rfl⟩ := mq q hq
    have b := h.bd p hp2
    show Bd 3 (p.1 * sgX (p.2.map ρ) * sgX (s.aim.map ρ))
    unfold Bd at *
    rcases sgX_pm (p.2.map ρ) with e | e <;> rcases sgX_pm (s.aim.map ρ) with f | f <;> rw [e, f] <;> omega
theorem good_of {N : List Str} {s : Stp} (h : GoodStp N s) : GoodR N s := by
  refine ⟨h.aim, ?_, h.parts.2.1, h.parts.1, h.parts.2.2.1, h.parts.2.2.2.2⟩
  obtain ⟨a, b, c, d, e, ea, ec⟩ := h.claim
  have sub := h.aim.sub
  rw [ea] at sub
  have l3 := tri_len a b c
  rw [ec]
  match hm : DX.tri a b c, l3 with
  | [u, v, w], _ =>
    have all : ∀ t ∈ [u, v, w], t ∈ N := fun t ht => by
      rw [← hm] at ht
      rcases tri_mem.1 ht with rfl | rfl | rfl <;> exact sub _ (by simp)
    exact ⟨u, v, w, rfl, all u (by simp), all v (by simp), all w (by simp)⟩
theorem own_pairs (ps : List (TRow × Int)) : ((ps.map fun q => (q.2, q.1)) : List (Int × TRow)).map ptD = ps.map fun q => D.tup [.int q.2, row q.1] := by rw [List.map_map]; rfl
theorem bd_pm (x : TRow) : Bd 1 (sgX x) := by rcases sgX_pm x with e | e <;> rw [e] <;> unfold Bd <;> decide
theorem parts_b {kvs : List (Key × D)} {N : List Str} {ρ τ : Str → Str} (R : Ren kvs N ρ) (sg : Int) (bs : Bd 1 sg) (s0 s2 s3 s4 s7 s13 : Slot) (ps : List (Int × TRow)) (hx : ∀ p ∈ ps, Pl N p.2) (hb : ∀ p ∈ ps, Bd 3 p.1) (hl : ps.length ≤ 4) :
    ∃ s9 s10 s11 s12, forL (gTp [gNm 9, gNm 10]) [9, 10, 11, 12] B_renamed_1 (ps.map ptD) [s0, .v .rd (.dK kvs), s2, s3, s4, .v .fz (.lst (ps.map ptD)), .v .fz (.int sg), s7, .v .ow (.lst []), .un, .un, .un, .un, s13] =
      .next [s0, .v .rd (.dK kvs), s2, s3, s4, .v .fz (.lst (ps.map ptD)), .v .fz (.int sg), s7, .v .ow (.lst ((ps.map fun p => (plX (p.2.map ρ), p.1 * sgX (p.2.map ρ) * sg)).map prD)), s9, s10, s11, s12, s13] := by
  obtain ⟨e, r, s9, s10, s11, s12, rfl⟩ := forL_pre (t := gTp [gNm 9, gNm 10]) (dead := [9, 10, 11, 12]) (body := B_renamed_1) ptD
    (fun pre e => ∃ (s9 s10 s11 s12 : DX.Slot), e = [s0, .v .rd (.dK kvs), s2, s3, s4, .v .fz (.lst (ps.map ptD)), .v .fz (.int sg), s7, .v .ow (.lst ((pre.map fun p => (plX (p.2.map ρ), p.1 * sgX (p.2.map ρ) * sg)).map prD)), s9, s10, s11, s12, s13]) ps ps []
    [s0, .v .rd (.dK kvs), s2, s3, s4, .v .fz (.lst (ps.map ptD)), .v .fz (.int sg), s7, .v .ow (.lst []), .un, .un, .un, .un, s13] rfl ⟨_, _, _, _, rfl⟩ (by
    rintro pre p rest e ho ⟨s9, s10, s11, s12, rfl⟩
    have hp : p ∈ ps := by rw [ho]; simp
    have rx := renamed_exchange_is R (hx p hp)
    have m1 := gMul_ok (hb p hp) (bd_pm (p.2.map ρ)) (by decide)
    have m2 := gMul_ok (Bd.mul (n := 4) (hb p hp) (bd_pm (p.2.map ρ)) (by decide)) bs (by decide)
    have h2 : 2 ≤ sizeLine := by simp [sizeLine]
    have pl : pre.length < sizeLine := small_lt' (by have := congrArg List.length ho; simp at this; omega)
    exact ⟨[s0, .v .rd (.dK kvs), s2, s3, s4, .v .fz (.lst (ps.map ptD)), .v .fz (.int sg), s7, .v .ow (.lst ((pre.map fun p => (plX (p.2.map ρ), p.1 * sgX (p.2.map ρ) * sg)).map prD)), .v .fz (.int p.1), .v .fz (row p.2), .un, .un, s13], _, rfl, .inl (by simp only [B_renamed_1, gTp, dMutL, gAppend, dVar, dC, dPrim, dMake, dTup, dLst, mArgs, AR.bind, AR.thn, ER.bind, ER.thn, FR.bind, TR.bind, TR.thn, TR.thenE, rdVs, rdV, frzV, frzVs, frzD, dTst, dNotT, dAndT, dOrT, dNotV, dAndV, dOrV, dIfE, dSeq, dDrop, dRet, dIf, dSet, putV, putRaw, gNm, gLs, gEach, dAsg, dPar, dCall, callV, takeA, take1, fillR, putB, rdA, rdFl, retS, inS, outS, List.tail, runFn, gAdd, DX.gSub, gNeg, gAbs, gLen, gEq_int, gNe_int, gLt_int, gGt_int, gLe_int, gGe_int, gIsi, tyD, isiD, dPin, forget, List.set_cons_zero, List.set_cons_succ, List.getElem?_cons_zero, List.getElem?_cons_succ, List.length_cons, List.length_nil, List.replicate, List.cons_append, List.nil_append, Nat.reduceAdd, Nat.reduceSub, Option.bind_some, Option.map_some, if_true, Bool.false_eq_true, if_false, rx, m1, m2, h2, pl, List.length_map]; rfl), _, _, _, _, by rw [List.map_append, List.map_append]; rfl⟩)
  simp only [forget, List.set_cons_succ, List.set_cons_zero] at r
  exact ⟨_, _, _, _, r⟩
theorem renamed_is {kvs : List (Key × D)} {N : List Str} {ρ τ : Str → Str} (R : Ren kvs N ρ) (inv : ∀ z ∈ N, τ (ρ z) = z) (g : List Stp) (hg : ∀ s ∈ g, GoodR N s) (hl : g.length ≤ 100) : F_renamed [.lst (g.map stD), .dK kvs] = .ok (.tmp (.dl ((g.map (renS ρ)).map stO))) [] := by
  obtain ⟨e, r, s3, s4, s5, s6, s7, s8, s9, s10, s11, s12, s13, rfl⟩ := forL_pre (t := gTp [gNm 3, gNm 4, gNm 5]) (dead := [3, 4, 5, 6, 7, 8, 9, 10, 11, 12, 13]) (body := B_renamed_2) stD
    (fun pre e => ∃ (s3 s4 s5 s6 s7 s8 s9 s10 s11 s12 s13 : DX.Slot), e = [.v .rd (.lst (g.map stD)), .v .rd (.dK kvs), .v .ow (.dl ((pre.map (renS ρ)).map stO)), s3, s4, s5, s6, s7, s8, s9, s10, s11, s12, s13]) g g []
    [.v .rd (.lst (g.map stD)), .v .rd (.dK kvs), .v .ow (.dl []), .un, .un, .un, .un, .un, .un, .un, .un, .un, .un, .un] rfl ⟨_, _, _, _, _, _, _, _, _, _, _, rfl⟩ (by
    rintro pre s rest e ho ⟨s3, s4, s5, s6, s7, s8, s9, s10, s11, s12, s13, rfl⟩
    have hs : s ∈ g := by rw [ho]; simp
    have G := hg s hs
    have pl : pre.length < sizeLine := small_lt' (by have := congrArg List.length ho; simp at this; omega)
    have rx := renamed_exchange_is R G.aim
    obtain ⟨t9, t10, t11, t12, pb⟩ := parts_b (τ := τ) R (sgX (s.aim.map ρ)) (bd_pm _) (.v .rd (.lst (g.map stD))) (.v .ow (.dl ((pre.map (renS ρ)).map stO))) (.v .fz (row s.claim)) (.v .fz (row s.aim)) (.v .fz (row (plX (s.aim.map ρ)))) .un s.parts G.ex G.bd G.len
    have ql : (qsS ρ s).length ≤ 4 := by unfold qsS; rw [List.length_map]; exact G.len
    have sp := sort_pairs (ps := qsS ρ s) (qs_nd inv G) (by omega)
    have zl : (srtP (qsS ρ s)).length ≤ 4 := by rw [(srtP_perm _).length_eq]; exact ql
    have eq : s.parts.map (fun p => (plX (p.2.map ρ), p.1 * sgX (p.2.map ρ) * sgX (s.aim.map ρ))) = qsS ρ s := rfl
    rw [eq] at pb
    have h2 : 2 ≤ sizeLine := by simp [sizeLine]
    have h3 : 3 ≤ sizeLine := by simp [sizeLine]
    have z0 : 0 ≤ sizeLine := Nat.zero_le _
    have lc := lcL_map (t := gTp [gNm 12, gNm 9]) (own := [12, 9]) (me := K_renamed_1) (env := [.v .rd (.lst (g.map stD)), .v .rd (.dK kvs), .v .ow (.dl ((pre.map (renS ρ)).map stO)), .v .fz (row s.claim), .v .fz (row s.aim), .v .fz (.lst (s.parts.map ptD)), .v .fz (.int (sgX (s.aim.map ρ))), .v .fz (row (plX (s.aim.map ρ))), .v .ow (.lst ((qsS ρ s).map prD)), .un, t10, t11, .un, .un]) prD ptD (fun q => (q.2, q.1)) (srtP (qsS ρ s)) (small_le (by omega)) fun q hq =>
      ⟨[.v .rd (.lst (g.map stD)), .v .rd (.dK kvs), .v .ow (.dl ((pre.map (renS ρ)).map stO)), .v .fz (row s.claim), .v .fz (row s.aim), .v .fz (.lst (s.parts.map ptD)), .v .fz (.int (sgX (s.aim.map ρ))), .v .fz (row (plX (s.aim.map ρ))), .v .ow (.lst ((qsS ρ s).map prD)), .v .fz (.int q.2), t10, t11, .v .fz (row q.1), .un], rfl, .fz (.tup [.int q.2, row q.1]), [.v .rd (.lst (g.map stD)), .v .rd (.dK kvs), .v .ow (.dl ((pre.map (renS ρ)).map stO)), .v .fz (row s.claim), .v .fz (row s.aim), .v .fz (.lst (s.parts.map ptD)), .v .fz (.int (sgX (s.aim.map ρ))), .v .fz (row (plX (s.aim.map ρ))), .v .ow (.lst ((qsS ρ s).map prD)), .v .fz (.int q.2), t10, t11, .v .fz (row q.1), .un], [.v .rd (.lst (g.map stD)), .v .rd (.dK kvs), .v .ow (.dl ((pre.map (renS ρ)).map stO)), .v .fz (row s.claim), .v .fz (row s.aim), .v .fz (.lst (s.parts.map ptD)), .v .fz (.int (sgX (s.aim.map ρ))), .v .fz (row (plX (s.aim.map ρ))), .v .ow (.lst ((qsS ρ s).map prD)), .v .fz (.int q.2), t10, t11, .v .fz (row q.1), .un], by simp only [K_renamed_1, dVar, dC, dPrim, dMake, dTup, dLst, mArgs, AR.bind, AR.thn, ER.bind, ER.thn, FR.bind, TR.bind, TR.thn, TR.thenE, rdVs, rdV, frzV, frzVs, frzD, dTst, dNotT, dAndT, dOrT, dNotV, dAndV, dOrV, dIfE, dSeq, dDrop, dRet, dIf, dSet, putV, putRaw, gNm, gLs, gEach, dAsg, dPar, dCall, callV, takeA, take1, fillR, putB, rdA, rdFl, retS, inS, outS, List.tail, runFn, gAdd, DX.gSub, gNeg, gAbs, gLen, gEq_int, gNe_int, gLt_int, gGt_int, gLe_int, gGe_int, gIsi, tyD, isiD, dPin, forget, List.set_cons_zero, List.set_cons_succ, List.getElem?_cons_zero, List.getElem?_cons_succ, List.length_cons, List.length_nil, List.replicate, List.cons_append, List.nil_append, Nat.reduceAdd, Nat.reduceSub, Option.bind_some, Option.map_some, if_true, Bool.false_eq_true, if_false, h2], rfl, rfl⟩
    obtain ⟨x, y, z, ec, hx, hy, hz⟩ := G.claim
    have i0 : gIx [row s.claim, .int 0] = some (.fz (.str x)) := by rw [ec]; rfl
    have i1 : gIx [row s.claim, .int 1] = some (.fz (.str y)) := by rw [ec]; rfl
    have i2 : gIx [row s.claim, .int 2] = some (.fz (.str z)) := by rw [ec]; rfl
    have gx := R.get x hx
    have gy := R.get y hy
    have gz := R.get z hz
    have tr : F_triple [.str (ρ x), .str (ρ y), .str (ρ z)] = .ok (.fz (row (trC ρ s.claim))) [] := by
      rw [ec]
      simp [F_triple, M_triple, trC, dVar, dC, dPrim, dMake, dTup, dLst, mArgs, AR.bind, AR.thn, ER.bind, ER.thn, FR.bind, TR.bind, TR.thn, TR.thenE, rdVs, rdV, frzV, frzVs, frzD, dTst, dNotT, dAndT, dOrT, dNotV, dAndV, dOrV, dIfE, dSeq, dDrop, dRet, dIf, dSet, putV, putRaw, gNm, gLs, gEach, dAsg, dPar, dCall, callV, takeA, take1, fillR, putB, rdA, rdFl, retS, inS, outS, List.tail, runFn, gAdd, DX.gSub, gNeg, gAbs, gLen, gEq_int, gNe_int, gLt_int, gGt_int, gLe_int, gGe_int, gIsi, tyD, isiD, dPin, forget, List.set_cons_zero, List.set_cons_succ, List.getElem?_cons_zero, List.getElem?_cons_succ, List.length_cons, List.length_nil, List.replicate, List.cons_append, List.nil_append, Nat.reduceAdd, Nat.reduceSub, Option.bind_some, Option.map_some, if_true, Bool.false_eq_true, if_false, h3, gTri, gTuple, row]
    refine ⟨[.v .rd (.lst (g.map stD)), .v .rd (.dK kvs), .v .ow (.dl ((pre.map (renS ρ)).map stO)), .v .fz (row s.claim), .v .fz (row s.aim), .v .fz (.lst (s.parts.map ptD)), .un, .un, .un, .un, .un, .un, .un, .un], [.v .rd (.lst (g.map stD)), .v .rd (.dK kvs), .v .ow (.dl (((pre ++ [s]).map (renS ρ)).map stO)), .v .fz (row s.claim), .v .fz (row s.aim), .v .fz (.lst (s.parts.map ptD)), .v .fz (.int (sgX (s.aim.map ρ))), .v .fz (row (plX (s.aim.map ρ))), .v .ow (.lst ((qsS ρ s).map prD)), .un, t10, t11, .un, .un], rfl, .inl ?_, _, _, _, _, _, _, _, _, _, _, _, rfl⟩
    have es : ((pre ++ [s]).map (renS ρ)).map stO = (pre.map (renS ρ)).map stO ++ [D.ow (.dt [row (trC ρ s.claim), row (plX (s.aim.map ρ)), .ow (.lst (((srtP (qsS ρ s)).map fun q => (q.2, q.1)).map ptD))])] := by rw [List.map_append, List.map_append]; rfl
    rw [es]
    have prl : ((pre.map (renS ρ)).map stO).length < sizeLine := by simpa using pl
    generalize (pre.map (renS ρ)).map stO = PR at *
    simp only [B_renamed_2, gTp, dFor, itL, rdMode, dLc, mIt, dVar, dC, dPrim, dMake, dTup, dLst, mArgs, AR.bind, AR.thn, ER.bind, ER.thn, FR.bind, TR.bind, TR.thn, TR.thenE, rdVs, rdV, frzV, frzVs, frzD, dTst, dNotT, dAndT, dOrT, dNotV, dAndV, dOrV, dIfE, dSeq, dDrop, dRet, dIf, dSet, putV, putRaw, gNm, gLs, gEach, dAsg, dPar, dCall, callV, takeA, take1, fillR, putB, rdA, rdFl, retS, inS, outS, List.tail, runFn, gAdd, DX.gSub, gNeg, gAbs, gLen, gEq_int, gNe_int, gLt_int, gGt_int, gLe_int, gGe_int, gIsi, tyD, isiD, dPin, forget, List.set_cons_zero, List.set_cons_succ, List.getElem?_cons_zero, List.getElem?_cons_succ, List.length_cons, List.length_nil, List.replicate, List.cons_append, List.nil_append, Nat.reduceAdd, Nat.reduceSub, Option.bind_some, Option.map_some, if_true, Bool.false_eq_true, if_false, dTupO, partVs, partV, slotP, dAppO, dAppIx, dLstO, dLcO, dPrimP, rdPs, rdP, atomD, vIxO, dPrimX, vArgs, eq_self, rx, z0, h3, pb, sp, lc, i0, i1, i2, gx, gy, gz, tr, prl])
  have z0 : 0 ≤ sizeLine := Nat.zero_le _
  simp only [forget, List.set_cons_succ, List.set_cons_zero] at r
  simp only [F_renamed, M_renamed, dFor, itL, rdMode, dVar, dC, dPrim, dMake, dTup, dLst, mArgs, AR.bind, AR.thn, ER.bind, ER.thn, FR.bind, TR.bind, TR.thn, TR.thenE, rdVs, rdV, frzV, frzVs, frzD, dTst, dNotT, dAndT, dOrT, dNotV, dAndV, dOrV, dIfE, dSeq, dDrop, dRet, dIf, dSet, putV, putRaw, gNm, gLs, gEach, dAsg, dPar, dCall, callV, takeA, take1, fillR, putB, rdA, rdFl, retS, inS, outS, List.tail, runFn, gAdd, DX.gSub, gNeg, gAbs, gLen, gEq_int, gNe_int, gLt_int, gGt_int, gLe_int, gGe_int, gIsi, tyD, isiD, dPin, forget, List.set_cons_zero, List.set_cons_succ, List.getElem?_cons_zero, List.getElem?_cons_succ, List.length_cons, List.length_nil, List.replicate, List.cons_append, List.nil_append, Nat.reduceAdd, Nat.reduceSub, Option.bind_some, Option.map_some, if_true, Bool.false_eq_true, if_false, dTupO, partVs, partV, slotP, dAppO, dAppIx, dLstO, dLcO, dPrimP, rdPs, rdP, atomD, vIxO, dPrimX, vArgs, eq_self, z0, r]
theorem due_keys {N : List Str} {ρ τ : Str → Str} (inv : ∀ z ∈ N, τ (ρ z) = z) {s : Stp} (G : GoodR N s) : (sortRows ((qsS ρ s).map (·.1))).map (fun x => ((getK (qsS ρ s) x).getD 0, x)) = (srtP (qsS ρ s)).map fun q => (q.2, q.1) := by
  rw [← srtP_keys, List.map_map]
  refine List.map_congr_left fun q hq => ?_
  have := getK_nodup (qs_nd inv G) ((srtP_perm _).mem_iff.1 hq : (q.1, q.2) ∈ qsS ρ s)
  simp only [Function.comp, this, Option.getD_some]
theorem law_parts_b {kvs : List (Key × D)} {N : List Str} {ρ τ : Str → Str} (R : Ren kvs N ρ) (s : Stp) (G : GoodR N s) (inv : ∀ z ∈ N, τ (ρ z) = z) (s0 s2 s3 s4 s7 s13 : Slot) :
    ∃ s9 s10 s11 s12, forL (gTp [gNm 9, gNm 10]) [9, 10, 11, 12] B__law_due_1 (s.parts.map ptD) [s0, .v .rd (.dK kvs), s2, s3, s4, .v .fz (.lst (s.parts.map ptD)), .v .fz (.int (sgX (s.aim.map ρ))), s7, .v .ow (.dT []), .un, .un, .un, .un, s13] =
      .next [s0, .v .rd (.dK kvs), s2, s3, s4, .v .fz (.lst (s.parts.map ptD)), .v .fz (.int (sgX (s.aim.map ρ))), s7, .v .ow (.dT (kvR D.int (qsS ρ s))), s9, s10, s11, s12, s13] := by
  have qnd := qs_nd inv G
  obtain ⟨e, r, s9, s10, s11, s12, rfl⟩ := forL_pre (t := gTp [gNm 9, gNm 10]) (dead := [9, 10, 11, 12]) (body := B__law_due_1) ptD
    (fun pre e => ∃ (s9 s10 s11 s12 : DX.Slot), e = [s0, .v .rd (.dK kvs), s2, s3, s4, .v .fz (.lst (s.parts.map ptD)), .v .fz (.int (sgX (s.aim.map ρ))), s7, .v .ow (.dT (kvR D.int (pre.map fun p => (plX (p.2.map ρ), p.1 * sgX (p.2.map ρ) * sgX (s.aim.map ρ))))), s9, s10, s11, s12, s13]) s.parts s.parts []
    [s0, .v .rd (.dK kvs), s2, s3, s4, .v .fz (.lst (s.parts.map ptD)), .v .fz (.int (sgX (s.aim.map ρ))), s7, .v .ow (.dT []), .un, .un, .un, .un, s13] rfl ⟨_, _, _, _, rfl⟩ (by
    rintro pre p rest e ho ⟨s9, s10, s11, s12, rfl⟩
    have hp : p ∈ s.parts := by rw [ho]; simp
    have rx := law_plain_of_is R (G.ex p hp)
    have m1 := gMul_ok (G.bd p hp) (bd_pm (p.2.map ρ)) (by decide)
    have m2 := gMul_ok (Bd.mul (n := 4) (G.bd p hp) (bd_pm (p.2.map ρ)) (by decide)) (bd_pm (s.aim.map ρ)) (by decide)
    have kt := keyT_row (plX (p.2.map ρ))
    have nk : plX (p.2.map ρ) ∉ (pre.map fun p => (plX (p.2.map ρ), p.1 * sgX (p.2.map ρ) * sgX (s.aim.map ρ))).map (·.1) := fun hm => by
      unfold qsS at qnd
      rw [ho, List.map_append, List.map_append, List.nodup_append] at qnd
      exact qnd.2.2 _ hm (plX (p.2.map ρ)) (by simp) rfl
    have pu := putD_kvR D.int (pre.map fun p => (plX (p.2.map ρ), p.1 * sgX (p.2.map ρ) * sgX (s.aim.map ρ))) (plX (p.2.map ρ)) (p.1 * sgX (p.2.map ρ) * sgX (s.aim.map ρ))
    have ek : DX.putK (pre.map fun p => (plX (p.2.map ρ), p.1 * sgX (p.2.map ρ) * sgX (s.aim.map ρ))) (plX (p.2.map ρ)) (p.1 * sgX (p.2.map ρ) * sgX (s.aim.map ρ)) = (pre ++ [p]).map fun p => (plX (p.2.map ρ), p.1 * sgX (p.2.map ρ) * sgX (s.aim.map ρ)) := by
      unfold DX.putK
      rw [if_neg nk, List.map_append]
      rfl
    rw [ek] at pu
    have lq := G.len
    have sz : (kvR D.int (pre.map fun p => (plX (p.2.map ρ), p.1 * sgX (p.2.map ρ) * sgX (s.aim.map ρ)))).length < sizeLine := small_lt' (by unfold kvR; rw [List.length_map, List.length_map]; have := congrArg List.length ho; simp at this; omega)
    exact ⟨[s0, .v .rd (.dK kvs), s2, s3, s4, .v .fz (.lst (s.parts.map ptD)), .v .fz (.int (sgX (s.aim.map ρ))), s7, .v .ow (.dT (kvR D.int (pre.map fun p => (plX (p.2.map ρ), p.1 * sgX (p.2.map ρ) * sgX (s.aim.map ρ))))), .v .fz (.int p.1), .v .fz (row p.2), .un, .un, s13], _, rfl, .inl (by simp only [B__law_due_1, gTp, gPut, putD1, dVar, dC, dPrim, dMake, dTup, dLst, mArgs, AR.bind, AR.thn, ER.bind, ER.thn, FR.bind, TR.bind, TR.thn, TR.thenE, rdVs, rdV, frzV, frzVs, frzD, dTst, dNotT, dAndT, dOrT, dNotV, dAndV, dOrV, dIfE, dSeq, dDrop, dRet, dIf, dSet, putV, putRaw, gNm, gLs, gEach, dAsg, dPar, dCall, callV, takeA, take1, fillR, putB, rdA, rdFl, retS, inS, outS, List.tail, runFn, gAdd, DX.gSub, gNeg, gAbs, gLen, gEq_int, gNe_int, gLt_int, gGt_int, gLe_int, gGe_int, gIsi, tyD, isiD, dPin, forget, List.set_cons_zero, List.set_cons_succ, List.getElem?_cons_zero, List.getElem?_cons_succ, List.length_cons, List.length_nil, List.replicate, List.cons_append, List.nil_append, Nat.reduceAdd, Nat.reduceSub, Option.bind_some, Option.map_some, if_true, Bool.false_eq_true, if_false, rx, m1, m2, kt, pu, sz]; rfl), _, _, _, _, rfl⟩)
  simp only [forget, List.set_cons_succ, List.set_cons_zero] at r
  exact ⟨_, _, _, _, r⟩
theorem law_due_is {kvs : List (Key × D)} {N : List Str} {ρ τ : Str → Str} (R : Ren kvs N ρ) (inv : ∀ z ∈ N, τ (ρ z) = z) (g : List Stp) (hg : ∀ s ∈ g, GoodR N s) (hl : g.length ≤ 100) : F__law_due [.lst (g.map stD), .dK kvs] = .ok (.tmp (.lst ((g.map (renS ρ)).map stD))) [] := by
  obtain ⟨e, r, s3, s4, s5, s6, s7, s8, s9, s10, s11, s12, s13, rfl⟩ := forL_pre (t := gTp [gNm 3, gNm 4, gNm 5]) (dead := [3, 4, 5, 6, 7, 8, 9, 10, 11, 12, 13]) (body := B__law_due_2) stD
    (fun pre e => ∃ (s3 s4 s5 s6 s7 s8 s9 s10 s11 s12 s13 : DX.Slot), e = [.v .rd (.lst (g.map stD)), .v .rd (.dK kvs), .v .ow (.lst ((pre.map (renS ρ)).map stD)), s3, s4, s5, s6, s7, s8, s9, s10, s11, s12, s13]) g g []
    [.v .rd (.lst (g.map stD)), .v .rd (.dK kvs), .v .ow (.lst []), .un, .un, .un, .un, .un, .un, .un, .un, .un, .un, .un] rfl ⟨_, _, _, _, _, _, _, _, _, _, _, rfl⟩ (by
    rintro pre s rest e ho ⟨s3, s4, s5, s6, s7, s8, s9, s10, s11, s12, s13, rfl⟩
    have hs : s ∈ g := by rw [ho]; simp
    have G := hg s hs
    have pl : pre.length < sizeLine := small_lt' (by have := congrArg List.length ho; simp at this; omega)
    have rx := law_plain_of_is R G.aim
    obtain ⟨t9, t10, t11, t12, pb⟩ := law_parts_b (τ := τ) R s G inv (.v .rd (.lst (g.map stD))) (.v .ow (.lst ((pre.map (renS ρ)).map stD))) (.v .fz (row s.claim)) (.v .fz (row s.aim)) (.v .fz (row (plX (s.aim.map ρ)))) .un
    have ql : (qsS ρ s).length ≤ 4 := by unfold qsS; rw [List.length_map]; exact G.len
    have dk := due_keys inv G
    have mk : ∀ x ∈ sortRows ((qsS ρ s).map (·.1)), ∃ v, getK (qsS ρ s) x = some v := fun x hx => by
      obtain ⟨v, hv, _⟩ := getK_some (sortRows_mem.1 hx)
      exact ⟨v, hv⟩
    have sd := gSortedDT_kvR D.int (qsS ρ s) (fun r hr => by
      obtain ⟨q, hq, rfl⟩ := List.mem_map.1 hr
      obtain ⟨p, hp, rfl⟩ := List.mem_map.1 hq
      obtain ⟨a, b, c, d, e, ex, _⟩ := (G.ex p hp).is
      rw [ex]
      simp [plX])
    have zl : (sortRows ((qsS ρ s).map (·.1))).length ≤ 4 := by rw [sortRows_len, List.length_map]; exact ql
    have h2 : 2 ≤ sizeLine := by simp [sizeLine]
    have h3 : 3 ≤ sizeLine := by simp [sizeLine]
    have z0 : 0 ≤ sizeLine := Nat.zero_le _
    have lc := lcL_map (t := gNm 12) (own := [12]) (me := K__law_due_1) (env := [.v .rd (.lst (g.map stD)), .v .rd (.dK kvs), .v .ow (.lst ((pre.map (renS ρ)).map stD)), .v .fz (row s.claim), .v .fz (row s.aim), .v .fz (.lst (s.parts.map ptD)), .v .fz (.int (sgX (s.aim.map ρ))), .v .fz (row (plX (s.aim.map ρ))), .v .ow (.dT (kvR D.int (qsS ρ s))), t9, t10, t11, .un, .un]) row ptD (fun x => ((getK (qsS ρ s) x).getD 0, x)) (sortRows ((qsS ρ s).map (·.1))) (small_le (by omega)) fun x hx => by
      obtain ⟨v, hv⟩ := mk x hx
      have gd := gDGet_kvR D.int (qsS ρ s) x hv
      exact ⟨[.v .rd (.lst (g.map stD)), .v .rd (.dK kvs), .v .ow (.lst ((pre.map (renS ρ)).map stD)), .v .fz (row s.claim), .v .fz (row s.aim), .v .fz (.lst (s.parts.map ptD)), .v .fz (.int (sgX (s.aim.map ρ))), .v .fz (row (plX (s.aim.map ρ))), .v .ow (.dT (kvR D.int (qsS ρ s))), t9, t10, t11, .v .fz (row x), .un], rfl, .fz (.tup [.int v, row x]), [.v .rd (.lst (g.map stD)), .v .rd (.dK kvs), .v .ow (.lst ((pre.map (renS ρ)).map stD)), .v .fz (row s.claim), .v .fz (row s.aim), .v .fz (.lst (s.parts.map ptD)), .v .fz (.int (sgX (s.aim.map ρ))), .v .fz (row (plX (s.aim.map ρ))), .v .ow (.dT (kvR D.int (qsS ρ s))), t9, t10, t11, .v .fz (row x), .un], [.v .rd (.lst (g.map stD)), .v .rd (.dK kvs), .v .ow (.lst ((pre.map (renS ρ)).map stD)), .v .fz (row s.claim), .v .fz (row s.aim), .v .fz (.lst (s.parts.map ptD)), .v .fz (.int (sgX (s.aim.map ρ))), .v .fz (row (plX (s.aim.map ρ))), .v .ow (.dT (kvR D.int (qsS ρ s))), t9, t10, t11, .v .fz (row x), .un], by simp only [K__law_due_1, dVar, dC, dPrim, dMake, dTup, dLst, mArgs, AR.bind, AR.thn, ER.bind, ER.thn, FR.bind, TR.bind, TR.thn, TR.thenE, rdVs, rdV, frzV, frzVs, frzD, dTst, dNotT, dAndT, dOrT, dNotV, dAndV, dOrV, dIfE, dSeq, dDrop, dRet, dIf, dSet, putV, putRaw, gNm, gLs, gEach, dAsg, dPar, dCall, callV, takeA, take1, fillR, putB, rdA, rdFl, retS, inS, outS, List.tail, runFn, gAdd, DX.gSub, gNeg, gAbs, gLen, gEq_int, gNe_int, gLt_int, gGt_int, gLe_int, gGe_int, gIsi, tyD, isiD, dPin, forget, List.set_cons_zero, List.set_cons_succ, List.getElem?_cons_zero, List.getElem?_cons_succ, List.length_cons, List.length_nil, List.replicate, List.cons_append, List.nil_append, Nat.reduceAdd, Nat.reduceSub, Option.bind_some, Option.map_some, if_true, Bool.false_eq_true, if_false, gd, h2], by rw [hv]; rfl, rfl⟩
    rw [dk] at lc
    obtain ⟨x, y, z, ec, hx, hy, hz⟩ := G.claim
    have i0 : gIx [row s.claim, .int 0] = some (.fz (.str x)) := by rw [ec]; rfl
    have i1 : gIx [row s.claim, .int 1] = some (.fz (.str y)) := by rw [ec]; rfl
    have i2 : gIx [row s.claim, .int 2] = some (.fz (.str z)) := by rw [ec]; rfl
    have gx := R.get x hx
    have gy := R.get y hy
    have gz := R.get z hz
    have tr : F__law_triple [.str (ρ x), .str (ρ y), .str (ρ z)] = .ok (.fz (row (trC ρ s.claim))) [] := by
      rw [law_triple_is, ec]; rfl
    have es : ((pre ++ [s]).map (renS ρ)).map stD = (pre.map (renS ρ)).map stD ++ [D.tup [row (trC ρ s.claim), row (plX (s.aim.map ρ)), .lst (((srtP (qsS ρ s)).map fun q => (q.2, q.1)).map ptD)]] := by rw [List.map_append, List.map_append]; rfl
    have prl : ((pre.map (renS ρ)).map stD).length < sizeLine := by simpa using pl
    have nw : dNewT [.v .rd (.lst (g.map stD)), .v .rd (.dK kvs), .v .ow (.lst ((pre.map (renS ρ)).map stD)), .v .fz (row s.claim), .v .fz (row s.aim), .v .fz (.lst (s.parts.map ptD)), .v .fz (.int (sgX (s.aim.map ρ))), .v .fz (row (plX (s.aim.map ρ))), .un, .un, .un, .un, .un, .un] = .ok (.tmp (.dT [])) [.v .rd (.lst (g.map stD)), .v .rd (.dK kvs), .v .ow (.lst ((pre.map (renS ρ)).map stD)), .v .fz (row s.claim), .v .fz (row s.aim), .v .fz (.lst (s.parts.map ptD)), .v .fz (.int (sgX (s.aim.map ρ))), .v .fz (row (plX (s.aim.map ρ))), .un, .un, .un, .un, .un, .un] := rfl
    refine ⟨[.v .rd (.lst (g.map stD)), .v .rd (.dK kvs), .v .ow (.lst ((pre.map (renS ρ)).map stD)), .v .fz (row s.claim), .v .fz (row s.aim), .v .fz (.lst (s.parts.map ptD)), .un, .un, .un, .un, .un, .un, .un, .un], [.v .rd (.lst (g.map stD)), .v .rd (.dK kvs), .v .ow (.lst (((pre ++ [s]).map (renS ρ)).map stD)), .v .fz (row s.claim), .v .fz (row s.aim), .v .fz (.lst (s.parts.map ptD)), .v .fz (.int (sgX (s.aim.map ρ))), .v .fz (row (plX (s.aim.map ρ))), .v .ow (.dT (kvR D.int (qsS ρ s))), t9, t10, t11, .un, .v .fz (.lst (((srtP (qsS ρ s)).map fun q => (q.2, q.1)).map ptD))], rfl, .inl ?_, _, _, _, _, _, _, _, _, _, _, _, rfl⟩
    rw [es]
    generalize (pre.map (renS ρ)).map stD = PR at *
    simp only [B__law_due_2, gTp, dFor, itL, rdMode, dLc, mIt, dMutL, gAppend, dVar, dC, dPrim, dMake, dTup, dLst, mArgs, AR.bind, AR.thn, ER.bind, ER.thn, FR.bind, TR.bind, TR.thn, TR.thenE, rdVs, rdV, frzV, frzVs, frzD, dTst, dNotT, dAndT, dOrT, dNotV, dAndV, dOrV, dIfE, dSeq, dDrop, dRet, dIf, dSet, putV, putRaw, gNm, gLs, gEach, dAsg, dPar, dCall, callV, takeA, take1, fillR, putB, rdA, rdFl, retS, inS, outS, List.tail, runFn, gAdd, DX.gSub, gNeg, gAbs, gLen, gEq_int, gNe_int, gLt_int, gGt_int, gLe_int, gGe_int, gIsi, tyD, isiD, dPin, forget, List.set_cons_zero, List.set_cons_succ, List.getElem?_cons_zero, List.getElem?_cons_succ, List.length_cons, List.length_nil, List.replicate, List.cons_append, List.nil_append, Nat.reduceAdd, Nat.reduceSub, Option.bind_some, Option.map_some, if_true, Bool.false_eq_true, if_false, rx, nw, h3, pb, sd, lc, i0, i1, i2, gx, gy, gz, tr, prl])
  have z0 : 0 ≤ sizeLine := Nat.zero_le _
  simp only [forget, List.set_cons_succ, List.set_cons_zero] at r
  simp only [F__law_due, M__law_due, dFor, itL, rdMode, dVar, dC, dPrim, dMake, dTup, dLst, mArgs, AR.bind, AR.thn, ER.bind, ER.thn, FR.bind, TR.bind, TR.thn, TR.thenE, rdVs, rdV, frzV, frzVs, frzD, dTst, dNotT, dAndT, dOrT, dNotV, dAndV, dOrV, dIfE, dSeq, dDrop, dRet, dIf, dSet, putV, putRaw, gNm, gLs, gEach, dAsg, dPar, dCall, callV, takeA, take1, fillR, putB, rdA, rdFl, retS, inS, outS, List.tail, runFn, gAdd, DX.gSub, gNeg, gAbs, gLen, gEq_int, gNe_int, gLt_int, gGt_int, gLe_int, gGe_int, gIsi, tyD, isiD, dPin, forget, List.set_cons_zero, List.set_cons_succ, List.getElem?_cons_zero, List.getElem?_cons_succ, List.length_cons, List.length_nil, List.replicate, List.cons_append, List.nil_append, Nat.reduceAdd, Nat.reduceSub, Option.bind_some, Option.map_some, if_true, Bool.false_eq_true, if_false, z0, r]
/-! a dict of texts -/
def kvS (P : List (Str × D)) : List (Key × D) := P.map fun p => (Sum.inr p.1, p.2)
def keyS (P : List (Str × D)) : List Str := P.map (·.1)
def getS (P : List (Str × D)) (z : Str) : D := ((P.find? fun p => decide (p.1 = z)).map (·.2)).getD .non
theorem getS_mem {z : Str} : ∀ {P : List (Str × D)}, z ∈ keyS P → (P.find? fun p => decide (p.1 = z)).map (·.2) = some (getS P z) ∧ (z, getS P z) ∈ P
  | p :: P, h => by
    by_cases e : p.1 = z
    · subst e; simp [getS]
    · have h : z ∈ keyS P := by
        have h : z = p.1 ∨ z ∈ keyS P := by simpa [keyS] using h
        exact h.resolve_left fun q => e q.symm
      obtain ⟨a, b⟩ := getS_mem h
      have eq : getS (p :: P) z = getS P z := by simp [getS, e]
      rw [eq]
      exact ⟨by simp only [List.find?_cons, e, decide_false]; exact a, List.mem_cons_of_mem _ b⟩
theorem valD_kvS (z : Str) : ∀ P : List (Str × D), valD (kvS P) (Sum.inr z : Key) = (P.find? fun p => decide (p.1 = z)).map (·.2)
  | [] => rfl
  | p :: P => by
    have ih := valD_kvS z P
    have e : ((Sum.inr p.1 : Key) = Sum.inr z) = (p.1 = z) := by simp
    simp only [valD, kvS, List.map_cons, List.find?_cons, e] at ih ⊢
    by_cases h : p.1 = z
    · simp [h]
    · simp only [h, decide_false]; exact ih
theorem gDGet_S {z : Str} {P : List (Str × D)} (h : z ∈ keyS P) : gDGet [.dK (kvS P), .str z] = some (.fz (getS P z)) := by
  show (valD (kvS P) (Sum.inr z : Key)).map Val.fz = _
  rw [valD_kvS, (getS_mem h).1]; rfl
theorem gDIn_S (n : Bool) (z : Str) (P : List (Str × D)) : gDIn n [.str z, .dK (kvS P)] = some (.fz (.bl (if n then !decide (z ∈ keyS P) else decide (z ∈ keyS P)))) := by
  show some (Val.fz (.bl (if n then !(valD (kvS P) (Sum.inr z : Key)).isSome else (valD (kvS P) (Sum.inr z : Key)).isSome))) = _
  have e : (valD (kvS P) (Sum.inr z : Key)).isSome = decide (z ∈ keyS P) := by
    rw [valD_kvS]
    by_cases h : z ∈ keyS P
    · rw [(getS_mem h).1]; simp [h]
    · have : (P.find? fun p => decide (p.1 = z)) = none := by
        rw [List.find?_eq_none]
        intro p hp
        simp only [decide_eq_true_eq]
        exact fun q => h (List.mem_map.2 ⟨p, hp, q⟩)
      rw [this]; simp [h]
  rw [e]
theorem putD_S {z : Str} {P : List (Str × D)} (d : D) (h : z ∉ keyS P) : putD (kvS P) (Sum.inr z : Key) d = kvS (P ++ [(z, d)]) := by
  unfold putD
  rw [if_neg]
  · simp [kvS]
  · simp only [kvS, List.any_map, List.any_eq_true, Function.comp, decide_eq_true_eq, not_exists, not_and]
    intro p hp e
    exact h (List.mem_map.2 ⟨p, hp, by simpa using e⟩)
theorem asStrK_S : ∀ P : List (Str × D), asStrK (kvS P) = some (keyS P)
  | [] => rfl
  | p :: P => by
    show (asStrK (kvS P)).map (p.1 :: ·) = _
    rw [asStrK_S P]; rfl
theorem gSortedD_S {P : List (Str × D)} (h : P.length < 64) : gSortedD [.dK (kvS P)] = some (.tmp (.lst ((sortStr (keyS P)).map .str))) := by
  simp only [gSortedD, asStrK_S, Option.bind_some]
  rw [if_pos (by unfold keyS; rw [List.length_map]; exact h)]
theorem gListD_S (P : List (Str × D)) : gListD [.dK (kvS P)] = some (.tmp (.lst ((keyS P).map .str))) := by
  unfold gListD
  simp only [kvS, keyS, List.map_map]
  rfl
def prG (A B : List Str) (n : Nat) : List (Str × D) := (A.zip (B.map D.str)).take n
theorem prG_keys {A B : List Str} {k : Nat} (h2 : k ≤ B.length) : keyS (prG A B k) = A.take k := by
  unfold keyS prG
  have g : ∀ (N : List Str) (Q : List D) (k : Nat), k ≤ Q.length → ((N.zip Q).take k).map (·.1) = N.take k := by
    intro N
    induction N with
    | nil => intro Q k _; simp
    | cons n N ih =>
      intro Q k hk
      cases k with
      | zero => simp
      | succ k =>
        cases Q with
        | nil => simp at hk
        | cons q Q =>
          simp only [List.zip_cons_cons, List.take_succ_cons, List.map_cons]
          rw [ih Q k (by simpa using hk)]
  exact g A (B.map D.str) k (by rw [List.length_map]; exact h2)
theorem prG_succ {A B : List Str} {k : Nat} (h1 : k < A.length) (h2 : k < B.length) : prG A B (k + 1) = prG A B k ++ [(A[k], .str B[k])] := by
  unfold prG
  have hz : k < (A.zip (B.map D.str)).length := by rw [List.length_zip, List.length_map]; omega
  rw [List.take_succ, List.getElem?_eq_getElem hz]
  simp
theorem nd_at {A : List Str} (nd : A.Nodup) {i j : Nat} (hi : i < A.length) (hj : j < A.length) (e : A[i] = A[j]) : i = j := by
  have pw := List.pairwise_iff_getElem.1 (List.nodup_iff_pairwise_ne.1 nd)
  rcases Nat.lt_trichotomy i j with h | h | h
  · exact absurd e (pw i j hi hj h)
  · exact h
  · exact absurd e.symm (pw j i hj hi h)
theorem prG_new {A B : List Str} {k : Nat} (nd : A.Nodup) (h1 : k < A.length) (h2 : k ≤ B.length) : A[k] ∉ keyS (prG A B k) := by
  rw [prG_keys h2]
  intro hm
  obtain ⟨j, hj, e⟩ := List.getElem_of_mem hm
  have hj' : j < k := by simp at hj; omega
  rw [List.getElem_take] at e
  have := nd_at nd (by omega) h1 e
  omega
def mp (A B : List Str) (n : Nat) (z : Str) : Str := match getS (prG A B n) z with
  | .str w => w
  | _ => z
theorem mp_at {A B : List Str} {n : Nat} (nd : A.Nodup) {i : Nat} (hi : i < n) (hA : n ≤ A.length) (hB : n ≤ B.length) : A[i] ∈ keyS (prG A B n) ∧ getS (prG A B n) A[i] = .str B[i] ∧ mp A B n A[i] = B[i] := by
  have hk : A[i] ∈ keyS (prG A B n) := by
    rw [prG_keys hB, List.mem_take_iff_getElem]
    exact ⟨i, by omega, rfl⟩
  obtain ⟨_, m⟩ := getS_mem hk
  have m := List.mem_of_mem_take m
  obtain ⟨j, hj, e⟩ := List.getElem_of_mem m
  rw [List.length_zip, List.length_map] at hj
  rw [List.getElem_zip, List.getElem_map] at e
  have e1 : A[j] = A[i] := (Prod.ext_iff.1 e).1
  have e2 : D.str B[j] = getS (prG A B n) A[i] := (Prod.ext_iff.1 e).2
  have := nd_at nd (by omega) (by omega) e1
  subst this
  refine ⟨hk, e2.symm, ?_⟩
  unfold mp
  rw [← e2]
theorem mp_ren {A B : List Str} {n : Nat} (nA : A.Nodup) (nB : B.Nodup) (hA : n ≤ A.length) (hB : n ≤ B.length) : (∀ z ∈ A.take n, mp B A n (mp A B n z) = z) ∧ (∀ z ∈ A.take n, mp A B n z ∈ B.take n) ∧ Ren (kvS (prG A B n)) (A.take n) (mp A B n) := by
  have at' : ∀ z ∈ A.take n, ∃ (i : Nat) (hi : i < n), z = A[i]'(by omega) := fun z hz => by
    obtain ⟨i, hi, e⟩ := List.mem_take_iff_getElem.1 hz
    exact ⟨i, by omega, e.symm⟩
  have inv : ∀ z ∈ A.take n, mp B A n (mp A B n z) = z := fun z hz => by
    obtain ⟨i, hi, rfl⟩ := at' z hz
    rw [(mp_at nA hi hA hB).2.2, (mp_at nB hi hB hA).2.2]
  refine ⟨inv, fun z hz => ?_, fun z hz => ?_, fun y hy z hz e => by rw [← inv y hy, e, inv z hz]⟩
  · obtain ⟨i, hi, rfl⟩ := at' z hz
    rw [(mp_at nA hi hA hB).2.2, List.mem_take_iff_getElem]
    exact ⟨i, by omega, rfl⟩
  · obtain ⟨i, hi, rfl⟩ := at' z hz
    obtain ⟨h1, h2, h3⟩ := mp_at nA hi hA hB
    rw [gDGet_S h1, h2, h3]
def stM (s : Stp) : D := .dt [row s.claim, row s.aim, .ow (.lst (s.parts.map ptD))]
def stN (s : Stp) : D := .dt [row s.claim, row s.aim, .ow (.lst (s.parts.map ptD ++ [.int 0]))]
theorem deqKV_sub {P : List (Str × D)} (nd : (keyS P).Nodup) (st : ∀ p ∈ P, ∃ w, p.2 = .str w) : ∀ P' : List (Str × D), (∀ p ∈ P', p ∈ P) → deqKV (kvS P) (kvS P') = some true
  | [], _ => rfl
  | p :: P', h => by
    have hp := h p List.mem_cons_self
    have ih := deqKV_sub nd st P' fun q hq => h q (List.mem_cons_of_mem _ hq)
    have hk : p.1 ∈ keyS P := List.mem_map.2 ⟨p, hp, rfl⟩
    obtain ⟨a, b⟩ := getS_mem hk
    have e2 : getS P p.1 = p.2 := by
      have pw : ∀ {Q : List (Str × D)}, (keyS Q).Nodup → ∀ x ∈ Q, ∀ y ∈ Q, x.1 = y.1 → x = y := fun {Q} nq x hx y hy e => by
        obtain ⟨i, hi, rfl⟩ := List.getElem_of_mem hx
        obtain ⟨j, hj, rfl⟩ := List.getElem_of_mem hy
        have := nd_at nq (i := i) (j := j) (by simpa [keyS] using hi) (by simpa [keyS] using hj) (by simpa [keyS] using e)
        subst this; rfl
      have := pw nd _ b _ hp rfl
      exact (Prod.ext_iff.1 this).2
    have v := valD_kvS p.1 P
    rw [a, e2] at v
    obtain ⟨w, hw⟩ := st p hp
    have dq : deq p.2 p.2 = some true := deq_self (by rw [hw]; rfl)
    show deqKV (kvS P) ((Sum.inr p.1, p.2) :: kvS P') = _
    simp only [deqKV, v, dq, ih]
    rfl
theorem gNeD_self {P : List (Str × D)} (nd : (keyS P).Nodup) (st : ∀ p ∈ P, ∃ w, p.2 = .str w) : gNeD [.dK (kvS P), .dK (kvS P)] = some (.fz (.bl false)) := by
  have := deqKV_sub nd st P fun _ h => h
  simp only [gNeD, deqKVs, if_true, this]
  rfl
theorem law_b {N O : List Str} (nN : N.Nodup) (nO : O.Nodup) (k : Nat) (h1 : k < N.length) (h2 : k < O.length) (h9 : k < 100) (s0 s6 s7 s8 s9 s10 s11 s12 : Slot) : B_law_1 [s0, .v .fz (.lst (N.map .str)), .v .ow (.lst (O.map .str)), .v .ow (.dK (kvS (prG N O k))), .v .ow (.dK (kvS (prG O N k))), .v .fz (.int (k : Nat)), s6, s7, s8, s9, s10, s11, s12] =
    .next [s0, .v .fz (.lst (N.map .str)), .v .ow (.lst (O.map .str)), .v .ow (.dK (kvS (prG N O (k + 1)))), .v .ow (.dK (kvS (prG O N (k + 1)))), .v .fz (.int (k : Nat)), s6, s7, s8, s9, s10, s11, s12] := by
  have iN := gIx_nat (N.map .str) k (.str N[k]) (by rw [List.getElem?_map, List.getElem?_eq_getElem h1]; rfl)
  have iO := gIx_nat (O.map .str) k (.str O[k]) (by rw [List.getElem?_map, List.getElem?_eq_getElem h2]; rfl)
  have p1 := putD_S (P := prG N O k) (z := N[k]) (.str O[k]) (prG_new nN h1 (by omega))
  have p2 := putD_S (P := prG O N k) (z := O[k]) (.str N[k]) (prG_new nO h2 (by omega))
  rw [← prG_succ h1 h2] at p1
  rw [← prG_succ h2 h1] at p2
  have ln : ∀ A B : List Str, (kvS (prG A B k)).length < sizeLine := fun A B => small_lt' (by unfold kvS prG; rw [List.length_map, List.length_take]; omega)
  simp only [B_law_1, gPut, putD1, key1, dVar, dC, dPrim, dMake, dTup, dLst, mArgs, AR.bind, AR.thn, ER.bind, ER.thn, FR.bind, TR.bind, TR.thn, TR.thenE, rdVs, rdV, frzV, frzVs, frzD, dTst, dNotT, dAndT, dOrT, dNotV, dAndV, dOrV, dIfE, dSeq, dDrop, dRet, dIf, dSet, putV, putRaw, gNm, gLs, gEach, dAsg, dPar, dCall, callV, takeA, take1, fillR, putB, rdA, rdFl, retS, inS, outS, List.tail, runFn, gAdd, DX.gSub, gNeg, gAbs, gLen, gEq_int, gNe_int, gLt_int, gGt_int, gLe_int, gGe_int, gIsi, tyD, isiD, dPin, forget, List.set_cons_zero, List.set_cons_succ, List.getElem?_cons_zero, List.getElem?_cons_succ, List.length_cons, List.length_nil, List.replicate, List.cons_append, List.nil_append, Nat.reduceAdd, Nat.reduceSub, Option.bind_some, Option.map_some, if_true, Bool.false_eq_true, if_false, iN, iO, p1, p2, ln]
theorem law_true : ∀ ns : List Int, ns.length ≤ 63 → ∃ a, F_law [.scr ns] = .ok (.fz (.bl true)) a := by
  intro ns _
  obtain ⟨N0, e0, nd0, l0⟩ := law_names_is ns 1 7 (by decide)
  have e0 : F__law_names [.scr ns, .int 1, .int 7] = .ok (.tmp (.lst (N0.map .str))) [] := e0
  obtain ⟨O0, eO, ndO, lO⟩ := law_names_is ns 20 12 (by decide)
  have eO : F__law_names [.scr ns, .int 20, .int 12] = .ok (.tmp (.lst (O0.map .str))) [] := eO
  have h5' : 5 ≤ sizeLine := by simp [sizeLine]
  have ifN : ∃ N : List Str, N.Nodup ∧ 5 ≤ N.length ∧ N.length ≤ 50 ∧ ((dIf (dTst (dPrim gLt [(dPrim gLen [(dVar 1)]), (dC (.int 5))])) (dSet 1 (dMake dLst [(dC (.str "b")), (dC (.str "ab")), (dC (.str "a")), (dC (.str "zz")), (dC (.str "c"))])) (fun env => .next env))) [.v .fz (.scr ns), .v .ow (.lst (N0.map .str)), .un, .un, .un, .un, .un, .un, .un, .un, .un, .un, .un] = .next [.v .fz (.scr ns), .v .ow (.lst (N.map .str)), .un, .un, .un, .un, .un, .un, .un, .un, .un, .un, .un] := by
    by_cases h : N0.length < 5
    · have h' : (N0.length : Int) < 5 := by omega
      exact ⟨["b", "ab", "a", "zz", "c"], by decide, by decide, by decide, by simp [dVar, dC, dPrim, dMake, dTup, dLst, mArgs, AR.bind, AR.thn, ER.bind, ER.thn, FR.bind, TR.bind, TR.thn, TR.thenE, rdVs, rdV, frzV, frzVs, frzD, dTst, dNotT, dAndT, dOrT, dNotV, dAndV, dOrV, dIfE, dSeq, dDrop, dRet, dIf, dSet, putV, putRaw, gNm, gLs, gEach, dAsg, dPar, dCall, callV, takeA, take1, fillR, putB, rdA, rdFl, retS, inS, outS, List.tail, runFn, gAdd, DX.gSub, gNeg, gAbs, gLen, gEq_int, gNe_int, gLt_int, gGt_int, gLe_int, gGe_int, gIsi, tyD, isiD, dPin, forget, List.set_cons_zero, List.set_cons_succ, List.getElem?_cons_zero, List.getElem?_cons_succ, List.length_cons, List.length_nil, List.replicate, List.cons_append, List.nil_append, Nat.reduceAdd, Nat.reduceSub, Option.bind_some, Option.map_some, if_true, Bool.false_eq_true, if_false, h', h5', h]⟩
    · have h' : ¬ (N0.length : Int) < 5 := by omega
      exact ⟨N0, nd0, by omega, by omega, by simp [dVar, dC, dPrim, dMake, dTup, dLst, mArgs, AR.bind, AR.thn, ER.bind, ER.thn, FR.bind, TR.bind, TR.thn, TR.thenE, rdVs, rdV, frzV, frzVs, frzD, dTst, dNotT, dAndT, dOrT, dNotV, dAndV, dOrV, dIfE, dSeq, dDrop, dRet, dIf, dSet, putV, putRaw, gNm, gLs, gEach, dAsg, dPar, dCall, callV, takeA, take1, fillR, putB, rdA, rdFl, retS, inS, outS, List.tail, runFn, gAdd, DX.gSub, gNeg, gAbs, gLen, gEq_int, gNe_int, gLt_int, gGt_int, gLe_int, gGe_int, gIsi, tyD, isiD, dPin, forget, List.set_cons_zero, List.set_cons_succ, List.getElem?_cons_zero, List.getElem?_cons_succ, List.length_cons, List.length_nil, List.replicate, List.cons_append, List.nil_append, Nat.reduceAdd, Nat.reduceSub, Option.bind_some, Option.map_some, if_true, Bool.false_eq_true, if_false, h', h]⟩
  obtain ⟨N, nN, l5, l50, ifN⟩ := ifN
  have c1 := lcL_filter (t := gNm 12) (own := [12]) (tc := dTst (dPrim (gInDN true) [(dVar 12), (dVar 2)])) (me := K_law_1) (env := [.v .fz (.scr ns), .v .fz (.lst (N.map .str)), .v .ow (.lst (O0.map .str)), .un, .un, .un, .un, .un, .un, .un, .un, .un, .un]) D.str (fun z => !decide (z ∈ O0)) N (small_le (by omega)) fun z hz =>
    ⟨[.v .fz (.scr ns), .v .fz (.lst (N.map .str)), .v .ow (.lst (O0.map .str)), .un, .un, .un, .un, .un, .un, .un, .un, .un, .v .fz (.str z)], rfl, [.v .fz (.scr ns), .v .fz (.lst (N.map .str)), .v .ow (.lst (O0.map .str)), .un, .un, .un, .un, .un, .un, .un, .un, .un, .v .fz (.str z)], by simp only [dVar, dC, dPrim, dMake, dTup, dLst, mArgs, AR.bind, AR.thn, ER.bind, ER.thn, FR.bind, TR.bind, TR.thn, TR.thenE, rdVs, rdV, frzV, frzVs, frzD, dTst, dNotT, dAndT, dOrT, dNotV, dAndV, dOrV, dIfE, dSeq, dDrop, dRet, dIf, dSet, putV, putRaw, gNm, gLs, gEach, dAsg, dPar, dCall, callV, takeA, take1, fillR, putB, rdA, rdFl, retS, inS, outS, List.tail, runFn, gAdd, DX.gSub, gNeg, gAbs, gLen, gEq_int, gNe_int, gLt_int, gGt_int, gLe_int, gGe_int, gIsi, tyD, isiD, dPin, forget, List.set_cons_zero, List.set_cons_succ, List.getElem?_cons_zero, List.getElem?_cons_succ, List.length_cons, List.length_nil, List.replicate, List.cons_append, List.nil_append, Nat.reduceAdd, Nat.reduceSub, Option.bind_some, Option.map_some, if_true, Bool.false_eq_true, if_false, gIn_strs, if_true], rfl, .fz (.str z), _, _, rfl, rfl, rfl⟩
  have fl : (N.filter fun z => !decide (z ∈ O0)).length ≤ 50 := Nat.le_trans (List.length_filter_le _ _) l50
  have zO : (O0.map D.str).length + ((N.filter fun z => !decide (z ∈ O0)).map D.str).length ≤ sizeLine := small_le (by rw [List.length_map, List.length_map]; omega)
  have st3 : ((dSet 2 (dPrim gAdd [(dVar 2), (dLc (mIt itL (dVar 1)) (gNm 12) [12] (dTst (dPrim (gInDN true) [(dVar 12), (dVar 2)])) K_law_1)]))) [.v .fz (.scr ns), .v .ow (.lst (N.map .str)), .v .ow (.lst (O0.map .str)), .un, .un, .un, .un, .un, .un, .un, .un, .un, .un] = .next [.v .fz (.scr ns), .v .fz (.lst (N.map .str)), .v .ow (.lst ((O0 ++ N.filter fun z => !decide (z ∈ O0)).map .str)), .un, .un, .un, .un, .un, .un, .un, .un, .un, .un] := by
    simp only [dLc, mIt, itL, rdMode, dVar, dC, dPrim, dMake, dTup, dLst, mArgs, AR.bind, AR.thn, ER.bind, ER.thn, FR.bind, TR.bind, TR.thn, TR.thenE, rdVs, rdV, frzV, frzVs, frzD, dTst, dNotT, dAndT, dOrT, dNotV, dAndV, dOrV, dIfE, dSeq, dDrop, dRet, dIf, dSet, putV, putRaw, gNm, gLs, gEach, dAsg, dPar, dCall, callV, takeA, take1, fillR, putB, rdA, rdFl, retS, inS, outS, List.tail, runFn, gAdd, DX.gSub, gNeg, gAbs, gLen, gEq_int, gNe_int, gLt_int, gGt_int, gLe_int, gGe_int, gIsi, tyD, isiD, dPin, forget, List.set_cons_zero, List.set_cons_succ, List.getElem?_cons_zero, List.getElem?_cons_succ, List.length_cons, List.length_nil, List.replicate, List.cons_append, List.nil_append, Nat.reduceAdd, Nat.reduceSub, Option.bind_some, Option.map_some, if_true, Bool.false_eq_true, if_false, c1, zO, List.map_append]
  have nO : (O0 ++ N.filter fun z => !decide (z ∈ O0)).Nodup := by
    rw [List.nodup_append]
    refine ⟨ndO, nN.filter _, fun a ha b hb e => ?_⟩
    have := (List.mem_filter.1 hb).2
    subst e
    simp [ha] at this
  have sO : ∀ z ∈ N, z ∈ O0 ++ N.filter fun z => !decide (z ∈ O0) := fun z hz => by
    by_cases h : z ∈ O0
    · exact List.mem_append_left _ h
    · exact List.mem_append_right _ (List.mem_filter.2 ⟨hz, by simp [h]⟩)
  have lN := nodup_le nN sO
  have lO2 : (O0 ++ N.filter fun z => !decide (z ∈ O0)).length ≤ 62 := by rw [List.length_append]; omega
  generalize (O0 ++ N.filter fun z => !decide (z ∈ O0)) = O at *
  obtain ⟨e, r, s5, rfl⟩ := forRng (t := gNm 5) (dead := [5]) (body := B_law_1) (fun i e => ∃ s5, e = [.v .fz (.scr ns), .v .fz (.lst (N.map .str)), .v .ow (.lst (O.map .str)), .v .ow (.dK (kvS (prG N O i))), .v .ow (.dK (kvS (prG O N i))), s5, .un, .un, .un, .un, .un, .un, .un]) N.length
    [.v .fz (.scr ns), .v .fz (.lst (N.map .str)), .v .ow (.lst (O.map .str)), .v .ow (.dK (kvS (prG N O 0))), .v .ow (.dK (kvS (prG O N 0))), .un, .un, .un, .un, .un, .un, .un, .un] ⟨_, rfl⟩ (by
    rintro i e hi ⟨s5, rfl⟩
    exact ⟨[.v .fz (.scr ns), .v .fz (.lst (N.map .str)), .v .ow (.lst (O.map .str)), .v .ow (.dK (kvS (prG N O i))), .v .ow (.dK (kvS (prG O N i))), .v .fz (.int (i : Nat)), .un, .un, .un, .un, .un, .un, .un], _, rfl, .inl (law_b nN nO i hi (by omega) (by omega) _ _ _ _ _ _ _ _), _, rfl⟩)
  have rm := fun env => forR1_nat (n := N.length) (by omega) (gNm 5) [5] B_law_1 env
  simp only [forget, List.set_cons_succ, List.set_cons_zero] at r
  have k0 : ∀ A B : List Str, kvS (prG A B 0) = [] := fun A B => by simp [prG, kvS]
  simp only [k0] at r
  obtain ⟨inv, to, R⟩ := mp_ren nN nO (Nat.le_refl _) lN
  obtain ⟨inv2, to2, R2⟩ := mp_ren nO nN lN (Nat.le_refl _)
  rw [List.take_length] at inv to R to2
  obtain ⟨g, hg, lg, e1⟩ := ground_is nN l5 (by omega) ns 10 6 (by decide)
  have e1 : F__law_ground_by [.scr ns, .int 10, .lst (N.map .str), .int 6] = .ok (.tmp (.lst (g.map stD))) [] := e1
  have gR : ∀ s ∈ g, GoodR N s := fun s hs => good_of (hg s hs)
  have gl4 : ∀ s ∈ g, s.parts.length ≤ 1000 := fun s hs => by have := (gR s hs).len; omega
  have cp := copied_is g (by omega) gl4
  have rn := renamed_is (τ := mp O N N.length) R inv g gR (by omega)
  have du := law_due_is (τ := mp O N N.length) R inv g gR (by omega)
  have gR2 : ∀ s ∈ g.map (renS (mp N O N.length)), GoodR (O.take N.length) s := fun s hs => by
    obtain ⟨t, ht, rfl⟩ := List.mem_map.1 hs
    exact ren_good inv to (gR t ht)
  have bk : (g.map (renS (mp N O N.length))).map (renS (mp O N N.length)) = g := by
    rw [List.map_map]
    refine (List.map_congr_left fun s hs => ?_).trans (List.map_id g)
    exact ren_back inv (hg s hs) (gR s hs).claim
  have lm : (g.map (renS (mp N O N.length))).length ≤ 100 := by rw [List.length_map]; omega
  have rn2 := renamed_is (τ := mp N O N.length) R2 inv2 (g.map (renS (mp N O N.length))) gR2 lm
  rw [bk] at rn2
  have cpo := copied_own (g.map (renS (mp N O N.length))) (by omega) fun s hs => by have := (gR2 s hs).len; omega
  have gN4 : ∀ s ∈ g.map (renS (mp N O N.length)), s.parts.length ≤ 1000 := fun s hs => by have := (gR2 s hs).len; omega
  generalize g.map (renS (mp N O N.length)) = g2 at *
  have ne := gNe_sts g2
  have ne1 := gNe_sts g
  have eq1 := gEq_sts g
  have pl := plain_sts g2
  have pl1 := plain_sts g
  have plp : plainN 8 (.lst (g2.map stD)) = some (.lst (g2.map stD)) := rfl
  have plp1 : plainN 8 (.lst (g.map stD)) = some (.lst (g.map stD)) := rfl
  have kn := gNeD_self (P := prG N O N.length) (by rw [prG_keys lN, List.take_length]; exact nN) (fun p hp => by
    have := (List.of_mem_zip (List.mem_of_mem_take hp)).2
    obtain ⟨w, _, e⟩ := List.mem_map.1 this
    exact ⟨w, e.symm⟩)
  have gdi : gDict [.dK (kvS (prG N O N.length))] = some (.tmp (.dK (kvS (prG N O N.length)))) := rfl
  generalize kvS (prG N O N.length) = KB at *
  generalize kvS (prG O N N.length) = KT at *
  have fm := forO_map (j := 11) (dead := [11]) (body := B_law_2) (fin := finS 9) (un := unS 9) stM stN (E := [.v .fz (.scr ns), .v .fz (.lst (N.map .str)), .v .ow (.lst (O.map .str)), .v .ow (.dK KB), .v .ow (.dK KT), .un, .v .ow (.lst (g.map stD)), .v .ow (.lst (g.map stD)), .v .ow (.dK KB), .pin, .v .ow (.lst (g2.map stD)), .un, .un]) rfl rfl g2 [] fun s hs => by
    have zs : s.parts.length < sizeLine := small_lt' (by have := gN4 s hs; omega)
    simp only [List.set_cons_succ, List.set_cons_zero, stM, stN]
    simp [B_law_2, dVar, dC, dPrim, dMake, dTup, dLst, mArgs, AR.bind, AR.thn, ER.bind, ER.thn, FR.bind, TR.bind, TR.thn, TR.thenE, rdVs, rdV, frzV, frzVs, frzD, dTst, dNotT, dAndT, dOrT, dNotV, dAndV, dOrV, dIfE, dSeq, dDrop, dRet, dIf, dSet, putV, putRaw, gNm, gLs, gEach, dAsg, dPar, dCall, callV, takeA, take1, fillR, putB, rdA, rdFl, retS, inS, outS, List.tail, runFn, gAdd, DX.gSub, gNeg, gAbs, gLen, gEq_int, gNe_int, gLt_int, gGt_int, gLe_int, gGe_int, gIsi, tyD, isiD, dPin, forget, List.set_cons_zero, List.set_cons_succ, List.getElem?_cons_zero, List.getElem?_cons_succ, List.length_cons, List.length_nil, List.replicate, List.cons_append, List.nil_append, Nat.reduceAdd, Nat.reduceSub, Option.bind_some, Option.map_some, if_true, Bool.false_eq_true, if_false, dTupO, partVs, partV, slotP, dAppO, dAppIx, dLstO, dLcO, dPrimP, rdPs, rdP, atomD, vIxO, dPrimX, vArgs, eq_self, zs]
  have es : g2.map stO = g2.map fun x => D.ow (stM x) := rfl
  refine ⟨[], ?_⟩
  have st0 : inS sg_law [D.scr ns] ++ List.replicate (13 - sg_law.length) DX.Slot.un = [.v .fz (.scr ns), .un, .un, .un, .un, .un, .un, .un, .un, .un, .un, .un, .un] := rfl
  have st1 : ((dSet 1 (dCall sg__law_names F__law_names [(dVar 0), (dC (.int 1)), (dC (.int 7))]))) [.v .fz (.scr ns), .un, .un, .un, .un, .un, .un, .un, .un, .un, .un, .un, .un] = .next [.v .fz (.scr ns), .v .ow (.lst (N0.map .str)), .un, .un, .un, .un, .un, .un, .un, .un, .un, .un, .un] := by simp only [dVar, dC, dPrim, dMake, dTup, dLst, mArgs, AR.bind, AR.thn, ER.bind, ER.thn, FR.bind, TR.bind, TR.thn, TR.thenE, rdVs, rdV, frzV, frzVs, frzD, dTst, dNotT, dAndT, dOrT, dNotV, dAndV, dOrV, dIfE, dSeq, dDrop, dRet, dIf, dSet, putV, putRaw, gNm, gLs, gEach, dAsg, dPar, dCall, callV, takeA, take1, fillR, putB, rdA, rdFl, retS, inS, outS, List.tail, runFn, gAdd, DX.gSub, gNeg, gAbs, gLen, gEq_int, gNe_int, gLt_int, gGt_int, gLe_int, gGe_int, gIsi, tyD, isiD, dPin, forget, List.set_cons_zero, List.set_cons_succ, List.getElem?_cons_zero, List.getElem?_cons_succ, List.length_cons, List.length_nil, List.replicate, List.cons_append, List.nil_append, Nat.reduceAdd, Nat.reduceSub, Option.bind_some, Option.map_some, if_true, Bool.false_eq_true, if_false, e0]
  have st2 : ((dSet 2 (dCall sg__law_names F__law_names [(dVar 0), (dC (.int 20)), (dC (.int 12))]))) [.v .fz (.scr ns), .v .ow (.lst (N.map .str)), .un, .un, .un, .un, .un, .un, .un, .un, .un, .un, .un] = .next [.v .fz (.scr ns), .v .ow (.lst (N.map .str)), .v .ow (.lst (O0.map .str)), .un, .un, .un, .un, .un, .un, .un, .un, .un, .un] := by simp only [dVar, dC, dPrim, dMake, dTup, dLst, mArgs, AR.bind, AR.thn, ER.bind, ER.thn, FR.bind, TR.bind, TR.thn, TR.thenE, rdVs, rdV, frzV, frzVs, frzD, dTst, dNotT, dAndT, dOrT, dNotV, dAndV, dOrV, dIfE, dSeq, dDrop, dRet, dIf, dSet, putV, putRaw, gNm, gLs, gEach, dAsg, dPar, dCall, callV, takeA, take1, fillR, putB, rdA, rdFl, retS, inS, outS, List.tail, runFn, gAdd, DX.gSub, gNeg, gAbs, gLen, gEq_int, gNe_int, gLt_int, gGt_int, gLe_int, gGe_int, gIsi, tyD, isiD, dPin, forget, List.set_cons_zero, List.set_cons_succ, List.getElem?_cons_zero, List.getElem?_cons_succ, List.length_cons, List.length_nil, List.replicate, List.cons_append, List.nil_append, Nat.reduceAdd, Nat.reduceSub, Option.bind_some, Option.map_some, if_true, Bool.false_eq_true, if_false, eO]
  simp only [F_law, M_law, runFn, dSeq, FR.bind]
  rw [st0]
  simp only [st1, ifN, st2, st3]
  simp only [dForR1_eq, dNewK, dForO, dClrO, dVar, dC, dPrim, dMake, dTup, dLst, mArgs, AR.bind, AR.thn, ER.bind, ER.thn, FR.bind, TR.bind, TR.thn, TR.thenE, rdVs, rdV, frzV, frzVs, frzD, dTst, dNotT, dAndT, dOrT, dNotV, dAndV, dOrV, dIfE, dSeq, dDrop, dRet, dIf, dSet, putV, putRaw, gNm, gLs, gEach, dAsg, dPar, dCall, callV, takeA, take1, fillR, putB, rdA, rdFl, retS, inS, outS, List.tail, runFn, gAdd, DX.gSub, gNeg, gAbs, gLen, gEq_int, gNe_int, gLt_int, gGt_int, gLe_int, gGe_int, gIsi, tyD, isiD, dPin, forget, List.set_cons_zero, List.set_cons_succ, List.getElem?_cons_zero, List.getElem?_cons_succ, List.length_cons, List.length_nil, List.replicate, List.cons_append, List.nil_append, Nat.reduceAdd, Nat.reduceSub, Option.bind_some, Option.map_some, if_true, Bool.false_eq_true, if_false, dTupO, partVs, partV, slotP, dAppO, dAppIx, dLstO, dLcO, dPrimP, rdPs, rdP, atomD, vIxO, dPrimX, vArgs, eq_self, List.length_map, rm, r, e1, cp, gdi, rn, du, pl, plp, plp1, ne, ne1, kn, cpo, Bool.not_true]
  simp only [es, fm, finS, List.nil_append, dClrO, dVar, dC, dPrim, dMake, dTup, dLst, mArgs, AR.bind, AR.thn, ER.bind, ER.thn, FR.bind, TR.bind, TR.thn, TR.thenE, rdVs, rdV, frzV, frzVs, frzD, dTst, dNotT, dAndT, dOrT, dNotV, dAndV, dOrV, dIfE, dSeq, dDrop, dRet, dIf, dSet, putV, putRaw, gNm, gLs, gEach, dAsg, dPar, dCall, callV, takeA, take1, fillR, putB, rdA, rdFl, retS, inS, outS, List.tail, runFn, gAdd, DX.gSub, gNeg, gAbs, gLen, gEq_int, gNe_int, gLt_int, gGt_int, gLe_int, gGe_int, gIsi, tyD, isiD, dPin, forget, List.set_cons_zero, List.set_cons_succ, List.getElem?_cons_zero, List.getElem?_cons_succ, List.length_cons, List.length_nil, List.replicate, List.cons_append, List.nil_append, Nat.reduceAdd, Nat.reduceSub, Option.bind_some, Option.map_some, if_true, Bool.false_eq_true, if_false, dTupO, partVs, partV, slotP, dAppO, dAppIx, dLstO, dLcO, dPrimP, rdPs, rdP, atomD, vIxO, dPrimX, vArgs, eq_self, rn2, pl1, plp1, eq1]
end K46


open PySem PySem.W PyProof.Rows
set_option maxRecDepth 100000 in
set_option maxHeartbeats 0 in
theorem PySem.Challenge.cw_linesaid_k46_renamed_holds : PySem.Challenge.rw_linesaid_k46_renamed.Holds := by
  w_on; o_law; k_head; (case hw => w_witness2)
  k_fill
  refine DX.law_walk (l := PySem.Challenge.rw_linesaid_k46_renamed) (x := "_law_script") (fn := K46.F_law) (k := 4) rfl rfl ⟨rfl, by decide, by decide⟩ (fun w h Y => PySem.W.kIn_of Y) K46.law_true ?F
  case F =>
    intro w mg fa h KX G hmg
    refine' K46.all_mk _ KX G hmg ?a0 ?l0 ?c0 ?k0 ?a1 ?l1 ?c1 ?k1 ?a2 ?l2 ?c2 ?k2 ?a3 ?l3 ?c3 ?k3 ?a4 ?l4 ?c4 ?k4 ?a5 ?l5 ?c5 ?k5 ?a6 ?l6 ?c6 ?k6 ?a7 ?l7 ?c7 ?k7 ?a8 ?l8 ?c8 ?k8 ?a9 ?l9 ?c9 ?k9 ?a10 ?l10 ?c10 ?k10 ?a11 ?l11 ?c11 ?k11 ?a12 ?l12 ?c12 ?k12 ?a13 ?l13 ?c13 ?k13 ?a14 ?l14 ?c14 ?k14 ?a15 ?l15 ?c15 ?k15 ?z_abs ?z_dict ?z_isinstance ?z_len ?z_list ?z_max ?z_min ?z_range ?z_sorted ?z_tuple
    (case a0 => k_is)
    (case l0 => k_is)
    (case c0 => k_is)
    (case k0 => k_is)
    (case a1 => k_is)
    (case l1 => k_is)
    (case c1 => k_is)
    (case k1 => k_is)
    (case a2 => k_is)
    (case l2 => k_is)
    (case c2 => k_is)
    (case k2 => k_is)
    (case a3 => k_is)
    (case l3 => k_is)
    (case c3 => k_is)
    (case k3 => k_is)
    (case a4 => k_is)
    (case l4 => k_is)
    (case c4 => k_is)
    (case k4 => k_is)
    (case a5 => k_is)
    (case l5 => k_is)
    (case c5 => k_is)
    (case k5 => k_is)
    (case a6 => k_is)
    (case l6 => k_is)
    (case c6 => k_is)
    (case k6 => k_is)
    (case a7 => k_is)
    (case l7 => k_is)
    (case c7 => k_is)
    (case k7 => k_is)
    (case a8 => k_is)
    (case l8 => k_is)
    (case c8 => k_is)
    (case k8 => k_is)
    (case a9 => k_is)
    (case l9 => k_is)
    (case c9 => k_is)
    (case k9 => k_is)
    (case a10 => k_is)
    (case l10 => k_is)
    (case c10 => k_is)
    (case k10 => k_is)
    (case a11 => k_is)
    (case l11 => k_is)
    (case c11 => k_is)
    (case k11 => k_is)
    (case a12 => k_is)
    (case l12 => k_is)
    (case c12 => k_is)
    (case k12 => k_is)
    (case a13 => k_is)
    (case l13 => k_is)
    (case c13 => k_is)
    (case k13 => k_is)
    (case a14 => k_is)
    (case l14 => k_is)
    (case c14 => k_is)
    (case k14 => k_is)
    (case a15 => k_is)
    (case l15 => k_is)
    (case c15 => k_is)
    (case k15 => k_is)
    (case z_abs => k_is)
    (case z_dict => k_is)
    (case z_isinstance => k_is)
    (case z_len => k_is)
    (case z_list => k_is)
    (case z_max => k_is)
    (case z_min => k_is)
    (case z_range => k_is)
    (case z_sorted => k_is)
    (case z_tuple => k_is)
