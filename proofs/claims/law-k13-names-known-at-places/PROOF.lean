import PyProof.Rows.All
import Wide.All
import OpenK.AllK
import Wide.FinOn
import HandS.ForMost
import HandS.More
import HandS.TupAny
import HandS.TupLe
import HandS.Deep
import HandS.IsInst
import HandS.Walk
import HandS.SortKw
import HandS.Small
import HandS.Style
import HandS.Conv
import HandS.Flow
import HandS.TryOnly
import HandS.Defaults
import HandS.HeadHook2
import HandS.HeadEnd
import HandS.SortInts
import HandS.RaiseMore
import KE.KDictPairs
import KE.DatumOrd
import HandS.TupSets
import HandS.SetTxt0
import HandS.Zip
import HandS.Rev
import KE.KStateDown
import Lean
import HandS.WordsExc
import HandS.Head0
import HandS.Head1
import HandS.Head2
import HandS.HeadHook1
import PyProof.Rows.RegStrFacts
import PyProof.StrLawsRepr
import PySem.Challenge.RW_noteboard_k13_names_known_at_places
set_option Elab.async false
set_option linter.all false
set_option maxRecDepth 100000
set_option autoImplicit false
set_option maxHeartbeats 0
/-! Nb1: data, the store of changeable objects, how a state bears them -/
namespace Nb
open PySem PySem.Spec PyProof.Rows L2

/-- a value: what never changes is told whole (frz: a list that is only read), what may change stands in the store at a number -/
inductive D where
  | non | bl (b : Bool) | int (i : Int) | str (x : Str) | tup (ds : List D) | frz (ds : List D) | ref (n : Nat)
/-- an object that may change: a list, a dict (int and text keys) -/
inductive MO where
  | lst (ds : List D) | dct (kvs : List (Key × D))
abbrev Mm := List MO
/-- what an expression gives: a value, or a list that nobody else knows yet -/
inductive Out where
  | val (d : D) | tmp (ds : List D)

/-- a list that is only read -/
def SqF (K : PySem.W.Frag) (H : Hp) (a : Addr) (vs : List V) : Prop := (∃ o, H a = some (.frz o (.lst vs))) ∨ SqL K (fun _ => none) a vs
theorem SqF.sqL {K : PySem.W.Frag} {H : Hp} {a : Addr} {vs : List V} (h : SqF K H a vs) : SqL K H a vs := by
  rcases h with ⟨o, h⟩ | (h | h)
  · exact .inl (.inr ⟨o, h⟩)
  · rcases h with h | ⟨o, h⟩ <;> cases h
  · exact .inr h
/-- a tuple, known to its object -/
def tupO (its : Array Value) (n : Nat) : Obj := { cls := .type "tuple", data := .seq its n }
def FT (K : PySem.W.Frag) (H : Hp) (a : Addr) (vs : List V) : Prop := (∃ its n, H a = some (.frz (tupO its n) (.tup vs))) ∨
  ∃ its n, K.lookup a = some (tupO its n) ∧ its.size ≤ sizeLine ∧ Vals vs its.toList
theorem FT.sqT {K : PySem.W.Frag} {H : Hp} {a : Addr} {vs : List V} (h : FT K H a vs) : SqT K H a vs := by
  rcases h with ⟨its, n, h⟩ | ⟨its, n, h1, h2, h3⟩
  · exact .inl (.inr ⟨_, h⟩)
  · exact .inr ⟨_, its, n, h1, rfl, rfl, h2, h3⟩
/-- what stands for ever -/
def Fx (H : Hp) (a : Addr) : Prop := ∃ o u, H a = some (.frz o u)
mutual
inductive Rep (K : PySem.W.Frag) (mu : List Addr) (H : Hp) : D → V → Prop
  | non : Rep K mu H .non .non
  | bl (b : Bool) : Rep K mu H (.bl b) (.bl b)
  | int (i : Int) : Rep K mu H (.int i) (.int i)
  | str (x : Str) : Rep K mu H (.str x) (.str x)
  | tup {a : Addr} {vs : List V} {ds : List D} : FT K H a vs → RepL K mu H ds vs → Rep K mu H (.tup ds) (.ref a)
  | frz {a : Addr} {vs : List V} {ds : List D} : SqF K H a vs → RepL K mu H ds vs → Rep K mu H (.frz ds) (.ref a)
  | ref {n : Nat} {a : Addr} : mu[n]? = some a → Rep K mu H (.ref n) (.ref a)
inductive RepL (K : PySem.W.Frag) (mu : List Addr) (H : Hp) : List D → List V → Prop
  | nil : RepL K mu H [] []
  | cons {d : D} {ds : List D} {v : V} {vs : List V} : Rep K mu H d v → RepL K mu H ds vs → RepL K mu H (d :: ds) (v :: vs)
end
inductive RepKV (K : PySem.W.Frag) (mu : List Addr) (H : Hp) : List (Key × D) → List (Key × V) → Prop
  | nil : RepKV K mu H [] []
  | cons {k : Key} {d : D} {ds : List (Key × D)} {v : V} {vs : List (Key × V)} : Rep K mu H d v → RepKV K mu H ds vs → RepKV K mu H ((k, d) :: ds) ((k, v) :: vs)

/-- an object of the store stands at an address -/
def MRep (K : PySem.W.Frag) (mu : List Addr) (H : Hp) (a : Addr) : MO → Prop
  | .lst ds => ∃ vs, H a = some (.lst vs) ∧ RepL K mu H ds vs
  | .dct kvs => ∃ vs, H a = some (.dK vs) ∧ RepKV K mu H kvs vs
structure SR (K : PySem.W.Frag) (mu : List Addr) (m : Mm) (H : Hp) : Prop where
  len : mu.length = m.length
  nd : mu.Nodup
  at_ : ∀ (n : Nat) (o : MO) (a : Addr), m[n]? = some o → mu[n]? = some a → MRep K mu H a o
/-- what may come of a heap: the store's objects may have changed, new ones come, all else stands -/
structure Nxt (mu : List Addr) (H : Hp) (mu' : List Addr) (H' : Hp) : Prop where
  pre : mu <+: mu'
  new : ∀ a ∈ mu', a ∈ mu ∨ H a = none
  keep : ∀ a o, H a = some o → a ∉ mu → H' a = some o
  there : ∀ a, H a ≠ none → H' a ≠ none
  notup : ∀ a ∈ mu', ¬ Fx H' a

section
variable {K : PySem.W.Frag} {mu mu' mu'' : List Addr} {H H' H'' : Hp} {m m' : Mm}
theorem MRep.notup {a : Addr} {o : MO} (q : MRep K mu H a o) : ¬ Fx H a := by
  intro hr
  cases o with
  | lst ds =>
    obtain ⟨ws, h1, _⟩ := q
    obtain ⟨o, u, hr⟩ := hr
    rw [h1] at hr
    cases hr
  | dct kvs =>
    obtain ⟨ws, h1, _⟩ := q
    obtain ⟨o, u, hr⟩ := hr
    rw [h1] at hr
    cases hr
theorem SR.notup (S : SR K mu m H) : ∀ a ∈ mu, ¬ Fx H a := by
  intro a ha
  obtain ⟨n, hn⟩ := List.getElem?_of_mem ha
  have hl : n < m.length := by
    rw [← S.len]
    exact (List.getElem?_eq_some_iff.mp hn).1
  exact (S.at_ n m[n] a (List.getElem?_eq_getElem hl) hn).notup
theorem SR.trk (S : SR K mu m H) : ∀ a ∈ mu, H a ≠ none := by
  intro a ha hn
  obtain ⟨n, hn'⟩ := List.getElem?_of_mem ha
  have hl : n < m.length := by
    rw [← S.len]
    exact (List.getElem?_eq_some_iff.mp hn').1
  have q := S.at_ n m[n] a (List.getElem?_eq_getElem hl) hn'
  cases e : m[n] with
  | lst ds =>
    rw [e] at q
    obtain ⟨ws, h1, _⟩ := q
    rw [hn] at h1
    cases h1
  | dct kvs =>
    rw [e] at q
    obtain ⟨ws, h1, _⟩ := q
    rw [hn] at h1
    cases h1
theorem Nxt.refl (S : SR K mu m H) : Nxt mu H mu H := ⟨List.prefix_refl _, fun a h => .inl h, fun _ _ e _ => e, fun _ h => h, S.notup⟩
theorem Nxt.trans (N : Nxt mu H mu' H') (M : Nxt mu' H' mu'' H'') : Nxt mu H mu'' H'' where
  pre := N.pre.trans M.pre
  new := fun a ha => by
    rcases M.new a ha with h | h
    · exact N.new a h
    · refine .inr (Classical.byContradiction fun q => N.there a q h)
  keep := fun a o e hn => by
    have e' := N.keep a o e hn
    refine M.keep a o e' fun hm => ?_
    rcases N.new a hm with h | h
    · exact hn h
    · rw [h] at e
      cases e
  there := fun a h => M.there a (N.there a h)
  notup := M.notup
theorem Nxt.ft (N : Nxt mu H mu' H') (hn : ∀ a ∈ mu, ¬ Fx H a) {a : Addr} {vs : List V} (h : FT K H a vs) : FT K H' a vs := by
  rcases h with ⟨its, n, h⟩ | h
  · exact .inl ⟨its, n, N.keep a _ h fun hm => hn a hm ⟨_, _, h⟩⟩
  · exact .inr h
theorem Nxt.sqF (N : Nxt mu H mu' H') (hn : ∀ a ∈ mu, ¬ Fx H a) {a : Addr} {vs : List V} (h : SqF K H a vs) : SqF K H' a vs := by
  rcases h with ⟨o, h⟩ | h
  · exact .inl ⟨o, N.keep a _ h fun hm => hn a hm ⟨o, _, h⟩⟩
  · exact .inr h
theorem pre_get {l l' : List Addr} (h : l <+: l') {n : Nat} {a : Addr} (e : l[n]? = some a) : l'[n]? = some a := by
  obtain ⟨t, rfl⟩ := h
  rw [List.getElem?_append_left (List.getElem?_eq_some_iff.mp e).1]
  exact e
mutual
theorem Rep.mono (hm : ∀ (n : Nat) (a : Addr), mu[n]? = some a → mu'[n]? = some a) (ht : ∀ (a : Addr) (vs : List V), FT K H a vs → FT K H' a vs) (hf : ∀ (a : Addr) (vs : List V), SqF K H a vs → SqF K H' a vs) : ∀ {d : D} {v : V}, Rep K mu H d v → Rep K mu' H' d v
  | _, _, .non => .non
  | _, _, .bl b => .bl b
  | _, _, .int i => .int i
  | _, _, .str x => .str x
  | _, _, .tup h1 h2 => .tup (ht _ _ h1) (RepL.mono hm ht hf h2)
  | _, _, .frz h1 h2 => .frz (hf _ _ h1) (RepL.mono hm ht hf h2)
  | _, _, .ref h => .ref (hm _ _ h)
theorem RepL.mono (hm : ∀ (n : Nat) (a : Addr), mu[n]? = some a → mu'[n]? = some a) (ht : ∀ (a : Addr) (vs : List V), FT K H a vs → FT K H' a vs) (hf : ∀ (a : Addr) (vs : List V), SqF K H a vs → SqF K H' a vs) : ∀ {ds : List D} {vs : List V}, RepL K mu H ds vs → RepL K mu' H' ds vs
  | _, _, .nil => .nil
  | _, _, .cons h1 h2 => .cons (Rep.mono hm ht hf h1) (RepL.mono hm ht hf h2)
end
theorem RepKV.mono (hm : ∀ (n : Nat) (a : Addr), mu[n]? = some a → mu'[n]? = some a) (ht : ∀ (a : Addr) (vs : List V), FT K H a vs → FT K H' a vs) (hf : ∀ (a : Addr) (vs : List V), SqF K H a vs → SqF K H' a vs) : ∀ {ds : List (Key × D)} {vs : List (Key × V)}, RepKV K mu H ds vs → RepKV K mu' H' ds vs
  | _, _, .nil => .nil
  | _, _, .cons h1 h2 => .cons (h1.mono hm ht hf) (RepKV.mono hm ht hf h2)
theorem Rep.nxt (N : Nxt mu H mu' H') (hn : ∀ a ∈ mu, ¬ Fx H a) {d : D} {v : V} (h : Rep K mu H d v) : Rep K mu' H' d v := h.mono (fun _ _ e => pre_get N.pre e) (fun _ _ e => N.ft hn e) fun _ _ e => N.sqF hn e
theorem RepL.nxt (N : Nxt mu H mu' H') (hn : ∀ a ∈ mu, ¬ Fx H a) {d : List D} {v : List V} (h : RepL K mu H d v) : RepL K mu' H' d v := h.mono (fun _ _ e => pre_get N.pre e) (fun _ _ e => N.ft hn e) fun _ _ e => N.sqF hn e
theorem RepKV.nxt (N : Nxt mu H mu' H') (hn : ∀ a ∈ mu, ¬ Fx H a) {d : List (Key × D)} {v : List (Key × V)} (h : RepKV K mu H d v) : RepKV K mu' H' d v := h.mono (fun _ _ e => pre_get N.pre e) (fun _ _ e => N.ft hn e) fun _ _ e => N.sqF hn e

theorem RepL.length : ∀ {ds : List D} {vs : List V}, RepL K mu H ds vs → ds.length = vs.length
  | _, _, .nil => rfl
  | _, _, .cons _ h => by
    rw [List.length_cons, List.length_cons, RepL.length h]
theorem RepL.append : ∀ {ds es : List D} {vs us : List V}, RepL K mu H ds vs → RepL K mu H es us → RepL K mu H (ds ++ es) (vs ++ us)
  | _, _, _, _, .nil, h => h
  | _, _, _, _, .cons h1 h2, h => .cons h1 (RepL.append h2 h)
theorem RepL.get {d : D} {ds : List D} : ∀ {vs : List V} {i : Nat}, RepL K mu H ds vs → ds[i]? = some d → ∃ v, vs[i]? = some v ∧ Rep K mu H d v := by
  induction ds with
  | nil =>
    intro vs i h e
    simp at e
  | cons d0 ds ih =>
    intro vs i h e
    cases h with
    | cons h1 h2 =>
      cases i with
      | zero =>
        have e : d0 = d := by simpa using e
        subst e
        exact ⟨_, rfl, h1⟩
      | succ i =>
        obtain ⟨v, q1, q2⟩ := ih (i := i) h2 (by simpa using e)
        exact ⟨v, by simpa using q1, q2⟩
theorem RepL.get' {v : V} {ds : List D} : ∀ {vs : List V} {i : Nat}, RepL K mu H ds vs → vs[i]? = some v → ∃ d, ds[i]? = some d ∧ Rep K mu H d v := by
  induction ds with
  | nil =>
    intro vs i h e
    cases h
    simp at e
  | cons d0 ds ih =>
    intro vs i h e
    cases h with
    | cons h1 h2 =>
      cases i with
      | zero =>
        rw [List.getElem?_cons_zero] at e
        have e := Option.some.inj e
        subst e
        exact ⟨d0, rfl, h1⟩
      | succ i =>
        obtain ⟨d, q1, q2⟩ := ih (i := i) h2 (by simpa using e)
        exact ⟨d, by simpa using q1, q2⟩
theorem RepL.take : ∀ {ds : List D} {vs : List V} (n : Nat), RepL K mu H ds vs → RepL K mu H (ds.take n) (vs.take n)
  | _, _, 0, _ => .nil
  | _, _, _ + 1, .nil => .nil
  | _, _, n + 1, .cons h1 h2 => .cons h1 (RepL.take n h2)
theorem RepL.drop : ∀ {ds : List D} {vs : List V} (n : Nat), RepL K mu H ds vs → RepL K mu H (ds.drop n) (vs.drop n)
  | _, _, 0, h => h
  | _, _, _ + 1, .nil => .nil
  | _, _, n + 1, .cons _ h2 => RepL.drop n h2
theorem RepL.set : ∀ {ds : List D} {vs : List V} {d : D} {v : V} (i : Nat), RepL K mu H ds vs → Rep K mu H d v → RepL K mu H (ds.set i d) (vs.set i v)
  | _, _, _, _, _, .nil, _ => .nil
  | _, _, _, _, 0, .cons _ t, h => .cons h t
  | _, _, _, _, i + 1, .cons q t, h => .cons q (RepL.set i t h)
/-- like for the same heap and addresses: new addresses at the end -/
theorem SR.get (S : SR K mu m H) {n : Nat} {o : MO} (e : m[n]? = some o) : ∃ a, mu[n]? = some a ∧ MRep K mu H a o := by
  have hl : n < mu.length := by
    rw [S.len]
    exact (List.getElem?_eq_some_iff.mp e).1
  exact ⟨mu[n], List.getElem?_eq_getElem hl, S.at_ n o _ e (List.getElem?_eq_getElem hl)⟩
/-- the heap grows by something that is not of the store -/
theorem Nxt.laid (S : SR K mu m H) {p : Addr} {o : HO} (hp : H p = none) : Nxt mu H mu (upd H p o) where
  pre := List.prefix_refl _
  new := fun a h => .inl h
  keep := fun a u e _ => by
    rw [upd_ne (ne_of_none e hp)]
    exact e
  there := fun a h => by
    by_cases e : a = p
    · rw [e, upd_same]
      simp
    · rw [upd_ne e]
      exact h
  notup := fun a ha hr => by
    have hne : a ≠ p := fun e => S.trk a ha (e ▸ hp)
    refine S.notup a ha ?_
    unfold Fx at hr ⊢
    rw [upd_ne hne] at hr
    exact hr
theorem MRep.mono (hm : ∀ (n : Nat) (a : Addr), mu[n]? = some a → mu'[n]? = some a) (ht : ∀ (a : Addr) (vs : List V), FT K H a vs → FT K H' a vs) (hf : ∀ (a : Addr) (vs : List V), SqF K H a vs → SqF K H' a vs) {a : Addr} {o : MO} (e : H' a = H a) (h : MRep K mu H a o) : MRep K mu' H' a o := by
  cases o with
  | lst ds =>
    obtain ⟨vs, h1, h2⟩ := h
    exact ⟨vs, e.trans h1, h2.mono hm ht hf⟩
  | dct kvs =>
    obtain ⟨vs, h1, h2⟩ := h
    exact ⟨vs, e.trans h1, h2.mono hm ht hf⟩
theorem MRep.trk {a : Addr} {o : MO} (h : MRep K mu H a o) : H a ≠ none := by
  intro hn
  cases o with
  | lst ds =>
    obtain ⟨ws, h1, _⟩ := h
    rw [hn] at h1
    cases h1
  | dct kvs =>
    obtain ⟨ws, h1, _⟩ := h
    rw [hn] at h1
    cases h1
theorem SR.laid (S : SR K mu m H) {p : Addr} {o : HO} (hp : H p = none) : SR K mu m (upd H p o) where
  len := S.len
  nd := S.nd
  at_ := fun n ob a e1 e2 => by
    have hne : a ≠ p := fun e => S.trk a (List.mem_of_getElem? e2) (e ▸ hp)
    exact (S.at_ n ob a e1 e2).mono (fun _ _ e => e) (fun _ _ e => (Nxt.laid S hp).ft S.notup e) (fun _ _ e => (Nxt.laid S hp).sqF S.notup e) (upd_ne hne)
/-- a list that nobody knows joins the store -/
theorem SR.join (S : SR K mu m H) {p : Addr} {o : MO} (hp : p ∉ mu) (h : MRep K mu H p o) : SR K (mu ++ [p]) (m ++ [o]) H where
  len := by
    rw [List.length_append, List.length_append, S.len]
    rfl
  nd := by
    refine List.nodup_append.mpr ⟨S.nd, by simp, fun a ha b hb e => ?_⟩
    rw [List.mem_singleton.mp hb] at e
    exact hp (e ▸ ha)
  at_ := fun n ob a e1 e2 => by
    have up : ∀ (n : Nat) (a : Addr), mu[n]? = some a → (mu ++ [p])[n]? = some a := fun n a e => pre_get (List.prefix_append _ _) e
    by_cases hl : n < m.length
    · rw [List.getElem?_append_left hl] at e1
      rw [List.getElem?_append_left (by rw [S.len]; exact hl)] at e2
      exact (S.at_ n ob a e1 e2).mono up (fun _ _ e => e) (fun _ _ e => e) rfl
    · rw [List.getElem?_append_right (by omega)] at e1
      rw [List.getElem?_append_right (by rw [S.len]; omega), S.len] at e2
      have z : n - m.length = 0 := by
        have := (List.getElem?_eq_some_iff.mp e1).1
        simp at this
        omega
      rw [z] at e1 e2
      have e1 : o = ob := Option.some.inj e1
      have e2 : p = a := Option.some.inj e2
      subst e1
      subst e2
      exact h.mono up (fun _ _ e => e) (fun _ _ e => e) rfl
theorem Nxt.join (N : Nxt mu H mu' H') (S : SR K mu' m H') {p : Addr} {o : MO} (h0 : H p = none) (h : MRep K mu' H' p o) : Nxt mu H (mu' ++ [p]) H' where
  pre := N.pre.trans (List.prefix_append _ _)
  new := fun a ha => by
    rcases List.mem_append.mp ha with q | q
    · exact N.new a q
    · rw [List.mem_singleton.mp q]
      exact .inr h0
  keep := N.keep
  there := N.there
  notup := fun a ha => by
    rcases List.mem_append.mp ha with q | q
    · exact N.notup a q
    · rw [List.mem_singleton.mp q]
      exact h.notup
/-- an object of the store changes -/
theorem Nxt.write (S : SR K mu m H) {n : Nat} {a : Addr} {ho : HO} (e : mu[n]? = some a) (hf : ∀ o u, ho ≠ .frz o u) : Nxt mu H mu (upd H a ho) where
  pre := List.prefix_refl _
  new := fun a h => .inl h
  keep := fun b u q hb => by
    rw [upd_ne (fun z => hb (by rw [z]; exact List.mem_of_getElem? e))]
    exact q
  there := fun b h => by
    by_cases z : b = a
    · rw [z, upd_same]
      simp
    · rw [upd_ne z]
      exact h
  notup := fun b hb hr => by
    by_cases z : b = a
    · subst z
      obtain ⟨o', u, hr⟩ := hr
      rw [upd_same] at hr
      exact hf o' u (Option.some.inj hr)
    · refine S.notup b hb ?_
      unfold Fx at hr ⊢
      rw [upd_ne z] at hr
      exact hr
theorem SR.write (S : SR K mu m H) {n : Nat} {a : Addr} {ho : HO} {o : MO} (e : mu[n]? = some a) (hf : ∀ o u, ho ≠ .frz o u) (h : MRep K mu (upd H a ho) a o) : SR K mu (m.set n o) (upd H a ho) where
  len := by
    rw [List.length_set]
    exact S.len
  nd := S.nd
  at_ := fun k ob b e1 e2 => by
    by_cases z : k = n
    · subst z
      rw [e] at e2
      have e2 : a = b := Option.some.inj e2
      subst e2
      have hl : k < m.length := by
        rw [← S.len]
        exact (List.getElem?_eq_some_iff.mp e).1
      rw [List.getElem?_set_self hl] at e1
      have e1 : o = ob := Option.some.inj e1
      subst e1
      exact h
    · rw [List.getElem?_set_ne (Ne.symm z)] at e1
      have hne : b ≠ a := fun q => by
        subst q
        exact z ((List.getElem?_inj (List.getElem?_eq_some_iff.mp e2).1 S.nd).mp (e2.trans e.symm))
      exact (S.at_ k ob b e1 e2).mono (fun _ _ q => q) (fun _ _ q => (Nxt.write S e hf).ft S.notup q) (fun _ _ q => (Nxt.write S e hf).sqF S.notup q) (upd_ne hne)

/-- what an expression gave stands there: p, where a new list stands, was free at H0 -/
def OR (K : PySem.W.Frag) (H0 : Hp) (mu : List Addr) (H : Hp) : Out → V → Prop
  | .val d, v => Rep K mu H d v
  | .tmp ds, v => ∃ p vs, v = .ref p ∧ H p = some (.lst vs) ∧ RepL K mu H ds vs ∧ p ∉ mu ∧ H0 p = none
theorem OR.nxt {H0 : Hp} {o : Out} {v : V} (N : Nxt mu H mu' H') (hn : ∀ a ∈ mu, ¬ Fx H a) (h : OR K H0 mu H o v) : OR K H0 mu' H' o v := by
  cases o with
  | val d => exact Rep.nxt N hn h
  | tmp ds =>
    obtain ⟨p, vs, e, hp, hr, hm, h0⟩ := h
    refine ⟨p, vs, e, N.keep p _ hp hm, hr.nxt N hn, fun q => ?_, h0⟩
    rcases N.new p q with z | z
    · exact hm z
    · rw [z] at hp
      cases hp
theorem OR.base {H0 H1 : Hp} {o : Out} {v : V} (hb : ∀ a, H0 a ≠ none → H1 a ≠ none) (h : OR K H1 mu H o v) : OR K H0 mu H o v := by
  cases o with
  | val d => exact h
  | tmp ds =>
    obtain ⟨p, vs, e, hp, hr, hm, h0⟩ := h
    exact ⟨p, vs, e, hp, hr, hm, Classical.byContradiction fun z => hb p z h0⟩
/-- a new tuple -/
theorem FT.new {p : Addr} {its : Array Value} {n : Nat} {vs : List V} : FT K (upd H p (.frz (tupO its n) (.tup vs))) p vs := .inl ⟨its, n, upd_same⟩
end
section
variable {X : Cx} {pins : List (Addr × Obj)} {σ : L2.St} {H : Hp} {s : Shared} {h' : Heap} {its : List Value} {vs : List V}
theorem tup_ok {P : Program} {w : World} {H : Hp} {h : Heap} (r : Vals vs its) (hz : vs.length ≤ sizeLine) (p : Addr) (e : h.get? p = some (tupO its.toArray 0)) : ObjOk P w H h p (.frz (tupO its.toArray 0) (.tup vs)) :=
  ⟨e, hz, its, r, _, e, rfl, _, rfl⟩
/-- a new tuple is laid -/
theorem tup_laid (I : Inv X pins σ H { s with heap := h' }) (r : Vals vs its) (hz : vs.length ≤ sizeLine) :
    Inv X pins σ (upd H h'.objs.size (.frz (tupO its.toArray 0) (.tup vs))) { s with heap := h'.push (tupO its.toArray 0) } :=
  I.laid (t' := s.toks) (fun b u e => Heap.get?_push_of_some _ e) (Nat.le_refl _) (tup_ok r hz _ (Heap.get?_push_size _ rfl))
abbrev NewT (H : Hp) (Q : VK) (vs : List V) : Prop := ∀ p its n, H p = none → Q (.ref p) (upd H p (.frz (tupO its n) (.tup vs)))
variable {es : List Expr} {t : TA} {pos : Pos}
theorem pe_tupF {x1} (h : PA X es t) : PE X (.Tuple es x1 pos) (fun σ H Q => t σ H fun xs H1 => xs.length ≤ sizeLine ∧ NewT H1 Q xs) := by
  refine ⟨fun pins s σ H Q I hq => wpAny_Tuple_spliced (thn (h.run pos pins s σ H _ I hq) fun us s1 ⟨xs, H1, I1, r, z, q⟩ => ⟨by rw [← r.length]; exact z, ?_⟩)⟩
  exact ⟨.ref s1.heap.objs.size, _, tup_laid (s := s1) (h' := s1.heap) I1 r z, rfl, q _ _ _ (I1.hok.fresh (Nat.le_refl _))⟩
/-- t + u -/
theorem op_catF : OpR X (binaryOp .Add) (fun x y H Q => ∃ a b xs ys, x = .ref a ∧ y = .ref b ∧ SqT X.K H a xs ∧ SqT X.K H b ys ∧ xs.length + ys.length ≤ sizeLine ∧
    (xs = [] → Q (.ref b) H) ∧ (xs ≠ [] → ys = [] → Q (.ref a) H) ∧ (xs ≠ [] → ys ≠ [] → NewT H Q (xs ++ ys))) := by
  intro pins s σ H x y v u Q I rx ry h
  obtain ⟨a, b, xs, ys, rfl, rfl, ha, hb, hz, q0, q1, q2⟩ := h
  cases rx
  cases ry
  obtain ⟨its, r1, p1, _⟩ := I.tuple ha
  obtain ⟨its2, r2, p2, _⟩ := I.tuple hb
  by_cases hx : xs = []
  · subst hx
    cases r1
    exact cat_tup0 p1 p2 ⟨.ref b, H, I, rfl, q0 rfl⟩
  · refine HT.cat_tup p1 p2 (fun z => hx (r1.nil_iff.mp z)) (fun z => ⟨.ref a, H, I, rfl, q1 hx (r2.nil_iff.mp z)⟩) (fun z => ?_) (by rw [← r1.length, ← r2.length]; exact hz)
    exact ⟨.ref s.heap.objs.size, _, tup_laid (s := s) (h' := s.heap) I (r1.append r2) (by rw [List.length_append]; exact hz), rfl, q2 hx (fun w => z (r2.nil_iff.mpr w)) _ _ _ (I.hok.fresh (Nat.le_refl _))⟩
/-- t[lo:hi] -/
theorem sl_tupF : SlR X (fun x lo hi H Q => ∃ a xs, x = .ref a ∧ SqT X.K H a xs ∧ (HT.sIx xs.length 0 lo = 0 ∧ HT.sIx xs.length xs.length hi = xs.length → Q (.ref a) H) ∧
    (¬ (HT.sIx xs.length 0 lo = 0 ∧ HT.sIx xs.length xs.length hi = xs.length) → NewT H Q (cutV xs lo hi))) := by
  intro pins s σ H x v vl vu lo hi sl Q I rx hs pl pu h
  obtain ⟨a, xs, rfl, hx, q1, q2⟩ := h
  cases rx
  obtain ⟨its, r, ht, hz⟩ := I.tuple hx
  have hlen : its.toArray.size = xs.length := by
    rw [List.size_toArray]
    exact r.length.symm
  refine ⟨"tuple", _, PyProof.Rows.slot_tuple_getitem.lookup, ht.typeIs, ?_⟩
  by_cases hw : HT.sIx xs.length 0 lo = 0 ∧ HT.sIx xs.length xs.length hi = xs.length
  · exact getItem_tuple_whole ht hs pl pu (by rw [hlen]; exact hw) ⟨.ref a, H, I, rfl, q1 hw⟩
  · refine HT.getItem_tuple_cut ht hs pl pu (by rw [hlen]; exact hw) ?_ (by rw [hlen]; exact hz)
    rw [hlen]
    exact ⟨.ref s.heap.objs.size, _, tup_laid (s := s) (h' := s.heap) I ((r.drop _).take _) (Nat.le_trans (cutV_length xs lo hi) hz), rfl, q2 hw _ _ _ (I.hok.fresh (Nat.le_refl _))⟩
/-- tuple(xs) -/
theorem call_tupF : CallR X (.type "tuple") (fun xs H Q => ∃ p ys, xs = [.ref p] ∧ ((SqL X.K H p ys ∧ NewT H Q ys) ∨ (SqT X.K H p ys ∧ Q (.ref p) H))) := by
  intro pins s σ H xs us Q I r h
  obtain ⟨p, ys, rfl, h⟩ := h
  obtain ⟨u, rfl, rx⟩ := vals1 r
  cases rx
  rcases h with ⟨hq, q⟩ | ⟨hq, q⟩
  · obtain ⟨its, r', pl, hz⟩ := I.list hq
    have hlen := r'.length
    refine call_tuple_list pl.isList (fun h' kp => ?_) (by simp only [List.size_toArray] <;> omega)
    have I1 : Inv X pins σ H { s with heap := h' } := I.kept (t' := s.toks) kp
    exact ⟨.ref h'.objs.size, _, tup_laid (s := s) I1 r' hz, rfl, q _ _ _ (I1.hok.fresh (Nat.le_refl _))⟩
  · obtain ⟨its, r', pl, hz⟩ := I.tuple hq
    exact call_tuple_same pl ⟨.ref p, H, I, rfl, q⟩
end
end Nb

/-! Nb2: a small language, its plain reading, the check of a text against it -/
namespace Nb
open PySem PySem.Spec PyProof.Rows L2

inductive BOp where | add | sub | mul | fdiv | mod | pow
  deriving DecidableEq
inductive COp where | eq | ne | lt | le | gt | ge | is | isn | isin | notin
  deriving DecidableEq
inductive Blt where | len | tuple | list | dict | sorted | all | any | repr | str | int_ | min_
inductive Tg where | n (i : Nat) | t (ts : List Tg)
mutual
inductive E where
  | var (i : Nat) | non | bl (b : Bool) | int (i : Int) | str (x : Str) | glb (x : Str)
  | tup (es : List E) | lst (es : List E) | dnew
  | bop (o : BOp) (a b : E) | neg (a : E) | cmp (o : COp) (a b : E) | chn (o o' : COp) (a b c : E)
  | and (es : List E) | or (es : List E) | not (a : E) | ite (c a b : E)
  | ix (a b : E) | slc (a : E) (lo hi : Option E)
  | call (f : Str) (es : List E) | blt (b : Blt) (a : E) | isi (a : E) (t : String)
  | get1 (o a : E) | get2 (o a b : E)
  | comp (elt : E) (tg : Tg) (it : It) (cs : List E) (own : List Nat)
  | mm (mx : Bool) (a b : E) | join (o a : E) | dsp (ks : List Str) (es : List E) | ss (a : E)
inductive It where
  | e (a : E) | rng1 (a : E) | rng2 (a b : E) | enum (a : E) | zip (a b : E) | rev (a : E)
end
inductive S where
  | asg (tg : Tg) (e : E) | sub (o i e : E) | exp (e : E) | app (o e : E) | ext (o e : E) | mrev (o : E) | ins (o i e : E)
  | ret (e : E) | retn | ife (c : E) (a b : List S) | for_ (tg : Tg) (it : It) (body : List S) | whl (c : E) (body : List S)
  | pass | brk | cnt | raise | clr (o : E)

abbrev Fn := List D → Mm → Option (Out × Mm)
/-- the module: its own defs by what they do, its constants -/
structure Gv where
  phi : Str → Option (Nat × Fn)
  gam : Str → Option D
abbrev Fr := List (Option D)

/-! ### values -/
def stow : Out → Mm → D × Mm
  | .val d, m => (d, m)
  | .tmp ds, m => (.ref m.length, m ++ [.lst ds])
mutual
def dp (r : Nat → Option PyData) : D → Option PyData
  | .non => some .none
  | .bl b => some (.bool b)
  | .int i => some (.int i)
  | .str x => some (.str x)
  | .tup ds => (dps r ds).map .tuple
  | .frz ds => (dps r ds).map .list
  | .ref n => r n
def dps (r : Nat → Option PyData) : List D → Option (List PyData)
  | [] => some []
  | d :: ds => (dp r d).bind fun p => (dps r ds).map fun ps => p :: ps
end
def rp (m : Mm) : Nat → Nat → Option PyData
  | 0, _ => none
  | f + 1, n => match m[n]? with
    | some (.lst ds) => (dps (rp m f) ds).map .list
    | _ => none
def toP (m : Mm) : Out → Option PyData
  | .val d => dp (rp m 64) d
  | .tmp ds => (dps (rp m 64) ds).map .list
/-- the items of a list or tuple -/
def lstO (m : Mm) : Out → Option (List D)
  | .tmp ds => some ds
  | .val (.ref n) => match m[n]? with
    | some (.lst ds) => some ds
    | _ => none
  | _ => none
def seqO (m : Mm) : Out → Option (List D)
  | .tmp ds => some ds
  | .val (.tup ds) => some ds
  | .val (.frz ds) => some ds
  | .val (.ref n) => match m[n]? with
    | some (.lst ds) => some ds
    | _ => none
  | _ => none
def dctO (m : Mm) : Out → Option (List (Key × D))
  | .val (.ref n) => match m[n]? with
    | some (.dct kvs) => some kvs
    | _ => none
  | _ => none
def keyD : D → Option Key
  | .int i => some (.inl i)
  | .str x => some (.inr x)
  | _ => none
def kvGet (k : Key) (kvs : List (Key × D)) : Option D := (kvs.find? fun kv => decide (kv.1 = k)).map (·.2)
def kvPut (k : Key) (d : D) (kvs : List (Key × D)) : List (Key × D) :=
  if (kvs.any fun kv => decide (kv.1 = k)) = true then kvs.map (fun kv => if kv.1 = k then (kv.1, d) else kv) else kvs ++ [(k, d)]
def cutA {α : Type} (xs : List α) (lo hi : Option Int) : List α := (xs.drop (HT.sIx xs.length 0 lo)).take (HT.sIx xs.length xs.length hi - HT.sIx xs.length 0 lo)

def bopI : BOp → Int → Int → Option Int
  | .add, i, j => some (i + j)
  | .sub, i, j => some (i - j)
  | .mul, i, j => if (-(2 ^ 64) < i ∧ i < 2 ^ 64) ∨ (-(2 ^ 64) < j ∧ j < 2 ^ 64) then some (i * j) else none
  | .fdiv, i, j => if 0 < j ∧ j < 1073741824 then some (i / j) else none
  | .mod, i, j => if 0 < j then some (i % j) else none
  | .pow, i, j => if 0 ≤ j ∧ j ≤ 1000000 ∧ i.natAbs < 2 ^ 64 then some (i ^ j.toNat) else none
def addO (m : Mm) : Out → Out → Option Out
  | .val (.str x), .val (.str y) => if x.length + y.length ≤ sizeLine then some (.val (.str (x ++ y))) else none
  | .val (.tup xs), .val (.tup ys) => if xs.length + ys.length ≤ sizeLine then some (.val (.tup (xs ++ ys))) else none
  | a, b => match lstO m a, lstO m b with
    | some xs, some ys => if xs.length + ys.length ≤ sizeLine then some (.tmp (xs ++ ys)) else none
    | _, _ => none
def intsO : Out → Out → Option (Int × Int)
  | .val (.int i), .val (.int j) => some (i, j)
  | _, _ => none
def bopO (m : Mm) (o : BOp) (a b : Out) : Option Out :=
  match intsO a b with
  | some p => (bopI o p.1 p.2).map fun k => .val (.int k)
  | none => match o with
    | .add => addO m a b
    | _ => none
/-- two single values -/
def eqS : Out → Out → Option Bool
  | .val .non, .val .non => some true
  | .val (.bl a), .val (.bl b) => some (decide (a = b))
  | .val (.int a), .val (.int b) => some (decide (a = b))
  | .val (.str a), .val (.str b) => some (decide (a = b))
  | .val .non, .val (.bl _) => some false
  | .val .non, .val (.int _) => some false
  | .val .non, .val (.str _) => some false
  | .val (.bl _), .val .non => some false
  | .val (.int _), .val .non => some false
  | .val (.str _), .val .non => some false
  | .val (.int _), .val (.str _) => some false
  | .val (.str _), .val (.int _) => some false
  | .val (.bl _), .val (.str _) => some false
  | .val (.str _), .val (.bl _) => some false
  | _, _ => none
def eqO (m : Mm) (a b : Out) : Option Bool := match eqS a b with
  | some z => some z
  | none => match toP m a, toP m b with
    | some p, some q => if SeqAt.shaped p && SeqAt.shaped q then some (PyData.eqv p q) else none
    | _, _ => none
def flatP : PyData → Bool
  | .none => true
  | .bool _ => true
  | .int _ => true
  | .str _ => true
  | _ => false
def inO (m : Mm) (a b : Out) : Option Bool := match dctO m b with
  | some kvs => match a with
    | .val d => (keyD d).map fun k => (kvGet k kvs).isSome
    | _ => none
  | none => match a, b with
    | .val (.str x), .val (.str y) => some (!(Builtin.Str.occurrences y x 0 y.length 1).isEmpty)
    | a, b => match toP m a, toP m b with
      | some p, some (.list qs) => if SeqAt.shaped p && SeqAt.shaped (.list qs) then some (qs.any fun z => PyData.eqv z p) else none
      | some p, some (.tuple qs) => if flatP p && qs.all flatP then some (qs.any fun z => PyData.eqv z p) else none
      | _, _ => none
def ltO : Out → Out → Option Bool
  | .val (.int i), .val (.int j) => some (decide (i < j))
  | .val (.str i), .val (.str j) => some (decide (i.cps.toList < j.cps.toList))
  | _, _ => none
def isO : Out → Out → Option Bool
  | .val .non, .val .non => some true
  | _, .val .non => some false
  | .val (.bl a), .val (.bl b) => some (decide (a = b))
  | _, _ => none
def cmpO (m : Mm) : COp → Out → Out → Option Bool
  | .eq, a, b => eqO m a b
  | .ne, a, b => (eqO m a b).map (!·)
  | .lt, a, b => ltO a b
  | .gt, a, b => ltO b a
  | .le, a, b => (ltO b a).map (!·)
  | .ge, a, b => (ltO a b).map (!·)
  | .is, a, b => isO a b
  | .isn, a, b => (isO a b).map (!·)
  | .isin, a, b => inO m a b
  | .notin, a, b => (inO m a b).map (!·)
def bndO : Out → Option Int
  | .val (.int i) => some i
  | _ => none
def strO : Out → Option Str
  | .val (.str z) => some z
  | _ => none
def ixO (m : Mm) (a b : Out) : Option D := match dctO m a with
  | some kvs => match b with
    | .val d => (keyD d).bind fun k => kvGet k kvs
    | .tmp _ => none
  | none => match bndO b with
    | none => none
    | some i => match strO a with
      | some z => if z.length ≤ sizeLine then (atI z.cps.toList i).map fun c => .str ⟨#[c]⟩ else none
      | none => (seqO m a).bind fun ds => atI ds i
def slcO (m : Mm) (a : Out) (lo hi : Option Int) : Option Out := match strO a with
  | some z => if z.length ≤ sizeLine then some (.val (.str (cutS z lo hi))) else none
  | none => match a with
    | .val (.tup ds) => some (.val (.tup (cutA ds lo hi)))
    | a => (seqO m a).map fun ds => .tmp (cutA ds lo hi)
/-- the type's name -/
def tyD (m : Mm) : D → Option String
  | .non => some "NoneType"
  | .bl _ => some "bool"
  | .int _ => some "int"
  | .str _ => some "str"
  | .tup _ => some "tuple"
  | .frz _ => some "list"
  | .ref n => match m[n]? with
    | some (.lst _) => some "list"
    | some (.dct _) => some "dict"
    | none => none
def tyO (m : Mm) : Out → Option String
  | .val d => tyD m d
  | .tmp _ => some "list"
def isiT (t : String) (u : String) : Bool := t == u || (t == "bool" && u == "int")
def truO (m : Mm) : Out → Option Bool
  | .val (.bl b) => some b
  | _ => none
def lenO (m : Mm) (a : Out) : Option Nat := match dctO m a with
  | some kvs => some kvs.length
  | none => match strO a with
    | some z => if z.length ≤ sizeLine then some z.length else none
    | none => (seqO m a).map List.length
def allBl : List D → Option (List Bool)
  | [] => some []
  | .bl b :: r => (allBl r).map fun bs => b :: bs
  | _ :: _ => none
def allStr : List D → Option (List Str)
  | [] => some []
  | .str b :: r => (allStr r).map fun bs => b :: bs
  | _ :: _ => none
def allInt : List D → Option (List Int)
  | [] => some []
  | .int b :: r => (allInt r).map fun bs => b :: bs
  | _ :: _ => none
def pairsD : List D → Option (List (Key × D))
  | [] => some []
  | .tup [k, v] :: r => (keyD k).bind fun k => (pairsD r).map fun ps => (k, v) :: ps
  | _ :: _ => none
def mergeD (kvs more : List (Key × D)) : List (Key × D) := more.foldl (fun acc kv => kvPut kv.1 kv.2 acc) kvs
def keyV : Key → D
  | .inl i => .int i
  | .inr x => .str x
def allKeyS : List (Key × D) → Option (List Str)
  | [] => some []
  | (.inr x, _) :: r => (allKeyS r).map fun xs => x :: xs
  | _ :: _ => none
/-- the order of texts -/
def leS (a b : Str) : Bool := !ltCps b.cps.toList a.cps.toList
def sortS (xs : List Str) : List Str := xs.mergeSort leS
def sortI (xs : List Int) : List Int := xs.mergeSort fun a b => decide (a ≤ b)
def sortedO (m : Mm) (a : Out) : Option (List D) := match dctO m a with
  | some kvs => (allKeyS kvs).bind fun ks => if ks.length < 64 then some ((sortS ks).map .str) else none
  | none => (lstO m a).bind fun ds => match allStr ds with
    | some xs => if xs.length < 64 then some ((sortS xs).map .str) else none
    | none => (allInt ds).map fun ns => (sortI ns).map .int
def reprO (m : Mm) (a : Out) : Option Str := (toP m a).bind fun p => if p.showable && !p.hasDict && decide (p.depth ≤ 64) && decide (p.shown.length ≤ sizeLine) then some p.shown else none
/-- each once -/
def dedS : List Str → List Str
  | [] => []
  | x :: xs => if x ∈ dedS xs then dedS xs else x :: dedS xs
def minL : List Str → Option Str
  | [] => none
  | x :: xs => some (xs.foldl (fun a y => if decide (y.cps.toList < a.cps.toList) = true then y else a) x)
/-- sorted(set(xs)) -/
def ssO (m : Mm) (a : Out) : Option (List D) := (lstO m a).bind fun ds => (allStr ds).bind fun xs => if xs.length < 64 then some ((sortS (dedS xs)).map .str) else none
def bltO (b : Blt) (m : Mm) (a : Out) : Option (Out × Mm) := match b with
  | .len => (lenO m a).map fun n => (.val (.int (n : Nat)), m)
  | .tuple => (seqO m a).map fun ds => (.val (.tup ds), m)
  | .list => match dctO m a with
    | some kvs => some (.tmp (kvs.map fun p => keyV p.1), m)
    | none => (seqO m a).map fun ds => (.tmp ds, m)
  | .all => (lstO m a).bind fun ds => (allBl ds).map fun bs => (.val (.bl (bs.all id)), m)
  | .any => (lstO m a).bind fun ds => (allBl ds).map fun bs => (.val (.bl (bs.any id)), m)
  | .dict => (seqO m a).bind fun ds => (pairsD ds).map fun ps => (.val (.ref m.length), m ++ [.dct (mergeD [] ps)])
  | .sorted => (sortedO m a).map fun ds => (.tmp ds, m)
  | .repr => (reprO m a).map fun x => (.val (.str x), m)
  | .str => match bndO a with
    | some i => if i.natAbs.log2 < 1920 then some (.val (.str (toString i)), m) else none
    | none => none
  | .int_ => match a with
    | .val (.bl b) => some (.val (.int (if b then 1 else 0)), m)
    | .val (.int i) => some (.val (.int i), m)
    | _ => none
  | .min_ => (lstO m a).bind fun ds => (allStr ds).bind fun xs => (minL xs).map fun x => (.val (.str x), m)
/-- the greater, the less of two ints -/
def mmI (mx : Bool) (i j : Int) : Int := if mx then (if j > i then j else i) else (if j < i then j else i)
def mmO (mx : Bool) (a b : Out) : Option Out := (intsO a b).map fun p => .val (.int (mmI mx p.1 p.2))
/-- a written dict: the one laid at n, filled -/
def dspO (ks : List Str) (n : Nat) (ds : List D) (m : Mm) : Option (Out × Mm) := match m[n]? with
  | some (.dct []) => if ks.length ≤ 15 then some (.val (.ref n), m.set n (.dct (mergeD [] (List.zipWith (fun k d => ((Sum.inr k : Key), d)) ks ds)))) else none
  | _ => none
def joinO (m : Mm) (z : Str) (a : Out) : Option Str := (seqO m a).bind fun ds => (allStr ds).bind fun ys => if (ys.map (·.length)).sum + ys.length * z.length ≤ 16777216 then some (Str.join z ys) else none

/-! ### the reading -/
inductive Fl where | nx | ret (o : Out) | brk | cnt
mutual
def bindT : Tg → D → Fr → Option Fr
  | .n i, d, fr => some (fr.set i (some d))
  | .t ts, .tup ds, fr => bindTs ts ds fr
  | .t _, _, _ => none
def bindTs : List Tg → List D → Fr → Option Fr
  | [], [], fr => some fr
  | t :: ts, d :: ds, fr => (bindT t d fr).bind fun fr1 => bindTs ts ds fr1
  | _, _, _ => none
end
def wipeF (fr : Fr) : List Nat → Fr
  | [] => fr
  | v :: vs => (wipeF fr vs).set v none
/-- a comprehension's turns: f tells of an item nothing (left out), or the new item -/
def loopC (f : D → Mm → Option (Option D × Mm)) (gd : Mm → Bool) : List D → List D → Mm → Option (List D × Mm)
  | [], acc, m => if gd m then some (acc, m) else none
  | d :: ds, acc, m => if gd m then (f d m).bind fun r => match r.1 with
    | none => loopC f gd ds acc r.2
    | some y => if acc.length < sizeLine then loopC f gd ds (acc ++ [y]) r.2 else none
    else none
def loopF (f : D → Fr → Mm → Option (Fl × Fr × Mm)) (gd : Mm → Bool) : List D → Fr → Mm → Option (Fl × Fr × Mm)
  | [], fr, m => if gd m then some (.nx, fr, m) else none
  | d :: ds, fr, m => if gd m then (f d fr m).bind fun r => match r.1 with
    | .nx => loopF f gd ds r.2.1 r.2.2
    | .cnt => loopF f gd ds r.2.1 r.2.2
    | .brk => some (.nx, r.2)
    | .ret o => some (.ret o, r.2)
    else none
def loopW (c : Fr → Mm → Option (Bool × Mm)) (f : Fr → Mm → Option (Fl × Fr × Mm)) : Nat → Fr → Mm → Option (Fl × Fr × Mm)
  | 0, _, _ => none
  | n + 1, fr, m => (c fr m).bind fun b => if b.1 then (f fr b.2).bind fun r => match r.1 with
    | .nx => loopW c f n r.2.1 r.2.2
    | .cnt => loopW c f n r.2.1 r.2.2
    | .brk => some (.nx, r.2)
    | .ret o => some (.ret o, r.2)
    else some (.nx, fr, b.2)
/-- what a for walks: its items; a list of the store that is to stay as it is -/
abbrev Wk := List D × Option Nat
mutual
def D.beq : D → D → Bool
  | .non, .non => true
  | .bl a, .bl b => a == b
  | .int a, .int b => a == b
  | .str a, .str b => a == b
  | .tup a, .tup b => D.beqL a b
  | .frz a, .frz b => D.beqL a b
  | .ref a, .ref b => a == b
  | _, _ => false
def D.beqL : List D → List D → Bool
  | [], [] => true
  | a :: as, b :: bs => D.beq a b && D.beqL as bs
  | _, _ => false
end
def gdW (k : Wk) (m : Mm) : Bool := match k.2 with
  | none => true
  | some n => match m[n]? with
    | some (.lst ds) => D.beqL ds k.1
    | _ => false
def wkO (m : Mm) : Out → Option Wk
  | .tmp ds => some (ds, none)
  | .val (.tup ds) => some (ds, none)
  | .val (.frz ds) => some (ds, none)
  | .val (.str x) => some (x.cps.toList.map fun c => .str ⟨#[c]⟩, none)
  | .val (.ref n) => match m[n]? with
    | some (.lst ds) => some (ds, some n)
    | _ => none
  | _ => none
def enumD (i : Nat) : List D → List D
  | [] => []
  | d :: ds => .tup [.int i, d] :: enumD (i + 1) ds
/-- both new lists, or both tuples: nothing to watch -/
def zipO : Out → Out → Option Wk
  | .tmp as, .tmp bs => some (List.zipWith (fun a b => .tup [a, b]) as bs, none)
  | .val (.tup as), .val (.tup bs) => some (List.zipWith (fun a b => .tup [a, b]) as bs, none)
  | .val (.frz as), .val (.frz bs) => some (List.zipWith (fun a b => .tup [a, b]) as bs, none)
  | .tmp as, .val (.frz bs) => some (List.zipWith (fun a b => .tup [a, b]) as bs, none)
  | .val (.frz as), .tmp bs => some (List.zipWith (fun a b => .tup [a, b]) as bs, none)
  | _, _ => none
/-- what doesn't change while it is walked -/
def fixO : Out → Option (List D)
  | .tmp as => some as
  | .val (.tup as) => some as
  | .val (.frz as) => some as
  | _ => none
def revO (a : Out) : Option Wk := (fixO a).map fun ds => (ds.reverse, none)
def rngD (lo hi : Int) : List D := (List.range (hi - lo).toNat).map fun (k : Nat) => .int (lo + (k : Int))
def inR (i : Int) : Bool := decide (-(2 ^ 62) ≤ i) && decide (i < 2 ^ 62)
mutual
def evE (g : Gv) : E → Fr → Mm → Option (Out × Mm)
  | .var i, fr, m => fr[i]?.bind fun o => o.map fun d => (.val d, m)
  | .non, _, m => some (.val .non, m)
  | .bl b, _, m => some (.val (.bl b), m)
  | .int i, _, m => some (.val (.int i), m)
  | .str x, _, m => some (.val (.str x), m)
  | .glb x, _, m => (g.gam x).map fun d => (.val d, m)
  | .tup es, fr, m => (evA g es fr m).bind fun r => if r.1.length ≤ sizeLine then some (.val (.tup r.1), r.2) else none
  | .lst es, fr, m => (evA g es fr m).bind fun r => if r.1.length ≤ sizeLine then some (.tmp r.1, r.2) else none
  | .dnew, _, m => some (.val (.ref m.length), m ++ [.dct []])
  | .bop o a b, fr, m => (evE g a fr m).bind fun r => (evE g b fr r.2).bind fun q => (bopO q.2 o r.1 q.1).map fun z => (z, q.2)
  | .neg a, fr, m => (evE g a fr m).bind fun r => match r.1 with
    | .val (.int i) => some (.val (.int (-i)), r.2)
    | _ => none
  | .cmp o a b, fr, m => (evE g a fr m).bind fun r => (evE g b fr r.2).bind fun q => (cmpO q.2 o r.1 q.1).map fun z => (.val (.bl z), q.2)
  | .chn o o' a b c, fr, m => (evE g a fr m).bind fun r => (evE g b fr r.2).bind fun q => (cmpO q.2 o r.1 q.1).bind fun z =>
    if z then (evE g c fr q.2).bind fun p => (cmpO p.2 o' q.1 p.1).map fun z => (.val (.bl z), p.2) else some (.val (.bl false), q.2)
  | .and es, fr, m => (evAnd g es fr m).map fun r => (.val (.bl r.1), r.2)
  | .or es, fr, m => (evOr g es fr m).map fun r => (.val (.bl r.1), r.2)
  | .not a, fr, m => (evE g a fr m).bind fun r => (truO r.2 r.1).map fun b => (.val (.bl (!b)), r.2)
  | .ite c a b, fr, m => (evE g c fr m).bind fun r => (truO r.2 r.1).bind fun z => if z then evE g a fr r.2 else evE g b fr r.2
  | .ix a b, fr, m => (evE g a fr m).bind fun r => (evE g b fr r.2).bind fun q => (ixO q.2 r.1 q.1).map fun z => (.val z, q.2)
  | .slc a lo hi, fr, m => (evE g a fr m).bind fun r => (evP g lo fr r.2).bind fun q => (evP g hi fr q.2).bind fun p => (slcO p.2 r.1 q.1 p.1).map fun z => (z, p.2)
  | .call f es, fr, m => (evA g es fr m).bind fun r => (g.phi f).bind fun F => if F.1 = r.1.length then F.2 r.1 r.2 else none
  | .blt b a, fr, m => (evE g a fr m).bind fun r => bltO b r.2 r.1
  | .isi a t, fr, m => (evE g a fr m).bind fun r => (tyO r.2 r.1).map fun u => (.val (.bl (isiT u t)), r.2)
  | .get1 o a, fr, m => (evE g o fr m).bind fun r => (dctO r.2 r.1).bind fun _ => (evE g a fr r.2).bind fun q => (dctO q.2 r.1).bind fun kvs => match q.1 with
    | .val d => (keyD d).map fun k => (.val ((kvGet k kvs).getD .non), q.2)
    | _ => none
  | .get2 o a b, fr, m => (evE g o fr m).bind fun r => (dctO r.2 r.1).bind fun _ => (evE g a fr r.2).bind fun q => (evE g b fr q.2).bind fun p => (dctO p.2 r.1).bind fun kvs => match q.1, p.1 with
    | .val d, .val z => (keyD d).map fun k => (.val ((kvGet k kvs).getD z), p.2)
    | _, _ => none
  | .comp elt tg it cs own, fr, m => (evI g it fr m).bind fun r =>
    (loopC (fun d m => (bindT tg d (wipeF fr own)).bind fun fr1 => (evAnd g cs fr1 m).bind fun b =>
      if b.1 then (evE g elt fr1 b.2).map fun q => (some (stow q.1 q.2).1, (stow q.1 q.2).2) else some (none, b.2)) (gdW r.1) r.1.1 [] r.2).map fun q => (.tmp q.1, q.2)
  | .mm mx a b, fr, m => (evE g a fr m).bind fun r => (evE g b fr r.2).bind fun q => (mmO mx r.1 q.1).map fun z => (z, q.2)
  | .join o a, fr, m => (evE g o fr m).bind fun r => (strO r.1).bind fun z => (evE g a fr r.2).bind fun q => (joinO q.2 z q.1).map fun t => (.val (.str t), q.2)
  | .dsp ks es, fr, m => (evA g es fr (m ++ [.dct []])).bind fun r => dspO ks m.length r.1 r.2
  | .ss a, fr, m => (evE g a fr m).bind fun r => (ssO r.2 r.1).map fun ds => (.tmp ds, r.2)
def evA (g : Gv) : List E → Fr → Mm → Option (List D × Mm)
  | [], _, m => some ([], m)
  | e :: es, fr, m => (evE g e fr m).bind fun r => (evA g es fr (stow r.1 r.2).2).map fun q => ((stow r.1 r.2).1 :: q.1, q.2)
def evAnd (g : Gv) : List E → Fr → Mm → Option (Bool × Mm)
  | [], _, m => some (true, m)
  | e :: es, fr, m => (evE g e fr m).bind fun r => (truO r.2 r.1).bind fun z => if z then evAnd g es fr r.2 else some (false, r.2)
def evOr (g : Gv) : List E → Fr → Mm → Option (Bool × Mm)
  | [], _, m => some (false, m)
  | e :: es, fr, m => (evE g e fr m).bind fun r => (truO r.2 r.1).bind fun z => if z then some (true, r.2) else evOr g es fr r.2
def evP (g : Gv) : Option E → Fr → Mm → Option (Option Int × Mm)
  | none, _, m => some (none, m)
  | some e, fr, m => (evE g e fr m).bind fun r => (bndO r.1).map fun i => (some i, r.2)
def evI (g : Gv) : It → Fr → Mm → Option (Wk × Mm)
  | .e a, fr, m => (evE g a fr m).bind fun r => (wkO r.2 r.1).map fun k => (k, r.2)
  | .rng1 a, fr, m => (evE g a fr m).bind fun r => (bndO r.1).bind fun j => if inR j then some ((rngD 0 j, none), r.2) else none
  | .rng2 a b, fr, m => (evE g a fr m).bind fun r => (evE g b fr r.2).bind fun q => (bndO r.1).bind fun i => (bndO q.1).bind fun j => if inR i && inR j then some ((rngD i j, none), q.2) else none
  | .enum a, fr, m => (evE g a fr m).bind fun r => (fixO r.1).map fun ds => ((enumD 0 ds, none), r.2)
  | .zip a b, fr, m => (evE g a fr m).bind fun r => (evE g b fr r.2).bind fun q => (zipO r.1 q.1).map fun k => (k, q.2)
  | .rev a, fr, m => (evE g a fr m).bind fun r => (revO r.1).map fun k => (k, r.2)
end
mutual
theorem D.beq_refl : ∀ d : D, D.beq d d = true
  | .non => rfl
  | .bl a => by simp [D.beq]
  | .int a => by simp [D.beq]
  | .str a => by simp [D.beq]
  | .tup a => by
    unfold D.beq
    exact D.beqL_refl a
  | .frz a => by
    unfold D.beq
    exact D.beqL_refl a
  | .ref a => by simp [D.beq]
theorem D.beqL_refl : ∀ ds : List D, D.beqL ds ds = true
  | [] => rfl
  | d :: ds => by
    unfold D.beqL
    rw [D.beq_refl d, D.beqL_refl ds]
    rfl
end
mutual
theorem D.beq_eq : ∀ {a b : D}, D.beq a b = true → a = b
  | .non, b, h => by
    cases b <;> first | rfl | (simp [D.beq] at h)
  | .bl a, b, h => by
    cases b <;> simp [D.beq] at h
    rw [h]
  | .int a, b, h => by
    cases b <;> simp [D.beq] at h
    rw [h]
  | .str a, b, h => by
    cases b <;> simp [D.beq] at h
    rw [h]
  | .tup a, b, h => by
    cases b with
    | tup c =>
      unfold D.beq at h
      rw [D.beqL_eq h]
    | _ => simp [D.beq] at h
  | .frz a, b, h => by
    cases b with
    | frz c =>
      unfold D.beq at h
      rw [D.beqL_eq h]
    | _ => simp [D.beq] at h
  | .ref a, b, h => by
    cases b <;> simp [D.beq] at h
    rw [h]
theorem D.beqL_eq : ∀ {a b : List D}, D.beqL a b = true → a = b
  | [], b, h => by
    cases b with
    | nil => rfl
    | cons _ _ => simp [D.beqL] at h
  | d :: ds, b, h => by
    cases b with
    | nil => simp [D.beqL] at h
    | cons c cs =>
      unfold D.beqL at h
      obtain ⟨h1, h2⟩ := Bool.and_eq_true_iff.mp h
      rw [D.beq_eq h1, D.beqL_eq h2]
end
theorem gdW_none {ds : List D} {m : Mm} : gdW (ds, none) m = true := rfl
theorem gdW_some {ds : List D} {n : Nat} {m : Mm} (h : m[n]? = some (.lst ds)) : gdW (ds, some n) m = true := by
  unfold gdW
  simp only [h]
  exact D.beqL_refl ds
theorem gdW_of {ds : List D} {n : Nat} {m : Mm} (h : gdW (ds, some n) m = true) : m[n]? = some (.lst ds) := by
  unfold gdW at h
  simp only at h
  split at h
  · rename_i es e
    rw [e, D.beqL_eq h]
  · cases h
end Nb

/-! Nb3: operations by values -/
namespace Nb
open PySem PySem.Spec PyProof.Rows L2
section
variable {K : PySem.W.Frag} {mu mu' : List Addr} {H H' H0 : Hp} {m m' : Mm}
mutual
theorem dp_ok {r : Nat → Option PyData} (hr : ∀ (k : Nat) (p : PyData) (a : Addr), r k = some p → mu[k]? = some a → Dp K H (.ref a) p) : ∀ {d : D} {v : V} {p : PyData}, Rep K mu H d v → dp r d = some p → Dp K H v p
  | _, _, _, .non, e => by
    cases e
    exact .non
  | _, _, _, .bl b, e => by
    cases e
    exact .bl b
  | _, _, _, .int i, e => by
    cases e
    exact .int i
  | _, _, _, .str x, e => by
    cases e
    exact .str x
  | _, _, _, .tup h1 h2, e => by
    unfold dp at e
    obtain ⟨ps, e1, e2⟩ := Option.map_eq_some_iff.mp e
    subst e2
    exact .tup h1.sqT (dps_ok hr h2 e1)
  | _, _, _, .frz h1 h2, e => by
    unfold dp at e
    obtain ⟨ps, e1, e2⟩ := Option.map_eq_some_iff.mp e
    subst e2
    exact .lst h1.sqL (dps_ok hr h2 e1)
  | _, _, _, .ref h, e => hr _ _ _ e h
theorem dps_ok {r : Nat → Option PyData} (hr : ∀ (k : Nat) (p : PyData) (a : Addr), r k = some p → mu[k]? = some a → Dp K H (.ref a) p) : ∀ {d : List D} {v : List V} {p : List PyData}, RepL K mu H d v → dps r d = some p → DpAll K H v p
  | _, _, _, .nil, e => by
    cases e
    exact .nil
  | _, _, _, .cons h1 h2, e => by
    unfold dps at e
    obtain ⟨p, e1, e2⟩ := Option.bind_eq_some_iff.mp e
    obtain ⟨ps, e3, e4⟩ := Option.map_eq_some_iff.mp e2
    subst e4
    exact .cons (dp_ok hr h1 e1) (dps_ok hr h2 e3)
end
theorem dpInts : ∀ ns : List Int, DpAll K H (ns.map V.int) (ns.map PyData.int)
  | [] => .nil
  | i :: ns => .cons (.int i) (dpInts ns)
theorem rp_ok (S : SR K mu m H) : ∀ (f k : Nat) (p : PyData) (a : Addr), rp m f k = some p → mu[k]? = some a → Dp K H (.ref a) p
  | 0, _, _, _, e, _ => by cases e
  | f + 1, k, p, a, e, ha => by
    unfold rp at e
    split at e
    · rename_i ds em
      obtain ⟨ps, e1, e2⟩ := Option.map_eq_some_iff.mp e
      subst e2
      obtain ⟨vs, h1, h2⟩ := S.at_ k _ a em ha
      exact .lst (.inl (.inl h1)) (dps_ok (rp_ok S f) h2 e1)
    · cases e
theorem toP_ok (S : SR K mu m H) {o : Out} {v : V} {p : PyData} (h : OR K H0 mu H o v) (e : toP m o = some p) : Dp K H v p := by
  cases o with
  | val d => exact dp_ok (rp_ok S 64) h e
  | tmp ds =>
    obtain ⟨q, vs, rfl, hq, hr, _⟩ := h
    unfold toP at e
    obtain ⟨ps, e1, e2⟩ := Option.map_eq_some_iff.mp e
    subst e2
    exact .lst (.inl (.inl hq)) (dps_ok (rp_ok S 64) hr e1)
theorem lstO_ok (S : SR K mu m H) {o : Out} {v : V} {ds : List D} (h : OR K H0 mu H o v) (e : lstO m o = some ds) : ∃ a vs, v = .ref a ∧ H a = some (.lst vs) ∧ RepL K mu H ds vs := by
  unfold lstO at e
  split at e
  · cases e
    obtain ⟨q, vs, rfl, hq, hr, _⟩ := h
    exact ⟨q, vs, rfl, hq, hr⟩
  · rename_i n
    split at e
    · rename_i ds' em
      cases e
      cases h with
      | ref ha =>
        obtain ⟨vs, h1, h2⟩ := S.at_ _ _ _ em ha
        exact ⟨_, vs, rfl, h1, h2⟩
    · cases e
  · cases e
theorem repInts : ∀ ns : List Int, RepL K mu H (ns.map D.int) (ns.map V.int)
  | [] => .nil
  | i :: ns => .cons (.int i) (repInts ns)
theorem seqO_ok (S : SR K mu m H) {o : Out} {v : V} {ds : List D} (h : OR K H0 mu H o v) (e : seqO m o = some ds) : ∃ a vs, v = .ref a ∧ (SqL K H a vs ∨ SqT K H a vs) ∧ RepL K mu H ds vs := by
  unfold seqO at e
  split at e
  · cases e
    obtain ⟨q, vs, rfl, hq, hr, _⟩ := h
    exact ⟨q, vs, rfl, .inl (.inl (.inl hq)), hr⟩
  · cases e
    cases h with
    | tup h1 h2 => exact ⟨_, _, rfl, .inr h1.sqT, h2⟩
  · cases e
    cases h with
    | frz h1 h2 => exact ⟨_, _, rfl, .inl h1.sqL, h2⟩
  · rename_i n
    cases h with
    | ref ha =>
      split at e
      · rename_i ds' em
        cases e
        obtain ⟨vs, h1, h2⟩ := S.at_ _ _ _ em ha
        exact ⟨_, vs, rfl, .inl (.inl (.inl h1)), h2⟩
      · cases e
  · cases e
theorem dctO_ok (S : SR K mu m H) {o : Out} {v : V} {ds : List (Key × D)} (h : OR K H0 mu H o v) (e : dctO m o = some ds) : ∃ n a vs, o = .val (.ref n) ∧ mu[n]? = some a ∧ v = .ref a ∧ H a = some (.dK vs) ∧ RepKV K mu H ds vs := by
  unfold dctO at e
  split at e
  · rename_i n
    split at e
    · rename_i ds' em
      cases e
      cases h with
      | ref ha =>
        obtain ⟨vs, h1, h2⟩ := S.at_ _ _ _ em ha
        exact ⟨n, _, vs, rfl, ha, rfl, h1, h2⟩
    · cases e
  · cases e
end

/-- two values in, one out: what an operation tells, over the store -/
def rBin (K : PySem.W.Frag) (f : Mm → Out → Out → Option Out) : R2 := fun x y H Q => ∃ mu m a b H0 out, SR K mu m H ∧ (∀ a, H0 a ≠ none → H a ≠ none) ∧ OR K H0 mu H a x ∧ OR K H0 mu H b y ∧ f m a b = some out ∧
  ∀ v H', Nxt mu H mu H' → SR K mu m H' → OR K H0 mu H' out v → Q v H'
def rTst (K : PySem.W.Frag) (f : Mm → Out → Out → Option Bool) : R2 := rBin K fun m a b => (f m a b).map fun z => .val (.bl z)
section
variable {X : Cx}
def BOp.op : BOp → Operator
  | .add => .Add
  | .sub => .Sub
  | .mul => .Mult
  | .fdiv => .FloorDiv
  | .mod => .Mod
  | .pow => .Pow
theorem int_or {K : PySem.W.Frag} {H0 : Hp} {mu : List Addr} {H : Hp} {i : Int} {v : V} (h : OR K H0 mu H (.val (.int i)) v) : v = .int i := by
  cases h
  rfl
theorem str_or {K : PySem.W.Frag} {H0 : Hp} {mu : List Addr} {H : Hp} {i : Str} {v : V} (h : OR K H0 mu H (.val (.str i)) v) : v = .str i := by
  cases h
  rfl
theorem bl_or {K : PySem.W.Frag} {H0 : Hp} {mu : List Addr} {H : Hp} {i : Bool} {v : V} (h : OR K H0 mu H (.val (.bl i)) v) : v = .bl i := by
  cases h
  rfl
theorem non_or {K : PySem.W.Frag} {H0 : Hp} {mu : List Addr} {H : Hp} {v : V} (h : OR K H0 mu H (.val .non) v) : v = .non := by
  cases h
  rfl
theorem ite_some {α : Type} {c : Prop} [Decidable c] {a b : α} (h : (if c then some a else none) = some b) : c ∧ a = b := by
  by_cases hc : c
  · rw [if_pos hc] at h
    exact ⟨hc, Option.some.inj h⟩
  · rw [if_neg hc] at h
    cases h
theorem op_addO : OpR X (binaryOp .Add) (rBin X.K addO) := by
  intro pins s σ H x y v u Q I rx ry h
  obtain ⟨mu, m, a, b, H0, out, S, hb, ha, hb', e, q⟩ := h
  have qq : ∀ w, OR X.K H0 mu H out w → Q w H := fun w hw => q w H (Nxt.refl S) S hw
  unfold addO at e
  split at e
  · obtain ⟨hz, e⟩ := ite_some e
    subst e
    exact op_add_str pins s σ H x y v u Q I rx ry ⟨_, _, str_or ha, str_or hb', hz, qq _ (.str _)⟩
  · obtain ⟨hz, e⟩ := ite_some e
    subst e
    cases ha with
    | tup h1 h2 =>
      cases hb' with
      | tup h3 h4 =>
        have l1 := h2.length
        have l2 := h4.length
        refine op_catF pins s σ H _ _ v u Q I rx ry ⟨_, _, _, _, rfl, rfl, h1.sqT, h3.sqT, by omega, fun z => ?_, fun _ z => ?_, fun _ _ p its n np => ?_⟩
        · subst z
          cases h2
          exact qq _ (.tup h3 h4)
        · subst z
          cases h4
          refine qq _ ?_
          rw [List.append_nil]
          exact .tup h1 h2
        · refine q _ _ (Nxt.laid S np) (S.laid np) (.tup FT.new ?_)
          exact (h2.append h4).nxt (Nxt.laid S np) S.notup
  · split at e
    · rename_i e1 e2
      obtain ⟨hz, e⟩ := ite_some e
      subst e
      obtain ⟨p, vs, rfl, hp, h1⟩ := lstO_ok S ha e1
      obtain ⟨p2, vs2, rfl, hp2, h2⟩ := lstO_ok S hb' e2
      have l1 := h1.length
      have l2 := h2.length
      refine op_cat pins s σ H _ _ v u Q I rx ry ⟨p, p2, vs, vs2, rfl, rfl, hp, hp2, by omega, fun z nz => ?_⟩
      refine q _ _ (Nxt.laid S nz) (S.laid nz) ⟨z, _, rfl, upd_same, (h1.append h2).nxt (Nxt.laid S nz) S.notup, fun hm => S.trk z hm nz, Classical.byContradiction fun w => hb z w nz⟩
    · cases e
theorem op_bopI (o : BOp) {i j k : Int} (e : bopI o i j = some k) : OpR X (binaryOp o.op) (fun x y H Q => x = .int i ∧ y = .int j ∧ Q (.int k) H) := by
  intro pins s σ H x y v u Q I rx ry h
  obtain ⟨ex, ey, q⟩ := h
  cases o with
  | add =>
    cases e
    exact op_add pins s σ H x y v u Q I rx ry ⟨i, j, ex, ey, q⟩
  | sub =>
    cases e
    exact op_sub pins s σ H x y v u Q I rx ry ⟨i, j, ex, ey, q⟩
  | mul =>
    obtain ⟨hc, e⟩ := ite_some e
    subst e
    exact op_mul pins s σ H x y v u Q I rx ry ⟨i, j, ex, ey, hc, q⟩
  | fdiv =>
    obtain ⟨hc, e⟩ := ite_some e
    subst e
    exact op_fdiv pins s σ H x y v u Q I rx ry ⟨i, j, ex, ey, hc, q⟩
  | mod =>
    obtain ⟨hc, e⟩ := ite_some e
    subst e
    exact op_mod pins s σ H x y v u Q I rx ry ⟨i, j, ex, ey, hc, q⟩
  | pow =>
    obtain ⟨hc, e⟩ := ite_some e
    subst e
    exact op_pow pins s σ H x y v u Q I rx ry ⟨i, j, ex, ey, hc, q⟩
theorem intsO_eq {a b : Out} {p : Int × Int} (h : intsO a b = some p) : a = .val (.int p.1) ∧ b = .val (.int p.2) := by
  unfold intsO at h
  split at h
  · cases h
    exact ⟨rfl, rfl⟩
  · cases h
theorem op_bop (o : BOp) : OpR X (binaryOp o.op) (rBin X.K fun m a b => bopO m o a b) := by
  intro pins s σ H x y v u Q I rx ry h
  obtain ⟨mu, m, a, b, H0, out, S, hb, ha, hb', e, q⟩ := h
  have e : bopO m o a b = some out := e
  unfold bopO at e
  cases ei : intsO a b with
  | some p =>
    rw [ei] at e
    obtain ⟨k, e1, e2⟩ := Option.map_eq_some_iff.mp e
    subst e2
    obtain ⟨rfl, rfl⟩ := intsO_eq ei
    exact op_bopI o e1 pins s σ H x y v u Q I rx ry ⟨int_or ha, int_or hb', q _ H (Nxt.refl S) S (.int k)⟩
  | none =>
    rw [ei] at e
    cases o with
    | add => exact op_addO pins s σ H x y v u Q I rx ry ⟨mu, m, a, b, H0, out, S, hb, ha, hb', e, q⟩
    | _ => cases e
def COp.op : COp → CmpOp
  | .eq => .Eq
  | .ne => .NotEq
  | .lt => .Lt
  | .le => .LtE
  | .gt => .Gt
  | .ge => .GtE
  | .is => .Is
  | .isn => .IsNot
  | .isin => .In
  | .notin => .NotIn
theorem rTst_of {K : PySem.W.Frag} {f : Mm → Out → Out → Option Bool} {x y : V} {H : Hp} {Q : VK} (h : rTst K f x y H Q) :
    ∃ mu m a b H0 z, SR K mu m H ∧ OR K H0 mu H a x ∧ OR K H0 mu H b y ∧ f m a b = some z ∧ Q (.bl z) H := by
  obtain ⟨mu, m, a, b, H0, out, S, hb, ha, hb', e, q⟩ := h
  obtain ⟨z, e1, e2⟩ := Option.map_eq_some_iff.mp e
  subst e2
  exact ⟨mu, m, a, b, H0, z, S, ha, hb', e1, q _ H (Nxt.refl S) S (.bl z)⟩
theorem eqS_of {K : PySem.W.Frag} {mu : List Addr} {H H0 : Hp} {a b : Out} {x y : V} {z : Bool} (ha : OR K H0 mu H a x) (hb : OR K H0 mu H b y) (e : eqS a b = some z) : scal x y = true ∧ z = decide (x = y) := by
  unfold eqS at e
  split at e <;> first
    | (cases e; done)
    | (cases ha; cases hb; cases e; refine ⟨rfl, ?_⟩; simp)
theorem eqO_of {K : PySem.W.Frag} {mu : List Addr} {H H0 : Hp} {m : Mm} {a b : Out} {x y : V} {z : Bool} (S : SR K mu m H) (ha : OR K H0 mu H a x) (hb : OR K H0 mu H b y) (e : eqO m a b = some z) :
    (scal x y = true ∧ z = decide (x = y)) ∨ ∃ d e, Dp K H x d ∧ Dp K H y e ∧ SeqAt.shaped d = true ∧ SeqAt.shaped e = true ∧ z = PyData.eqv d e := by
  unfold eqO at e
  cases es : eqS a b with
  | some z' =>
    simp only [es] at e
    cases e
    exact .inl (eqS_of ha hb es)
  | none =>
    simp only [es] at e
    split at e
    · rename_i p q e1 e2
      obtain ⟨hz, e⟩ := ite_some e
      obtain ⟨h1, h2⟩ := Bool.and_eq_true_iff.mp hz
      exact .inr ⟨p, q, toP_ok S ha e1, toP_ok S hb e2, h1, h2, e.symm⟩
    · cases e
theorem op_eqO (hu : X.A.units + 64 < cLine) : OpR X (compareOp .Eq) (rTst X.K eqO) := by
  intro pins s σ H x y v u Q I rx ry h
  obtain ⟨mu, m, a, b, H0, z, S, ha, hb, e, q⟩ := rTst_of h
  rcases eqO_of S ha hb e with ⟨h1, rfl⟩ | ⟨d, e', h1, h2, h3, h4, rfl⟩
  · exact op_eq pins s σ H x y v u Q I rx ry ⟨h1, q⟩
  · exact op_eqD hu pins s σ H x y v u Q I rx ry ⟨d, e', h1, h2, h3, h4, q⟩
theorem op_neO (hu : X.A.units + 64 < cLine) : OpR X (compareOp .NotEq) (rTst X.K fun m a b => (eqO m a b).map (!·)) := by
  intro pins s σ H x y v u Q I rx ry h
  obtain ⟨mu, m, a, b, H0, z, S, ha, hb, e, q⟩ := rTst_of h
  obtain ⟨z', e2, rfl⟩ := Option.map_eq_some_iff.mp e
  rcases eqO_of S ha hb e2 with ⟨h1, rfl⟩ | ⟨d, e', h1, h2, h3, h4, rfl⟩
  · exact op_ne pins s σ H x y v u Q I rx ry ⟨h1, q⟩
  · exact op_neD hu pins s σ H x y v u Q I rx ry ⟨d, e', h1, h2, h3, h4, q⟩
theorem ltO_of {K : PySem.W.Frag} {mu : List Addr} {H H0 : Hp} {a b : Out} {x y : V} {z : Bool} (ha : OR K H0 mu H a x) (hb : OR K H0 mu H b y) (e : ltO a b = some z) :
    (∃ i j, x = .int i ∧ y = .int j ∧ z = decide (i < j)) ∨ ∃ i j, x = .str i ∧ y = .str j ∧ z = decide (i.cps.toList < j.cps.toList) := by
  unfold ltO at e
  split at e
  · cases e
    exact .inl ⟨_, _, int_or ha, int_or hb, rfl⟩
  · cases e
    exact .inr ⟨_, _, str_or ha, str_or hb, rfl⟩
  · cases e
theorem op_ltO : OpR X (compareOp .Lt) (rTst X.K fun _ a b => ltO a b) := by
  intro pins s σ H x y v u Q I rx ry h
  obtain ⟨mu, m, a, b, H0, z, S, ha, hb, e, q⟩ := rTst_of h
  rcases ltO_of ha hb e with ⟨i, j, rfl, rfl, rfl⟩ | ⟨i, j, rfl, rfl, rfl⟩
  · exact op_lt pins s σ H _ _ v u Q I rx ry ⟨i, j, rfl, rfl, q⟩
  · exact op_lt_str pins s σ H _ _ v u Q I rx ry ⟨i, j, rfl, rfl, q⟩
theorem op_gtO : OpR X (compareOp .Gt) (rTst X.K fun _ a b => ltO b a) := by
  intro pins s σ H x y v u Q I rx ry h
  obtain ⟨mu, m, a, b, H0, z, S, ha, hb, e, q⟩ := rTst_of h
  rcases ltO_of hb ha e with ⟨i, j, rfl, rfl, rfl⟩ | ⟨i, j, rfl, rfl, rfl⟩
  · exact op_gt pins s σ H _ _ v u Q I rx ry ⟨j, i, rfl, rfl, q⟩
  · exact op_gt_str pins s σ H _ _ v u Q I rx ry ⟨j, i, rfl, rfl, q⟩
theorem not_lt_dec (i j : Int) : (!decide (j < i)) = decide (i ≤ j) := by
  by_cases h : j < i
  · rw [decide_eq_true h, decide_eq_false (by omega)]
    rfl
  · rw [decide_eq_false h, decide_eq_true (by omega)]
    rfl
theorem op_leO : OpR X (compareOp .LtE) (rTst X.K fun _ a b => (ltO b a).map (!·)) := by
  intro pins s σ H x y v u Q I rx ry h
  obtain ⟨mu, m, a, b, H0, z, S, ha, hb, e, q⟩ := rTst_of h
  obtain ⟨z', e2, rfl⟩ := Option.map_eq_some_iff.mp e
  replace e := e2
  clear e2
  rcases ltO_of hb ha e with ⟨i, j, rfl, rfl, rfl⟩ | ⟨i, j, rfl, rfl, rfl⟩
  · rw [not_lt_dec] at q
    exact op_le pins s σ H _ _ v u Q I rx ry ⟨j, i, rfl, rfl, q⟩
  · exact op_le_str pins s σ H _ _ v u Q I rx ry ⟨j, i, rfl, rfl, q⟩
theorem op_geO : OpR X (compareOp .GtE) (rTst X.K fun _ a b => (ltO a b).map (!·)) := by
  intro pins s σ H x y v u Q I rx ry h
  obtain ⟨mu, m, a, b, H0, z, S, ha, hb, e, q⟩ := rTst_of h
  obtain ⟨z', e2, rfl⟩ := Option.map_eq_some_iff.mp e
  replace e := e2
  clear e2
  rcases ltO_of ha hb e with ⟨i, j, rfl, rfl, rfl⟩ | ⟨i, j, rfl, rfl, rfl⟩
  · rw [not_lt_dec] at q
    exact op_ge pins s σ H _ _ v u Q I rx ry ⟨i, j, rfl, rfl, q⟩
  · exact op_ge_str pins s σ H _ _ v u Q I rx ry ⟨i, j, rfl, rfl, q⟩
theorem isO_of {K : PySem.W.Frag} {mu : List Addr} {H H0 : Hp} {a b : Out} {x y : V} {z : Bool} (ha : OR K H0 mu H a x) (hb : OR K H0 mu H b y) (e : isO a b = some z) :
    (y = .non ∧ z = decide (x = .non)) ∨ ∃ i j, x = .bl i ∧ y = .bl j ∧ z = decide (i = j) := by
  unfold isO at e
  split at e
  · cases e
    rw [non_or ha, non_or hb]
    exact .inl ⟨rfl, rfl⟩
  · rename_i hn
    cases e
    rw [non_or hb]
    refine .inl ⟨rfl, (decide_eq_false fun q => ?_).symm⟩
    subst q
    cases a with
    | val d =>
      cases ha
      exact hn rfl
    | tmp ds =>
      obtain ⟨p, vs, h, _⟩ := ha
      cases h
  · cases e
    exact .inr ⟨_, _, bl_or ha, bl_or hb, rfl⟩
  · cases e
theorem op_isO : OpR X (compareOp .Is) (rTst X.K fun _ a b => isO a b) := by
  intro pins s σ H x y v u Q I rx ry h
  obtain ⟨mu, m, a, b, H0, z, S, ha, hb, e, q⟩ := rTst_of h
  rcases isO_of ha hb e with ⟨rfl, rfl⟩ | ⟨i, j, rfl, rfl, rfl⟩
  · exact op_isN pins s σ H _ _ v u Q I rx ry ⟨rfl, q⟩
  · exact op_is_bl pins s σ H _ _ v u Q I rx ry ⟨i, j, rfl, rfl, q⟩
theorem op_isnO : OpR X (compareOp .IsNot) (rTst X.K fun _ a b => (isO a b).map (!·)) := by
  intro pins s σ H x y v u Q I rx ry h
  obtain ⟨mu, m, a, b, H0, z, S, ha, hb, e, q⟩ := rTst_of h
  obtain ⟨z', e2, rfl⟩ := Option.map_eq_some_iff.mp e
  replace e := e2
  clear e2
  rcases isO_of ha hb e with ⟨rfl, rfl⟩ | ⟨i, j, rfl, rfl, rfl⟩
  · exact op_notN pins s σ H _ _ v u Q I rx ry ⟨rfl, q⟩
  · exact op_isnot_bl pins s σ H _ _ v u Q I rx ry ⟨i, j, rfl, rfl, q⟩
end
end Nb

/-! Nb4: in, subscripts, slices, built-ins by values -/
namespace Nb
open PySem PySem.Spec PyProof.Rows L2
section
variable {K : PySem.W.Frag} {mu mu' : List Addr} {H H' H0 : Hp} {m m' : Mm}
theorem key_or {d : D} {k : Key} {v : V} (h : OR K H0 mu H (.val d) v) (e : keyD d = some k) : v = kV k := by
  unfold keyD at e
  split at e
  · cases e
    exact int_or h
  · cases e
    exact str_or h
  · cases e
theorem kv_get {k : Key} : ∀ {kvs : List (Key × D)} {vs : List (Key × V)}, RepKV K mu H kvs vs → (kvGet k kvs = none ∧ valV vs k = none) ∨ ∃ d v, kvGet k kvs = some d ∧ valV vs k = some v ∧ Rep K mu H d v
  | _, _, .nil => .inl ⟨rfl, rfl⟩
  | (k', d) :: ds, (_, v) :: vs, .cons h1 h2 => by
    unfold kvGet valV
    by_cases hk : k' = k
    · refine .inr ⟨d, v, ?_, ?_, h1⟩
      · rw [List.find?_cons_of_pos (by simp [hk])]
        rfl
      · rw [List.find?_cons_of_pos (by simp [hk])]
        rfl
    · rw [List.find?_cons_of_neg (by simp [hk]), List.find?_cons_of_neg (by simp [hk])]
      exact kv_get h2
theorem kv_some {k : Key} {kvs : List (Key × D)} {vs : List (Key × V)} {d : D} (h : RepKV K mu H kvs vs) (e : kvGet k kvs = some d) : ∃ v, valV vs k = some v ∧ Rep K mu H d v := by
  rcases kv_get (k := k) h with ⟨q, _⟩ | ⟨d', v, q1, q2, q3⟩
  · rw [q] at e
    cases e
  · rw [q1] at e
    cases e
    exact ⟨v, q2, q3⟩
theorem kv_isSome {k : Key} {kvs : List (Key × D)} {vs : List (Key × V)} (h : RepKV K mu H kvs vs) : (kvGet k kvs).isSome = (valV vs k).isSome := by
  rcases kv_get (k := k) h with ⟨q, q'⟩ | ⟨d', v, q1, q2, q3⟩
  · rw [q, q']
    rfl
  · rw [q1, q2]
    rfl
theorem kv_any {k : Key} : ∀ {kvs : List (Key × D)} {vs : List (Key × V)}, RepKV K mu H kvs vs → (kvs.any fun kv => decide (kv.1 = k)) = (vs.any fun kv => decide (kv.1 = k))
  | _, _, .nil => rfl
  | (k', d) :: ds, (_, v) :: vs, .cons h1 h2 => by
    rw [List.any_cons, List.any_cons, kv_any h2]
theorem kv_map {k : Key} {d : D} {v : V} (h : Rep K mu H d v) : ∀ {kvs : List (Key × D)} {vs : List (Key × V)}, RepKV K mu H kvs vs →
    RepKV K mu H (kvs.map fun kv => if kv.1 = k then (kv.1, d) else kv) (vs.map fun kv => if kv.1 = k then (kv.1, v) else kv)
  | _, _, .nil => .nil
  | (k', d') :: ds, (_, v') :: vs, .cons h1 h2 => by
    rw [List.map_cons, List.map_cons]
    by_cases hk : k' = k
    · rw [if_pos hk, if_pos hk]
      exact .cons h (kv_map h h2)
    · rw [if_neg hk, if_neg hk]
      exact .cons h1 (kv_map h h2)
theorem kv_app {k : Key} {d : D} {v : V} (h : Rep K mu H d v) : ∀ {kvs : List (Key × D)} {vs : List (Key × V)}, RepKV K mu H kvs vs → RepKV K mu H (kvs ++ [(k, d)]) (vs ++ [(k, v)])
  | _, _, .nil => .cons h .nil
  | _, _, .cons h1 h2 => .cons h1 (kv_app h h2)
theorem kv_put {k : Key} {d : D} {v : V} {kvs : List (Key × D)} {vs : List (Key × V)} (h : Rep K mu H d v) (hk : RepKV K mu H kvs vs) : RepKV K mu H (kvPut k d kvs) (putK vs k v) := by
  unfold kvPut putK
  rw [kv_any hk]
  split
  · exact kv_map h hk
  · exact kv_app h hk
theorem kv_len : ∀ {kvs : List (Key × D)} {vs : List (Key × V)}, RepKV K mu H kvs vs → kvs.length = vs.length
  | _, _, .nil => rfl
  | _, _, .cons h1 h2 => by rw [List.length_cons, List.length_cons, kv_len h2]
theorem flat_of {p : PyData} {v : V} (h : Dp K H v p) (hf : flatP p = true) : flatV v = true := by
  cases h <;> first | rfl | cases hf
theorem flats_of : ∀ {ps : List PyData} {vs : List V}, DpAll K H vs ps → ps.all flatP = true → vs.all flatV = true
  | _, _, .nil, _ => rfl
  | _, _, .cons h1 h2, e => by
    rw [List.all_cons, Bool.and_eq_true] at e
    rw [List.all_cons, flat_of h1 e.1, flats_of h2 e.2]
    rfl
theorem eqV_eqv {p q : PyData} {v u : V} (h : Dp K H v p) (h2 : Dp K H u q) (hp : flatP p = true) (hq : flatP q = true) : eqV v u = PyData.eqv p q := by
  cases h <;> cases h2 <;> first | (simp [eqV, PyData.eqv]; done) | (simp [flatP] at hp hq)
theorem inV_any {p : PyData} {v : V} (h : Dp K H v p) (hp : flatP p = true) : ∀ {qs : List PyData} {vs : List V}, DpAll K H vs qs → qs.all flatP = true → inV v vs = qs.any fun z => PyData.eqv z p
  | _, _, .nil, _ => rfl
  | _, _, .cons h1 h2, e => by
    rw [List.all_cons, Bool.and_eq_true] at e
    have ih := inV_any h hp h2 e.2
    unfold inV at ih ⊢
    rw [List.any_cons, List.any_cons, ih, eqV_eqv h1 h e.1 hp]
theorem bndO_eq {o : Out} {i : Int} (h : bndO o = some i) : o = .val (.int i) := by
  unfold bndO at h
  split at h
  · cases h
    rfl
  · cases h
theorem strO_eq {o : Out} {i : Str} (h : strO o = some i) : o = .val (.str i) := by
  unfold strO at h
  split at h
  · cases h
    rfl
  · cases h
theorem ite_some2 {α : Type} {c : Prop} [Decidable c] {a : Option α} {b : α} (h : (if c then a else none) = some b) : c ∧ a = some b := by
  by_cases hc : c
  · rw [if_pos hc] at h
    exact ⟨hc, h⟩
  · rw [if_neg hc] at h
    cases h
theorem atI_rep {ds : List D} {vs : List V} {i : Int} {d : D} (h : RepL K mu H ds vs) (e : atI ds i = some d) : ∃ v, atI vs i = some v ∧ Rep K mu H d v := by
  unfold atI at e ⊢
  rw [← h.length]
  cases hx : ixN ds.length i with
  | none =>
    rw [hx] at e
    cases e
  | some j =>
    rw [hx] at e
    exact h.get e
theorem cut_rep {ds : List D} {vs : List V} (lo hi : Option Int) (h : RepL K mu H ds vs) : RepL K mu H (cutA ds lo hi) (cutV vs lo hi) := by
  unfold cutA cutV
  rw [← h.length]
  exact (h.drop _).take _
end
section
variable {X : Cx}
theorem inO_of (hu : X.A.units + 65 < cLine) {pins : List (Addr × Obj)} {s : Shared} {σ : L2.St} {H H0 : Hp} {mu : List Addr} {m : Mm} {a b : Out} {x y : V} {v u : Value} {z : Bool} (I : Inv X pins σ H s) (rx : RelV x v) (ry : RelV y u) (S : SR X.K mu m H) (ha : OR X.K H0 mu H a x) (hb : OR X.K H0 mu H b y)
    (e : inO m a b = some z) (Q : VK) : (Q (.bl z) H → wpAny (model X.prog X.w) X.A (compareOp .In v u) (EP X pins σ Q) X.xe s) ∧ (Q (.bl (!z)) H → wpAny (model X.prog X.w) X.A (compareOp .NotIn v u) (EP X pins σ Q) X.xe s) := by
  unfold inO at e
  cases ed : dctO m b with
  | some kvs =>
    simp only [ed] at e
    obtain ⟨n, p, vs, rfl, _, rfl, hp, hr⟩ := dctO_ok S hb ed
    cases ry
    cases a with
    | tmp ds => cases e
    | val d =>
      obtain ⟨k, ek, e⟩ := Option.map_eq_some_iff.mp e
      have ex := key_or ha ek
      subst ex
      rw [kv_isSome hr] at e
      subst e
      exact ⟨fun q => d_in (by omega) I (.k hp) rx fun s' I' => ⟨.bl _, H, I', rfl, q⟩, fun q => d_notIn (by omega) I (.k hp) rx fun s' I' => ⟨.bl _, H, I', rfl, q⟩⟩
  | none =>
    simp only [ed] at e
    split at e
    · cases e
      exact ⟨fun q => op_in_str pins s σ H x y v u Q I rx ry ⟨_, _, str_or ha, str_or hb, q⟩, fun q => op_notIn_str pins s σ H x y v u Q I rx ry ⟨_, _, str_or ha, str_or hb, q⟩⟩
    · split at e
      · rename_i p qs e1 e2
        obtain ⟨hz, e⟩ := ite_some e
        obtain ⟨h1, h2⟩ := Bool.and_eq_true_iff.mp hz
        subst e
        exact ⟨fun q => op_inD hu pins s σ H x y v u Q I rx ry ⟨p, qs, toP_ok S ha e1, toP_ok S hb e2, h1, h2, q⟩, fun q => op_notInD hu pins s σ H x y v u Q I rx ry ⟨p, qs, toP_ok S ha e1, toP_ok S hb e2, h1, h2, q⟩⟩
      · rename_i p qs e1 e2
        obtain ⟨hz, e⟩ := ite_some e
        obtain ⟨h1, h2⟩ := Bool.and_eq_true_iff.mp hz
        subst e
        have d1 := toP_ok S ha e1
        have d2 := toP_ok S hb e2
        cases d2 with
        | tup ht hall =>
          have ei := inV_any d1 h1 hall h2
          refine ⟨fun q => op_in_seq pins s σ H x _ v u Q I rx ry ⟨_, _, rfl, .inr ht, flat_of d1 h1, flats_of hall h2, ?_⟩, fun q => op_notIn_seq pins s σ H x _ v u Q I rx ry ⟨_, _, rfl, .inr ht, flat_of d1 h1, flats_of hall h2, ?_⟩⟩
          · rw [if_neg (by simp), ei]
            exact q
          · rw [if_pos rfl, ei]
            exact q
      · cases e
theorem op_inO (hu : X.A.units + 65 < cLine) : OpR X (compareOp .In) (rTst X.K inO) := by
  intro pins s σ H x y v u Q I rx ry h
  obtain ⟨mu, m, a, b, H0, z, S, ha, hb, e, q⟩ := rTst_of h
  exact (inO_of hu I rx ry S ha hb e Q).1 q
theorem op_notinO (hu : X.A.units + 65 < cLine) : OpR X (compareOp .NotIn) (rTst X.K fun m a b => (inO m a b).map (!·)) := by
  intro pins s σ H x y v u Q I rx ry h
  obtain ⟨mu, m, a, b, H0, z, S, ha, hb, e, q⟩ := rTst_of h
  obtain ⟨z', e2, rfl⟩ := Option.map_eq_some_iff.mp e
  exact (inO_of hu I rx ry S ha hb e2 Q).2 q
theorem op_cmp (hu : X.A.units + 65 < cLine) (o : COp) : OpR X (compareOp o.op) (rTst X.K fun m a b => cmpO m o a b) := by
  cases o with
  | eq => exact op_eqO (by omega)
  | ne => exact op_neO (by omega)
  | lt => exact op_ltO
  | le => exact op_leO
  | gt => exact op_gtO
  | ge => exact op_geO
  | is => exact op_isO
  | isn => exact op_isnO
  | isin => exact op_inO hu
  | notin => exact op_notinO hu
/-- a[i] of a dict -/
theorem ix_dct (hu : X.A.units + 1 < cLine) : IxR X (fun x y H Q => ∃ a v, x = .ref a ∧ DGet H a y (some v) ∧ Q v H) := by
  intro value slice pins s σ H x y v u Q I rx ry h hs
  obtain ⟨a, w, rfl, g, q⟩ := h
  obtain rfl : v = Value.ref a := rx
  exact tail_any (dict_typeIs I g) PySem.F.slot_dict_getitem.lookup (d_getItem hu I g ry fun w' s3 I3 rw' => ⟨w, H, I3, rw', q⟩) hs
def rIxO (K : PySem.W.Frag) : R2 := rBin K fun m a b => (ixO m a b).map .val
theorem ix_O (hu : X.A.units + 1 < cLine) : IxR X (rIxO X.K) := by
  intro value slice pins s σ H x y v u Q I rx ry h hs
  obtain ⟨mu, m, a, b, H0, out, S, hb, ha, hb', e, q⟩ := h
  obtain ⟨d, e', rfl⟩ := Option.map_eq_some_iff.mp e
  replace e := e'
  clear e'
  have qq : ∀ w, Rep X.K mu H d w → Q w H := fun w hw => q w H (Nxt.refl S) S hw
  unfold ixO at e
  cases ed : dctO m a with
  | some kvs =>
    obtain ⟨n, p, vs, rfl, _, rfl, hp, hr⟩ := dctO_ok S ha ed
    cases b with
    | tmp ds => simp [ed] at e
    | val k' =>
      simp only [ed] at e
      obtain ⟨k, ek, e⟩ := Option.bind_eq_some_iff.mp e
      have ex := key_or hb' ek
      subst ex
      obtain ⟨w, hw, hrep⟩ := kv_some hr e
      exact ix_dct hu value slice pins s σ H _ _ v u Q I rx ry ⟨p, w, rfl, by rw [← hw]; exact .k hp, qq w hrep⟩ hs
  | none =>
    simp only [ed] at e
    cases ei : bndO b with
    | none =>
      simp only [ei] at e
      cases e
    | some i =>
      simp only [ei] at e
      obtain rfl := bndO_eq ei
      have ey := int_or hb'
      subst ey
      cases ez : strO a with
      | some z =>
        simp only [ez] at e
        obtain rfl := strO_eq ez
        obtain ⟨hz, e⟩ := ite_some2 e
        obtain ⟨c, e1, e2⟩ := Option.map_eq_some_iff.mp e
        subst e2
        exact ix_str value slice pins s σ H _ _ v u Q I rx ry ⟨z, i, c, str_or ha, rfl, hz, e1, qq _ (.str _)⟩ hs
      | none =>
        simp only [ez] at e
        obtain ⟨ds, e1, e2⟩ := Option.bind_eq_some_iff.mp e
        obtain ⟨p, vs, rfl, hp, hr⟩ := seqO_ok S ha e1
        obtain ⟨w, hw, hrep⟩ := atI_rep hr e2
        rcases hp with hp | hp
        · exact ix_list value slice pins s σ H _ _ v u Q I rx ry ⟨p, vs, i, w, rfl, rfl, hp, hw, qq w hrep⟩ hs
        · exact ix_tup value slice pins s σ H _ _ v u Q I rx ry ⟨p, vs, i, w, rfl, rfl, hp, hw, qq w hrep⟩ hs
/-- a slice -/
def rSlO (K : PySem.W.Frag) : V → Option Int → Option Int → Hp → VK → Prop := fun x lo hi H Q => ∃ mu m a H0 out, SR K mu m H ∧ (∀ a, H0 a ≠ none → H a ≠ none) ∧ OR K H0 mu H a x ∧ slcO m a lo hi = some out ∧
  ∀ v H', Nxt mu H mu H' → SR K mu m H' → OR K H0 mu H' out v → Q v H'
theorem sl_seq {K : PySem.W.Frag} {mu : List Addr} {m : Mm} {H H0 : Hp} {o : Out} {v : V} {ds : List D} (S : SR K mu m H) (h : OR K H0 mu H o v) (hn : ∀ ds, o ≠ .val (.tup ds)) (e : seqO m o = some ds) : ∃ a vs, v = .ref a ∧ SqL K H a vs ∧ RepL K mu H ds vs := by
  unfold seqO at e
  split at e
  · cases e
    obtain ⟨q, vs, rfl, hq, hr, _⟩ := h
    exact ⟨q, vs, rfl, .inl (.inl hq), hr⟩
  · exact absurd rfl (hn _)
  · cases e
    cases h with
    | frz h1 h2 => exact ⟨_, _, rfl, h1.sqL, h2⟩
  · rename_i n
    cases h with
    | ref ha =>
      split at e
      · rename_i ds' em
        cases e
        obtain ⟨vs, h1, h2⟩ := S.at_ _ _ _ em ha
        exact ⟨_, vs, rfl, .inl (.inl h1), h2⟩
      · cases e
  · cases e
theorem sl_O : SlR X (rSlO X.K) := by
  intro pins s σ H x v vl vu lo hi sl Q I rx hs pl pu h
  obtain ⟨mu, m, a, H0, out, S, hb, ha, e, q⟩ := h
  unfold slcO at e
  cases ez : strO a with
  | some z =>
    simp only [ez] at e
    obtain rfl := strO_eq ez
    obtain ⟨hz, e⟩ := ite_some e
    subst e
    exact sl_str pins s σ H x v vl vu lo hi sl Q I rx hs pl pu ⟨z, str_or ha, hz, q _ H (Nxt.refl S) S (.str _)⟩
  | none =>
    simp only [ez] at e
    split at e
    · cases e
      cases ha with
      | tup h1 h2 =>
        have hc := cut_rep lo hi h2
        refine sl_tupF pins s σ H _ v vl vu lo hi sl Q I rx hs pl pu ⟨_, _, rfl, h1.sqT, fun hw => ?_, fun hw p its n np => ?_⟩
        · refine q _ H (Nxt.refl S) S (.tup h1 ?_)
          have z1 : cutV _ lo hi = _ := show (List.drop _ _).take _ = _ from by rw [hw.1, hw.2, Nat.sub_zero, List.drop_zero, List.take_length]
          rw [z1] at hc
          exact hc
        · exact q _ _ (Nxt.laid S np) (S.laid np) (.tup FT.new (hc.nxt (Nxt.laid S np) S.notup))
    · rename_i hn
      obtain ⟨ds, e1, e2⟩ := Option.map_eq_some_iff.mp e
      subst e2
      obtain ⟨p, vs, rfl, hp, hr⟩ := sl_seq S ha hn e1
      refine sl_list pins s σ H _ v vl vu lo hi sl Q I rx hs pl pu ⟨p, vs, rfl, hp, fun z nz => ?_⟩
      refine q _ _ (Nxt.laid S nz) (S.laid nz) ⟨z, _, rfl, upd_same, (cut_rep lo hi hr).nxt (Nxt.laid S nz) S.notup, fun hm => S.trk z hm nz, Classical.byContradiction fun w => hb z w nz⟩
/-- truth -/
theorem truO_eq {m : Mm} {o : Out} {b : Bool} (h : truO m o = some b) : o = .val (.bl b) := by
  unfold truO at h
  split at h
  · cases h
    rfl
  · cases h
end
end Nb

/-! Nb5: defs called where nothing is being shown (repr's guards are void) -/
namespace Nb
open PySem PySem.Spec PyProof.Rows L2

structure FnG (P : Program) (w : World) (K : PySem.W.Frag) (mg : Str → Option Value) (base : Heap) (CX : CXT) (k : Nat) (f : Addr) (fd : FuncData) (ps : List Str) (sp : Sp) : Prop where
  args : ∀ vs H Q E, sp vs H Q E → vs.length = ps.length
  go : ∀ (A : Around) (outer : List Env) (s : Shared) (H : Hp) (ar : Args) (us : List Value) (vs : List V) (Q : VK) (E : XK), Room k A ∧ A.guards = some [] → Env0 P w K mg base A outer s H →
    BindsTo s fd ar (ps.zip us) → Vals vs us → sp vs H Q E → codeAny (model P w) A (.call (.ref f) ar) (CR CX outer P w H s Q E) s
section
variable {P : Program} {w : World} {K : PySem.W.Frag} {mg : Str → Option Value} {base : Heap} {CX : CXT} {k : Nat} {f : Addr} {fd : FuncData} {ps N : List Str} {sp sp' : Sp}
theorem FnG.up {j : Nat} (F : FnG P w K mg base CX j f fd ps sp) (h : j ≤ k) : FnG P w K mg base CX k f fd ps sp :=
  ⟨F.args, fun A o s H ar us vs Q E hr => F.go A o s H ar us vs Q E ⟨hr.1.mono h, hr.2⟩⟩
theorem FnG.weak (F : FnG P w K mg base CX k f fd ps sp) (h : ∀ vs H Q E, sp' vs H Q E → sp vs H Q E) : FnG P w K mg base CX k f fd ps sp' :=
  ⟨fun vs H Q E q => F.args vs H Q E (h _ _ _ _ q), fun A o s H ar us vs Q E hr e b r q => F.go A o s H ar us vs Q E hr e b r (h _ _ _ _ q)⟩
/-- a def of the text keeps its promise where its body does -/
theorem fnG_of {x qual : Str} {params : Arguments} {body : List Stmt} {scope : Scope} {dvs : List V} {kws : List (Str × V)} (F : FunD K x qual params body scope dvs kws f fd) (S : FnScope N ps scope)
    (len : ∀ vs H Q E, sp vs H Q E → vs.length = ps.length)
    (hbody : ∀ (cdv : Value) (A : Around) (outer : List Env) (s : Shared) (H : Hp) (vs : List V) (Q : VK) (E : XK), Room k (A.deeper (envOfC qual scope s.heap.objs.size f cdv)) → A.guards = some [] → sp vs H Q E →
      ∃ t, PSs (cxOf CX P w K mg base N qual scope f cdv A outer s H E) body t ∧ t { nx := fun _ H' => Q .non H', rt := Q } (start N vs) H) :
    FnG P w K mg base CX (k + 1) f fd ps sp := by
  obtain ⟨oc, od, dV, kV, doc, pm, an, cdv, ct, osl, rfl, look, code, _, _⟩ := F.ex
  refine ⟨len, fun A outer s H ar us vs Q E hr e0 hb r hsp => ?_⟩
  have hK : K.In s.heap := e0.mod.kin.keeps fun b o e => (e0.bs b o e).1
  have kinds : ∀ y ∈ ps.zip us, scope.names.lookup y.1 = some .local ∨ (scope.names.lookup y.1 = some .cell ∧ ((cellsFrom (s.heap.objs.size + 1) scope.names []).lookup y.1).isSome = true) := by
    intro y hy
    rcases S.par y.1 (List.of_mem_zip (show (y.1, y.2) ∈ _ from hy)).1 with q | q
    · exact .inl q
    · exact .inr ⟨q, PySem.W.cellsFrom_some _ _ _ (.inl q)⟩
  refine codeAny_call_function hr.1.depth (hK _ _ look) rfl S.co S.gen rfl (PySem.W.codeRec_of hK code) (hb _ _ _ _ ?_)
  refine wpAny_newFunctionEnv_cells S.kind kinds fun env he s1 x => ?_
  subst he
  refine ⟨(e0.mod.nolimit.keeps fun b o e => (e0.bs b o e).1).keeps x.toInCall.keep, codeAny_func ?_⟩
  obtain ⟨t, ht, hq⟩ := hbody cdv A outer s H vs Q E (hr.1.deeper _) hr.2 hsp
  have I := inv_start (CX := CX) (qual := qual) (f := f) (cd := cdv) (E := E) S hr.1.hd e0 (len _ _ _ _ hsp) r x
  refine wpAny_mono (ht.run [] s1 (start N vs) H _ I hq) (fun fl s' hs => ?_) fun _ _ hs => hs
  cases fl with
  | ret u =>
    obtain ⟨v, σ', H', J, rv, q⟩ := hs
    exact ⟨v, H', J.os, J.bare, J.base, J.hok, rv, q⟩
  | next =>
    obtain ⟨σ', H', J, q⟩ := hs
    exact ⟨V.non, H', J.os, J.bare, J.base, J.hok, (rfl : Value.none = Value.none), q⟩
  | brk =>
    obtain ⟨_, _, _, q⟩ := hs
    exact q.elim
  | cont =>
    obtain ⟨_, _, _, q⟩ := hs
    exact q.elim
end
section
variable {X : Cx} {CX : CXT} {k : Nat} {f : Addr} {fd : FuncData} {ps : List Str} {sp : Sp} {E : XK} {x : Str} {p pos : Pos} {e : Expr} {es : List Expr} {t : TA}
theorem goG {pins : List (Addr × Obj)} {σ : L2.St} {H : Hp} {s : Shared} {Q : VK} {us : List Value} {vs : List V} (F : FnG X.prog X.w X.K X.mg X.base CX k f fd ps sp) (hr : Room k X.A ∧ X.A.guards = some []) (hb : Binds X.K fd ps [])
    (hx : Passes CX X E) (I : Inv X pins σ H s) (r : Vals vs us) (h : sp vs H Q E) : wpAny (model X.prog X.w) X.A (call (.ref f) us) (EP X pins σ Q) X.xe s := by
  have hl : (us ++ []).length = ps.length := by
    rw [List.append_nil, ← r.length]
    exact F.args _ _ _ _ h
  have b := hb s us I.kIn hl
  rw [List.append_nil] at b
  refine wpAny_call (codeAny_mono (F.go X.A X.stack s H ⟨us, []⟩ us vs Q E hr I.env0 b r h) fun rr s' hq => ?_)
  cases rr with
  | error er => exact hx pins σ H s er s' I hq
  | ok fl =>
    cases fl with
    | ret u => exact I.after hq
    | next => exact hq.elim
    | brk => exact hq.elim
    | cont => exact hq.elim
theorem callG (F : FnG X.prog X.w X.K X.mg X.base CX k f fd ps sp) (hr : Room k X.A ∧ X.A.guards = some []) (hg : Gl X x) (hm : X.mg x = some (.ref f)) (hk : PySem.W.keepIn X.K (.ref f) = true) (hb : Binds X.K fd ps []) (hx : Passes CX X E)
    (ha : PA X (e :: es) t) (hdb : (x == ("__debug__" : Str)) = false) (he : starEach (e :: es) X.env = (false, eval e X.env) :: starEach es X.env) (hpl : (backTo pos (starEach es X.env)).any (·.1) = false) :
    PE X (.Call (.Name x p) (e :: es) [] pos) (fun σ H Q => t σ H fun vs H1 => sp vs H1 Q E) := by
  refine ⟨fun pins s σ H Q I h => wpAny_Call_Name_kw (ld_glob I hg hm ?_ hdb)⟩
  refine PySem.W.callWith_K (h₀ := X.base) I.ok.mod.kin hk ?_ he hpl
  exact thn (ha.run pos pins s σ H _ I h) fun us s1 ⟨vs, H1, I1, r, q⟩ => ⟨I1.kIn, goG F hr hb hx I1 r q⟩
theorem callG0 (F : FnG X.prog X.w X.K X.mg X.base CX k f fd ps sp) (hr : Room k X.A ∧ X.A.guards = some []) (hg : Gl X x) (hm : X.mg x = some (.ref f)) (hk : PySem.W.keepIn X.K (.ref f) = true) (hb : Binds X.K fd ps []) (hx : Passes CX X E)
    (hdb : (x == ("__debug__" : Str)) = false) : PE X (.Call (.Name x p) [] [] pos) (fun σ H Q => sp [] H Q E) :=
  ⟨fun pins s σ H Q I h => wpAny_Call_Name_kw (ld_glob I hg hm (PySem.W.callWith_K0 I.kIn hk (goG (us := []) F hr hb hx I .nil h)) hdb)⟩
end
end Nb

/-! Nb6: built-ins by values -/
namespace Nb
open PySem PySem.Spec PyProof.Rows L2
/-! ### the order of texts -/
theorem leS_iff {a b : Str} : leS a b = true ↔ ¬ b.cps.toList < a.cps.toList := by
  unfold leS
  rw [ltCps_eq]
  simp
theorem leS_total (a b : Str) : (leS a b || leS b a) = true := by
  rw [Bool.or_eq_true, leS_iff, leS_iff]
  by_cases h : b.cps.toList < a.cps.toList
  · exact .inr fun q => List.lt_irrefl _ (List.lt_trans h q)
  · exact .inl h
theorem leS_trans {a b c : Str} (h1 : leS a b = true) (h2 : leS b c = true) : leS a c = true := by
  rw [leS_iff] at *
  exact fun q => List.not_lt.mpr (List.le_trans (List.not_lt.mp h1) (List.not_lt.mp h2)) q
theorem leS_anti {a b : Str} (h1 : leS a b = true) (h2 : leS b a = true) : a = b := by
  rw [leS_iff] at *
  have e := List.le_antisymm (List.not_lt.mp h1) (List.not_lt.mp h2)
  cases a with
  | mk x =>
    cases b with
    | mk y =>
      have e : x.toList = y.toList := e
      rw [Array.toList_inj.mp e]
theorem risingS_pw : ∀ (l : List Str) (p : Str), risingS p l = true → (p :: l).Pairwise fun a b => leS a b = true
  | [], p, _ => by simp
  | x :: r, p, h => by
    have h : (!ltCps x.cps.toList p.cps.toList && risingS x r) = true := h
    obtain ⟨h1, h2⟩ := Bool.and_eq_true_iff.mp h
    have ih := risingS_pw r x h2
    refine List.pairwise_cons.mpr ⟨fun y hy => ?_, ih⟩
    have h1 : leS p x = true := h1
    rcases List.mem_cons.mp hy with e | hy
    · rw [e]
      exact h1
    · exact leS_trans h1 (List.rel_of_pairwise_cons ih hy)
theorem sortS_perm (xs : List Str) : (sortS xs).Perm xs := List.mergeSort_perm _ _
theorem sortS_pw (xs : List Str) : (sortS xs).Pairwise fun a b => leS a b = true := List.pairwise_mergeSort (le := leS) (fun _ _ _ => leS_trans) leS_total xs
theorem sortS_one {ys xs : List Str} (p : ys.Perm xs) (h : ys.Pairwise fun a b => leS a b = true) : ys = sortS xs :=
  List.Perm.eq_of_pairwise (le := fun a b => leS a b = true) (fun _ _ _ _ => leS_anti) h (sortS_pw xs) (p.trans (sortS_perm xs).symm)
theorem sortS_uniq {ys xs : List Str} (p : ys.Perm xs) (h : sortedS ys = true) : ys = sortS xs := by
  refine sortS_one p ?_
  cases ys with
  | nil => exact .nil
  | cons x r => exact risingS_pw r x h
theorem sortI_uniq {ys xs : List Int} (p : ys.Perm xs) (h : ys.Pairwise (· ≤ ·)) : ys = sortI xs := by
  have q : (sortI xs).Pairwise (· ≤ ·) := (List.pairwise_mergeSort (le := fun a b : Int => decide (a ≤ b)) (by simp; omega) (by simp; omega) xs).imp (by simp)
  exact List.Perm.eq_of_pairwise (le := (· ≤ ·)) (fun _ _ _ _ h1 h2 => by omega) h q (p.trans (List.mergeSort_perm _ _).symm)

section
variable {K : PySem.W.Frag} {mu mu' : List Addr} {H H' H0 : Hp} {m m' : Mm}
theorem allBl_rep : ∀ {ds : List D} {vs : List V} {bs : List Bool}, RepL K mu H ds vs → allBl ds = some bs → vs = bs.map V.bl
  | _, _, _, .nil, e => by
    cases e
    rfl
  | _, _, _, .cons h1 h2, e => by
    cases h1 with
    | bl b =>
      unfold allBl at e
      obtain ⟨bs, e1, e2⟩ := Option.map_eq_some_iff.mp e
      subst e2
      rw [allBl_rep h2 e1]
      rfl
    | _ => simp [allBl] at e
theorem allStr_rep : ∀ {ds : List D} {vs : List V} {bs : List Str}, RepL K mu H ds vs → allStr ds = some bs → vs = bs.map V.str
  | _, _, _, .nil, e => by
    cases e
    rfl
  | _, _, _, .cons h1 h2, e => by
    cases h1 with
    | str b =>
      unfold allStr at e
      obtain ⟨bs, e1, e2⟩ := Option.map_eq_some_iff.mp e
      subst e2
      rw [allStr_rep h2 e1]
      rfl
    | _ => simp [allStr] at e
theorem allInt_rep : ∀ {ds : List D} {vs : List V} {bs : List Int}, RepL K mu H ds vs → allInt ds = some bs → vs = bs.map V.int
  | _, _, _, .nil, e => by
    cases e
    rfl
  | _, _, _, .cons h1 h2, e => by
    cases h1 with
    | int b =>
      unfold allInt at e
      obtain ⟨bs, e1, e2⟩ := Option.map_eq_some_iff.mp e
      subst e2
      rw [allInt_rep h2 e1]
      rfl
    | _ => simp [allInt] at e
theorem repStrs : ∀ xs : List Str, RepL K mu H (xs.map D.str) (xs.map V.str)
  | [] => .nil
  | x :: xs => .cons (.str x) (repStrs xs)
theorem allKeyS_rep : ∀ {kvs : List (Key × D)} {vs : List (Key × V)} {ks : List Str}, RepKV K mu H kvs vs → allKeyS kvs = some ks → vs.map (·.1) = ks.map Sum.inr
  | _, _, _, .nil, e => by
    cases e
    rfl
  | (.inr x, _) :: _, (_, _) :: _, _, .cons h1 h2, e => by
    unfold allKeyS at e
    obtain ⟨bs, e1, e2⟩ := Option.map_eq_some_iff.mp e
    subst e2
    rw [List.map_cons, allKeyS_rep h2 e1]
    rfl
  | (.inl x, _) :: _, _ :: _, _, .cons h1 h2, e => by simp [allKeyS] at e
theorem keys_rep : ∀ {kvs : List (Key × D)} {vs : List (Key × V)}, RepKV K mu H kvs vs → RepL K mu H (kvs.map fun p => keyV p.1) (vs.map fun kv => kV kv.1)
  | _, _, .nil => .nil
  | (.inr x, _) :: _, _, .cons h1 h2 => .cons (.str x) (keys_rep h2)
  | (.inl x, _) :: _, _, .cons h1 h2 => .cons (.int x) (keys_rep h2)
end

/-- one value in: what a built-in tells, over the store -/
def rCl (K : PySem.W.Frag) (f : Mm → Out → Option (Out × Mm)) : List V → Hp → VK → Prop := fun xs H Q => ∃ mu m o H0 out m' x, xs = [x] ∧ SR K mu m H ∧ (∀ a, H0 a ≠ none → H a ≠ none) ∧ OR K H0 mu H o x ∧ f m o = some (out, m') ∧
  ∀ v H' mu', Nxt mu H mu' H' → SR K mu' m' H' → OR K H0 mu' H' out v → Q v H'
section
variable {X : Cx}
theorem cl_len : CallR X (.builtin "len") (rCl X.K (bltO .len)) := by
  intro pins s σ H xs us Q I r h
  obtain ⟨mu, m, o, H0, out, m', x, rfl, S, hb, ho, e, q⟩ := h
  obtain ⟨n, e1, e2⟩ := Option.map_eq_some_iff.mp (show (lenO m o).map _ = some (out, m') from e)
  cases e2
  have qn : Q (.int (n : Nat)) H := q _ H mu (Nxt.refl S) S (.int _)
  unfold lenO at e1
  cases ed : dctO m o with
  | some kvs =>
    simp only [ed] at e1
    obtain ⟨k, p, vs, rfl, _, rfl, hp, hr⟩ := dctO_ok S ho ed
    have e1 : kvs.length = n := Option.some.inj e1
    subst e1
    rw [kv_len hr] at qn
    exact call_lenD pins s σ H _ us Q I r ⟨p, vs, rfl, hp, qn⟩
  | none =>
    simp only [ed] at e1
    cases ez : strO o with
    | some z =>
      simp only [ez] at e1
      obtain rfl := strO_eq ez
      obtain ⟨hz, e1⟩ := ite_some e1
      subst e1
      rw [str_or ho] at r
      exact call_len_str pins s σ H _ us Q I r ⟨z, rfl, hz, qn⟩
    | none =>
      simp only [ez] at e1
      obtain ⟨ds, e3, e4⟩ := Option.map_eq_some_iff.mp e1
      subst e4
      obtain ⟨p, vs, rfl, hp, hr⟩ := seqO_ok S ho e3
      rw [hr.length] at qn
      exact call_len_seq pins s σ H _ us Q I r ⟨p, vs, rfl, hp, qn⟩
theorem cl_tuple : CallR X (.type "tuple") (rCl X.K (bltO .tuple)) := by
  intro pins s σ H xs us Q I r h
  obtain ⟨mu, m, o, H0, out, m', x, rfl, S, hb, ho, e, q⟩ := h
  obtain ⟨ds, e1, e2⟩ := Option.map_eq_some_iff.mp (show (seqO m o).map _ = some (out, m') from e)
  cases e2
  by_cases ht : ∃ es, o = .val (.tup es)
  · obtain ⟨es, rfl⟩ := ht
    cases e1
    cases ho with
    | tup h1 h2 => exact call_tupF pins s σ H _ us Q I r ⟨_, _, rfl, .inr ⟨h1.sqT, q _ H mu (Nxt.refl S) S (.tup h1 h2)⟩⟩
  · obtain ⟨p, vs, rfl, hp, hr⟩ := sl_seq S ho (fun es z => ht ⟨es, z⟩) e1
    refine call_tupF pins s σ H _ us Q I r ⟨p, vs, rfl, .inl ⟨hp, fun z its n nz => ?_⟩⟩
    exact q _ _ mu (Nxt.laid S nz) (S.laid nz) (.tup FT.new (hr.nxt (Nxt.laid S nz) S.notup))
theorem or_new {K : PySem.W.Frag} {mu : List Addr} {m : Mm} {H H0 : Hp} {ds : List D} {vs : List V} {z : Addr} (S : SR K mu m H) (hb : ∀ a, H0 a ≠ none → H a ≠ none) (hr : RepL K mu H ds vs) (nz : H z = none) : OR K H0 mu (upd H z (.lst vs)) (.tmp ds) (.ref z) :=
  ⟨z, _, rfl, upd_same, hr.nxt (Nxt.laid S nz) S.notup, fun hm => S.trk z hm nz, Classical.byContradiction fun w => hb z w nz⟩
theorem cl_list (hc : X.calm = true) : CallR X (.type "list") (rCl X.K (bltO .list)) := by
  intro pins s σ H xs us Q I r h
  obtain ⟨mu, m, o, H0, out, m', x, rfl, S, hb, ho, e, q⟩ := h
  unfold bltO at e
  cases ed : dctO m o with
  | some kvs =>
    simp only [ed] at e
    obtain ⟨k, p, vs, rfl, _, rfl, hp, hr⟩ := dctO_ok S ho ed
    cases e
    exact call_list_dK hc pins s σ H _ us Q I r ⟨p, vs, rfl, hp, fun z nz => q _ _ mu (Nxt.laid S nz) (S.laid nz) (or_new S hb (keys_rep hr) nz)⟩
  | none =>
    simp only [ed] at e
    obtain ⟨ds, e1, e2⟩ := Option.map_eq_some_iff.mp e
    cases e2
    obtain ⟨p, vs, rfl, hp, hr⟩ := seqO_ok S ho e1
    exact call_list_of pins s σ H _ us Q I r ⟨p, vs, rfl, hp, fun z nz => q _ _ mu (Nxt.laid S nz) (S.laid nz) (or_new S hb hr nz)⟩
theorem cl_all (hc : X.calm = true) : CallR X (.builtin "all") (rCl X.K (bltO .all)) := by
  intro pins s σ H xs us Q I r h
  obtain ⟨mu, m, o, H0, out, m', x, rfl, S, hb, ho, e, q⟩ := h
  obtain ⟨ds, e1, e2⟩ := Option.bind_eq_some_iff.mp (show (lstO m o).bind _ = some (out, m') from e)
  obtain ⟨bs, e3, e4⟩ := Option.map_eq_some_iff.mp e2
  cases e4
  obtain ⟨p, vs, rfl, hp, hr⟩ := lstO_ok S ho e1
  obtain rfl := allBl_rep hr e3
  exact cr_all hc pins s σ H _ us Q I r ⟨p, bs, rfl, .inl (.inl hp), q _ H mu (Nxt.refl S) S (.bl _)⟩
theorem cl_any (hc : X.calm = true) : CallR X (.builtin "any") (rCl X.K (bltO .any)) := by
  intro pins s σ H xs us Q I r h
  obtain ⟨mu, m, o, H0, out, m', x, rfl, S, hb, ho, e, q⟩ := h
  obtain ⟨ds, e1, e2⟩ := Option.bind_eq_some_iff.mp (show (lstO m o).bind _ = some (out, m') from e)
  obtain ⟨bs, e3, e4⟩ := Option.map_eq_some_iff.mp e2
  cases e4
  obtain ⟨p, vs, rfl, hp, hr⟩ := lstO_ok S ho e1
  obtain rfl := allBl_rep hr e3
  exact cr_any hc pins s σ H _ us Q I r ⟨p, bs, rfl, .inl (.inl hp), q _ H mu (Nxt.refl S) S (.bl _)⟩
theorem cl_sorted (hc : X.calm = true) : CallR X (.builtin "sorted") (rCl X.K (bltO .sorted)) := by
  intro pins s σ H xs us Q I r h
  obtain ⟨mu, m, o, H0, out, m', x, rfl, S, hb, ho, e, q⟩ := h
  obtain ⟨ds, e1, e2⟩ := Option.map_eq_some_iff.mp (show (sortedO m o).map _ = some (out, m') from e)
  cases e2
  unfold sortedO at e1
  cases ed : dctO m o with
  | some kvs =>
    simp only [ed] at e1
    obtain ⟨k, p, vs, rfl, _, rfl, hp, hr⟩ := dctO_ok S ho ed
    obtain ⟨ks, e2, e3⟩ := Option.bind_eq_some_iff.mp e1
    obtain ⟨h64, e3⟩ := ite_some e3
    subst e3
    refine call_sortedD hc pins s σ H _ us Q I r ⟨p, vs, ks, rfl, .inl hp, allKeyS_rep hr e2, h64, fun ys z hp hs nz => ?_⟩
    obtain rfl := sortS_uniq hp hs
    exact q _ _ mu (Nxt.laid S nz) (S.laid nz) (or_new S hb (repStrs _) nz)
  | none =>
    simp only [ed] at e1
    obtain ⟨es, e2, e3⟩ := Option.bind_eq_some_iff.mp e1
    obtain ⟨p, vs, rfl, hp, hr⟩ := lstO_ok S ho e2
    cases ea : allStr es with
    | some ss =>
      simp only [ea] at e3
      obtain ⟨h64, e3⟩ := ite_some e3
      subst e3
      obtain rfl := allStr_rep hr ea
      refine cr_sortedS pins s σ H _ us Q I r ⟨p, ss, rfl, .inl (.inl hp), h64, fun ys z hp hs nz => ?_⟩
      obtain rfl := sortS_uniq hp hs
      exact q _ _ mu (Nxt.laid S nz) (S.laid nz) (or_new S hb (repStrs _) nz)
    | none =>
      simp only [ea] at e3
      obtain ⟨ns, e5, e4⟩ := Option.map_eq_some_iff.mp e3
      subst e4
      obtain rfl := allInt_rep hr e5
      refine cr_sortedI pins s σ H _ us Q I r ⟨p, ns, rfl, .inl (.inl hp), fun ys z hp hs nz => ?_⟩
      obtain rfl := sortI_uniq hp hs
      exact q _ _ mu (Nxt.laid S nz) (S.laid nz) (or_new S hb (repInts _) nz)
theorem cl_str : CallR X (.type "str") (rCl X.K (bltO .str)) := by
  intro pins s σ H xs us Q I r h
  obtain ⟨mu, m, o, H0, out, m', x, rfl, S, hb, ho, e, q⟩ := h
  unfold bltO at e
  cases ei : bndO o with
  | none =>
    simp only [ei] at e
    cases e
  | some i =>
    simp only [ei] at e
    obtain rfl := bndO_eq ei
    obtain ⟨h1, e⟩ := ite_some e
    cases e
    rw [int_or ho] at r
    exact call_str_int pins s σ H _ us Q I r ⟨i, rfl, h1, q _ H mu (Nxt.refl S) S (.str _)⟩
theorem cl_int : CallR X (.type "int") (rCl X.K (bltO .int_)) := by
  intro pins s σ H xs us Q I r h
  obtain ⟨mu, m, o, H0, out, m', x, rfl, S, hb, ho, e, q⟩ := h
  unfold bltO at e
  simp only at e
  split at e
  · cases e
    rw [bl_or ho] at r
    exact call_int1 pins s σ H _ us Q I r (.inr ⟨_, rfl, q _ H mu (Nxt.refl S) S (.int _)⟩)
  · cases e
    rw [int_or ho] at r
    exact call_int1 pins s σ H _ us Q I r (.inl ⟨_, rfl, q _ H mu (Nxt.refl S) S (.int _)⟩)
  · cases e
theorem cl_repr (hg : X.A.guards = some []) (hu : X.A.units + 66 < cLine) : CallR X (.builtin "repr") (rCl X.K (bltO .repr)) := by
  intro pins s σ H xs us Q I r h
  obtain ⟨mu, m, o, H0, out, m', x, rfl, S, hb, ho, e, q⟩ := h
  obtain ⟨z, e1, e2⟩ := Option.map_eq_some_iff.mp (show (reprO m o).map _ = some (out, m') from e)
  cases e2
  obtain ⟨p, e5, e6⟩ := Option.bind_eq_some_iff.mp e1
  obtain ⟨hz, e6⟩ := ite_some e6
  subst e6
  simp only [Bool.and_eq_true, decide_eq_true_eq, Bool.not_eq_true'] at hz
  obtain ⟨⟨⟨h1, h2⟩, h3⟩, h4⟩ := hz
  have dp := toP_ok S ho e5
  have qn : Q (.str p.shown) H := q _ H mu (Nxt.refl S) S (.str _)
  obtain ⟨u, rfl, rx⟩ := vals1 r
  obtain ⟨as, rd⟩ := Dp.reads I p x u dp rx
  have fin : ∀ tk, EP X pins σ Q (.str p.shown s.toks) { s with toks := tk } := fun tk => ⟨.str p.shown, H, I.tok tk, ⟨_, rfl⟩, qn⟩
  cases dp with
  | non =>
    cases rx
    exact PySem.P.repr_of_none (fin _)
  | bl b =>
    cases rx
    exact PySem.P.repr_of_bool (fin _)
  | int i =>
    obtain ⟨t, rfl⟩ := rx
    exact PySem.P.repr_of_int (of_decide_eq_true h1) (fin _)
  | str y =>
    obtain ⟨t, rfl⟩ := rx
    exact PySem.P.repr_of_str (fin _) h4
  | lst hs ha =>
    cases rx
    exact repr_of_reads' rd h1 (PySem.PyData.noDict_hsm h2) hg (by omega) (fun _ _ e => e) (fun h' u tk hk => ⟨.str _, H, I.kept (t' := tk) hk, ⟨_, rfl⟩, qn⟩) h4
  | tup hs ha =>
    cases rx
    exact repr_of_reads' rd h1 (PySem.PyData.noDict_hsm h2) hg (by omega) (fun _ _ e => e) (fun h' u tk hk => ⟨.str _, H, I.kept (t' := tk) hk, ⟨_, rfl⟩, qn⟩) h4
theorem kit_ty (K : PySem.W.Frag) {u t : String} (hu : u ∈ ["NoneType", "bool", "int", "str", "tuple", "list", "dict"]) (ht : t ∈ ["bool", "int", "str", "tuple", "list", "dict"]) : PySem.W.kitOne K (.type u) (.type t) = some (isiT u t) := by
  simp only [List.mem_cons, List.not_mem_nil, or_false] at hu ht
  rcases hu with rfl | rfl | rfl | rfl | rfl | rfl | rfl <;> rcases ht with rfl | rfl | rfl | rfl | rfl | rfl <;> rfl
end
end Nb

/-! Nb7: dict(pairs), also of a tuple -/
namespace Nb
open PySem PySem.Spec PyProof.Rows L2
section
variable {K : PySem.W.Frag} {mu mu' : List Addr} {H H' H0 : Hp} {m m' : Mm}
theorem pairs_rep : ∀ {ds : List D} {vs : List V} {ps : List (Key × D)}, RepL K mu H ds vs → pairsD ds = some ps →
    ∃ (as : List Addr) (kvs : List (Key × V)), vs = as.map V.ref ∧ Paired (fun p kv => SqT K H p [kV kv.1, kv.2]) as kvs ∧ RepKV K mu H ps kvs
  | _, _, _, .nil, e => by
    cases e
    exact ⟨[], [], rfl, .nil, .nil⟩
  | d :: ds, v :: vs, ps, .cons h1 h2, e => by
    unfold pairsD at e
    split at e
    · rename_i hd
      cases hd
    · rename_i k w r hd
      cases hd
      obtain ⟨k', e1, e2⟩ := Option.bind_eq_some_iff.mp e
      obtain ⟨ps', e3, e4⟩ := Option.map_eq_some_iff.mp e2
      subst e4
      obtain ⟨as, kvs, rfl, hp, hk⟩ := pairs_rep h2 e3
      cases h1 with
      | tup f r =>
        cases r with
        | cons r1 r =>
          cases r with
          | cons r2 r =>
            cases r
            have ek := key_or (H0 := H) (show OR K H mu H (.val k) _ from r1) e1
            subst ek
            exact ⟨_ :: as, (k', _) :: kvs, rfl, .cons f.sqT hp, .cons r2 hk⟩
    · cases e
theorem kv_merge {more : List (Key × D)} : ∀ {ms : List (Key × V)} {kvs : List (Key × D)} {vs : List (Key × V)}, RepKV K mu H more ms → RepKV K mu H kvs vs → RepKV K mu H (mergeD kvs more) (mergeK vs ms) := by
  induction more with
  | nil =>
    intro ms kvs vs h1 h
    cases h1
    exact h
  | cons p r ih =>
    intro ms kvs vs h1 h
    cases h1 with
    | cons q1 q2 =>
      rename_i k d v us
      have z := ih q2 (kv_put (k := k) q1 h)
      exact z
end
section
variable {X : Cx} {pins : List (Addr × Obj)} {σ : L2.St} {H : Hp} {s : Shared}
theorem ft_phys (I : Inv X pins σ H s) {a : Addr} {vs : List V} (h : FT X.K H a vs) : ∃ its n, s.heap.get? a = some (tupO its n) ∧ Vals vs its.toList ∧ vs.length ≤ sizeLine := by
  rcases h with ⟨its, n, h⟩ | ⟨its, n, h1, h2, h3⟩
  · obtain ⟨e, hz, its', r, o, e2, _, n', e3⟩ := I.hok a _ h
    have e4 := e.symm.trans e2
    cases e4
    have e3 : Data.seq its n = Data.seq its'.toArray n' := e3
    cases e3
    exact ⟨its'.toArray, n, e, by simpa using r, hz⟩
  · refine ⟨its, n, I.kIn a _ h1, h3, ?_⟩
    rw [h3.length, Array.length_toList]
    exact h2
theorem pairs_of2 (I : Inv X pins σ H s) : ∀ {as : List Addr} {kvs : List (Key × V)}, Paired (fun p kv => SqT X.K H p [kV kv.1, kv.2]) as kvs →
    ∃ (prs : List (Key × Value)) (qs : List (Value × Value)), KV kvs prs ∧ prs.length = as.length ∧ qs.length = as.length ∧
      ∀ (j : Nat) (q : Value × Value), qs[j]? = some q → ∃ (b : Addr) (k : Key), as[j]? = some b ∧ s.heap.IsTuple b #[q.1, q.2] ∧ prs[j]? = some (k, q.2) ∧ keyIs k q.1 = true
  | _, _, .nil => ⟨[], [], .nil, rfl, rfl, fun j q e => by simp at e⟩
  | _, _, .cons (a := p) (b := kv) h t => by
    obtain ⟨prs, qs, r, hl, hq, hp⟩ := pairs_of2 I t
    obtain ⟨its, rv, ht, _⟩ := I.tuple h
    obtain ⟨u, y, rfl, ru, ry⟩ := vals2 rv
    refine ⟨(kv.1, y) :: prs, (u, y) :: qs, .cons ⟨rfl, ry⟩ r, by rw [List.length_cons, List.length_cons, hl], by rw [List.length_cons, List.length_cons, hq], fun j q e => ?_⟩
    cases j with
    | zero =>
      have e' : (u, y) = q := Option.some.inj e
      subst e'
      obtain ⟨o, ho, hc, n, hd⟩ := ht
      exact ⟨p, kv.1, rfl, ⟨o, ho, hc, n, hd⟩, rfl, kV_is (P := X.prog) (w := X.w) ru⟩
    | succ j =>
      obtain ⟨b, k, e1, e2, e3, e4⟩ := hp j q (by simpa using e)
      exact ⟨b, k, by simpa using e1, e2, by simpa using e3, e4⟩
/-- a new object joins the store at once -/
theorem st_new {K : PySem.W.Frag} {mu : List Addr} {m : Mm} {H : Hp} {p : Addr} {o : HO} {ob : MO} (S : SR K mu m H) (np : H p = none) (h : MRep K mu (upd H p o) p ob) : SR K (mu ++ [p]) (m ++ [ob]) (upd H p o) ∧ Nxt mu H (mu ++ [p]) (upd H p o) ∧ (mu ++ [p])[m.length]? = some p := by
  have S1 := S.laid (o := o) np
  refine ⟨S1.join (fun hm => S.trk p hm np) h, (Nxt.laid S np).join S1 np h, ?_⟩
  rw [List.getElem?_append_right (by rw [S.len]; exact Nat.le_refl _), S.len, Nat.sub_self]
  rfl
theorem cl_dict (hc : X.calm = true) : CallR X (.type "dict") (rCl X.K (bltO .dict)) := by
  intro pins s σ H xs us Q I r h
  obtain ⟨mu, m, o, H0, out, m', x, rfl, S, hb, ho, e, q⟩ := h
  obtain ⟨ds, e1, e2⟩ := Option.bind_eq_some_iff.mp (show (seqO m o).bind _ = some (out, m') from e)
  obtain ⟨ps, e3, e4⟩ := Option.map_eq_some_iff.mp e2
  cases e4
  have fin : ∀ (p : Addr) (kvs : List (Key × V)), H p = none → RepKV X.K mu H ps kvs → Q (.ref p) (upd H p (.dK (mergeK [] kvs))) := fun p kvs np hk => by
    have hk' : RepKV X.K mu (upd H p (.dK (mergeK [] kvs))) (mergeD [] ps) (mergeK [] kvs) := (kv_merge hk .nil).nxt (Nxt.laid S np) S.notup
    obtain ⟨S1, N1, e5⟩ := st_new (ob := .dct (mergeD [] ps)) S np ⟨_, upd_same, hk'⟩
    exact q _ _ _ N1 S1 (.ref e5)
  by_cases ht : ∃ es, o = .val (.tup es)
  · obtain ⟨es, rfl⟩ := ht
    cases e1
    cases ho with
    | tup h1 h2 =>
      rename_i a vs
      obtain ⟨as, kvs, rfl, hp, hk⟩ := pairs_rep h2 e3
      obtain ⟨its, n, eo, rv, hz⟩ := ft_phys I h1
      have ei := refs_at rv
      rw [List.length_map] at hz
      obtain ⟨prs, qs, rel, hl, hq, hpr⟩ := pairs_of2 I hp
      obtain ⟨u, rfl, rx⟩ := vals1 r
      cases rx
      have ok : PlainSeq "tuple" s.heap a its ∧ PairItems s.heap its (fun j => (as[j]?).getD 0) qs := by
        refine ⟨⟨_, n, eo, rfl, rfl, rfl⟩, ?_, fun j k v e => ?_⟩
        · rw [← Array.length_toList, ei, List.length_map, hq]
        · obtain ⟨b, k', e1, e2, e3, e4⟩ := hpr j _ e
          refine ⟨?_, .inl ?_⟩
          · rw [← Array.getElem?_toList, ei, List.getElem?_map, e1]
            show some (Value.ref b) = some (Value.ref ((as[j]?).getD 0))
            rw [e1]
            rfl
          · show s.heap.IsTuple ((as[j]?).getD 0) _
            rw [e1]
            exact e2
      refine PySem.call_dict_pairs (knd := mixKind X.prog X.w) (kvs := prs) (PairArg.tuple a its (fun j => (as[j]?).getD 0) qs) (I.ok.hd hc) ok ⟨by rw [hl, hq], fun j k v e => ?_⟩ (by rw [hq]; exact hz) fun h' tk hd' k => ?_
      · obtain ⟨b, k', e1, e2, e3, e4⟩ := hpr j _ e
        exact ⟨k', e3, e4⟩
      · have hm : (s.heap.objs.size == sysModules) = false := beq_eq_false_iff_ne.mpr (Nat.ne_of_gt I.big)
        have hlen : (mergeK [] kvs).length ≤ sizeLine := by
          refine Nat.le_trans (length_mergeK kvs []) ?_
          rw [List.length_nil, Nat.zero_add, rel.length, hl]
          exact hz
        exact ⟨.ref s.heap.objs.size, upd H s.heap.objs.size (.dK (mergeK [] kvs)), I.laid (t' := tk) (fun b o e => k b o (by simp) e) (Nat.le_refl _) (show ObjOk X.prog X.w _ _ _ (.dK (mergeK [] kvs)) from ⟨hlen, hm, merged [] prs, KV.merge rel .nil, hd'⟩), rfl, fin _ _ (I.hok.fresh (Nat.le_refl _)) hk⟩
  · obtain ⟨p, vs, rfl, hp, hr⟩ := sl_seq S ho (fun es z => ht ⟨es, z⟩) e1
    obtain ⟨as, kvs, rfl, hps, hk⟩ := pairs_rep hr e3
    exact call_dictP hc pins s σ H _ us Q I r ⟨p, as, kvs, rfl, hp, hps, fun z nz => fin z kvs nz hk⟩
end
open PySem.Froz (SD sObj TxOk addTx tailTx)
/-- the set of the texts l at a -/
structure SxR (P : Program) (w : World) (h : Heap) (a : Addr) (l : List Str) (D : SD) : Prop where
  ob : h.get? a = some (sObj "set" D)
  ok : TxOk P w D l
  nd : l.Nodup
  ris : Ris D.2.2.place.toList
  led : w.params.followText "set-order" = true ∨ D.2.2.led = true
theorem ris_tail {ep : Nat} {es : Array (Int × Value)} {t : SetTable} {b : Bool} (r : Ris t.place.toList) : Ris (tailTx ep es t b).2.2.place.toList := by
  unfold tailTx
  split
  · exact relayAll_ris t es _
  · exact r
theorem led_tail {ep : Nat} {es : Array (Int × Value)} {t : SetTable} {b : Bool} : (tailTx ep es t b).2.2.led = t.led := by
  unfold tailTx
  split
  · exact relayAll_led t es _
  · rfl
theorem ris_add {h : Int} {v : Value} {D : SD} (r : Ris D.2.2.place.toList) : Ris (addTx h v D).2.2.place.toList := by
  unfold addTx
  refine ris_tail ?_
  have r1 := layNew_ris D.2.2 D.1 h v r
  split
  · exact r1
  · exact r1
theorem led_add {h : Int} {v : Value} {D : SD} : (addTx h v D).2.2.led = D.2.2.led := by
  unfold addTx
  rw [led_tail]
  have r1 := layNew_led D.2.2 D.1 h v
  split
  · exact r1
  · exact r1
section
variable {P : Program} {w : World} {A : Around} {E : Value → Shared → Prop} {s : Shared}
theorem SxR.keep {h h' : Heap} {a : Addr} {l : List Str} {D : SD} (R : SxR P w h a l D) (k : ∀ o, h.get? a = some o → h'.get? a = some o) : SxR P w h' a l D := ⟨k _ R.ob, R.ok, R.nd, R.ris, R.led⟩
/-- one more text, known already or not -/
theorem sx_put {a : Addr} {l : List Str} {D : SD} {z : Str} {u : Tok} {Q : Bool → Shared → Prop} (R : SxR P w s.heap a l D) (room : l.length + 1 < scanBound)
    (q : ∀ b h' l' D', Heap.SameBut a s.heap h' → SxR P w h' a l' D' → (∀ y, y ∈ l' ↔ y = z ∨ y ∈ l) → l'.length ≤ l.length + 1 → Q b { s with heap := h' }) :
    wpAny (model P w) A (setAddHashed a (.str z u) (hashStr w z)) Q E s := by
  by_cases hz : z ∈ l
  · have hel := R.ok.el
    have hkey : (PySem.strKind P w).is z (.str z u) = true := PySem.Froz.is_str z u
    have few : D.1.size < scanBound := by
      have := R.ok.sz
      omega
    unfold setAddHashed setAddHashedIn
    refine wpAny_holding (wpAny_bind (wpAny_setState_of R.ob (show (sObj "set" D).data = .set D.1 D.2.1 D.2.2 from rfl) R.ok.fit ?_))
    dsimp only
    rw [byScan_of (show (Value.str z u).scannable = true from rfl) few hel]
    simp only [↓reduceIte]
    unfold setAddByScan
    refine wpAny_bind (wpAny_bind (wpAny_rule (wpAny_bind ?_)))
    refine wpAny_setScan_of (knd := PySem.strKind P w) (k := z) hkey R.ob (show (sObj "set" D).data = .set D.1 D.2.1 D.2.2 from rfl) R.ok.fit hel ?_
    cases hf : List.findIdx? (fun e => (PySem.strKind P w).is z e.2) D.1.toList with
    | some j =>
      dsimp only
      exact wpAny_pure (wpAny_pure (q _ s.heap l D (Heap.SameBut.refl a s.heap) R (fun y => ⟨.inr, fun h => h.elim (fun e => e ▸ hz) id⟩) (Nat.le_succ _)))
    | none =>
      exfalso
      obtain ⟨e, he, qe⟩ := (R.ok.mem z).mp hz
      have c := List.findIdx?_eq_none_iff.mp hf e he
      rw [qe] at c
      cases c
  · refine PySem.Froz.add_x R.ob R.ok hz room ?_
    refine q true _ (z :: l) (addTx (hashStr w z) (.str z u) D) (Heap.SameBut.update s.heap a _) ⟨PySem.Froz.get_upd _ R.ob rfl, PySem.Froz.add_ok u R.ok, List.nodup_cons.mpr ⟨hz, R.nd⟩, ris_add R.ris, R.led.imp id fun e => led_add.trans e⟩ (fun y => List.mem_cons) (Nat.le_refl _)
end
section
variable {P : Program} {w : World} {A : Around} {R : Result → Shared → Prop} {I : Addr} {fp wr : List Addr} {G : Array GenState → Array GenState → Prop} {n : Nat} {Pv : Nat → Value → Prop} {St : Nat → Shared → Prop}
/-- the walk that fills the set: the texts xs, one by one -/
theorem sx_fill (W : WalksS P w A.in1 I fp wr G n Pv St) (S : Addr) (hS : S ∉ fp) (xs : List Str) (hx : xs.length = n) (room : n + 1 < scanBound) (hv : ∀ i v, Pv i v → ∃ z t, xs[i]? = some z ∧ v = .str z t) :
    ∀ (k i : Nat) (s : Shared) (l : List Str) (D : SD), n - i = k → i ≤ n → St i s → SxR P w s.heap S l D → (∀ y, y ∈ l ↔ y ∈ xs.take i) → l.length ≤ i →
      (∀ s' l' D', Moved (S :: wr) G s s' → SxR P w s'.heap S l' D' → (∀ y, y ∈ l' ↔ y ∈ xs) → l'.length ≤ n → R (.ok (.ret .none)) s') →
      codeAny (model P w) A (.builtin "set.update.loop" ⟨[.ref S, .ref I], []⟩) R s := by
  have nw : S ∉ wr := fun h => hS (W.sub _ h)
  have up : ∀ b ∈ wr, b ∈ S :: wr := fun b hb => List.mem_cons_of_mem _ hb
  intro k
  induction k with
  | zero =>
    intro i s l D hk hi hst hR hm hl q
    obtain rfl : i = n := by omega
    refine codeAny_builtin PyProof.Rows.F.entry_set_update_loop ?_
    rw [Around.under_plainId PyProof.Rows.F.plain_set_update_loop _]
    show wpAny _ A.in1 (pyNext (.ref I) >>= _) _ _ s
    refine wpAny_bind (W.done s _ _ hst fun s' mv => ?_)
    show wpAny _ A.in1 (ret Value.none) _ _ s'
    refine wpAny_pure (q s' l D (mv.mono up) (hR.keep fun o e => mv.heap S o nw e) (fun y => ?_) hl)
    rw [hm y, ← hx, List.take_length]
  | succ k ih =>
    intro i s l D hk hi hst hR hm hl q
    have lt : i < n := by omega
    refine codeAny_builtin PyProof.Rows.F.entry_set_update_loop ?_
    rw [Around.under_plainId PyProof.Rows.F.plain_set_update_loop _]
    show wpAny _ A.in1 (pyNext (.ref I) >>= _) _ _ s
    refine wpAny_bind (W.item i s _ _ lt hst fun v s' hp hst' mv => ?_)
    obtain ⟨z, t, hz, rfl⟩ := hv i v hp
    have hR' := hR.keep fun o e => mv.heap S o nw e
    show wpAny _ A.in1 (holding [Value.str z t] (setAdd S (.str z t)) >>= _) _ _ s'
    refine wpAny_bind (wpAny_holding ?_)
    unfold setAdd
    refine wpAny_holding (wpAny_bind ((PySem.strKind P w).pyHash (k := z) (PySem.Froz.is_str z t) ?_))
    refine sx_put (s := { s' with toks := s'.toks + 1 }) hR' (by omega) fun b h' l' D' same hR2 hm2 hl2 => ?_
    refine wpAny_pure ⟨plainId_quiet PyProof.Rows.F.plain_set_update_loop _, ih (i + 1) _ l' D' (by omega) lt (W.frame _ s' _ _ hst' (Nat.le_succ _) fun b hb o e => ?_) hR2 (fun y => ?_) (by omega) fun s2 l2 D2 mv2 hR3 hm3 hl3 => ?_⟩
    · exact (same.2 b fun e' => hS (e' ▸ hb)).trans e
    · rw [hm2 y, hm y, List.take_succ, hz, List.mem_append, Option.toList_some, List.mem_singleton]
      exact Or.comm
    · refine q s2 l2 D2 (Moved.trans W.gtrans ((mv.mono up).then_heap (Nat.le_succ _) fun b o hb e => ?_) mv2) hR3 hm3 hl3
      exact (same.2 b fun e' => hb (e' ▸ List.mem_cons_self)).trans e
end
theorem strs_get : ∀ {us : List Value} {xs : List Str}, StrsAre us xs → ∀ (i : Nat) (v : Value), us[i]? = some v → ∃ z t, xs[i]? = some z ∧ v = .str z t
  | _, _, .cons z t _, 0, v, h => ⟨z, t, rfl, (Option.some.inj h).symm⟩
  | _, _, .cons z t r, i + 1, v, h => strs_get r i v h
section
variable {P : Program} {w : World} {A : Around} {E : Value → Shared → Prop} {s : Shared}
/-- a new set -/
def newSx (w : World) : Obj := sObj "set" (#[], 0, .fresh 0 0 (!w.params.followText "set-order"))
theorem sx_new {h : Heap} {a : Addr} (e : h.get? a = some (newSx w)) : SxR P w h a [] (#[], 0, .fresh 0 0 (!w.params.followText "set-order")) :=
  ⟨e, PySem.Froz.TxOk.nil rfl, List.nodup_nil, List.Pairwise.nil, by
    show _ ∨ (!w.params.followText "set-order") = true
    cases w.params.followText "set-order"
    · exact .inr rfl
    · exact .inl rfl⟩
set_option maxHeartbeats 3200000 in
/-- set(xs), xs a list of texts -/
theorem sx_call {l : Addr} {items : Array Value} {xs : List Str} {Q : Value → Shared → Prop} (hh : A.handled = none) (hl : s.heap.IsList l items) (hi : StrsAre items.toList xs) (few : xs.length + 1 < scanBound)
    (q : ∀ (h' : Heap) (tk : Nat) (ys : List Str) (D : SD), SxR P w h' s.heap.objs.size ys D → (∀ y, y ∈ ys ↔ y ∈ xs) → ys.length ≤ xs.length → (∀ b o, s.heap.get? b = some o → h'.get? b = some o) → Q (.ref s.heap.objs.size) { s with heap := h', toks := tk }) :
    wpAny (model P w) A (call (.type "set") [.ref l]) Q E s := by
  obtain ⟨c0, tl0, hmro⟩ := PySem.F.called_set.mro
  have hmade := PySem.F.called_set.made
  have hsub := PySem.F.called_set.sub
  refine wpAny_call (codeAny_of_tree ?_)
  show wpAny _ _ (callAny (.type "set") _) _ _ _
  refine wpAny_pure ⟨Code.quiet_builtin _ (by decide +kernel), codeAny_builtin PySem.F.entry_type_call ?_⟩
  rw [Around.under_plain (weight_type_call_type "set" [.ref l] []) rfl]
  have g1 := PySem.F.called_set.notType
  have g2 := PySem.F.called_set.canCreate
  have g3 := PySem.F.typeCall_set_1 (.ref l)
  repeat (any_goals (first | assumption | wp_step))
  refine codeAny_mono (code_set_led1 (.ref l) (E := E) (Q₁ := fun ob s1 => ob = .ref s.heap.objs.size ∧ s1 = { s with heap := s.heap.push (newSx w) }) ⟨rfl, rfl⟩) fun r s1 hr => ?_
  match r, hr with
  | .error e, hr => exact hr
  | .ok (.ret ob), hr =>
    obtain ⟨rfl, rfl⟩ := hr
    have hS : (s.heap.push (newSx w)).get? s.heap.objs.size = some (newSx w) := Heap.get?_push_size _ rfl
    have hT : Shared.TypeIs { s with heap := s.heap.push (newSx w) } (.ref s.heap.objs.size) "set" := ⟨_, hS, rfl⟩
    have hli := PySem.F.called_set.init.lookup
    have hbi := PySem.F.called_set.init.bind (.ref s.heap.objs.size)
    repeat (any_goals (first | assumption | wp_step))
    refine codeAny_mono (codeAny_call_builtin (R := wants (fun r s2 => r = .none ∧ ∃ h' tk ys D, s2 = { s with heap := h', toks := tk } ∧ SxR P w h' s.heap.objs.size ys D ∧ (∀ y, y ∈ ys ↔ y ∈ xs) ∧ ys.length ≤ xs.length ∧
      (∀ b o, s.heap.get? b = some o → h'.get? b = some o)) E) PySem.F.called_set.init.plain PySem.F.entry_set_init (check_set_init_1 hT ?_)) fun r2 s2 hr2 => ?_
    · obtain ⟨⟨cl, dc, dt, sl⟩, hol, hcl, nl, hdl⟩ := hl
      simp only at hcl hdl
      subst hcl
      subst hdl
      have hol' : (s.heap.push (newSx w)).get? l = some { cls := .type "list", dict := dc, data := .seq items nl, slots := sl } := Heap.get?_push_of_some _ hol
      have u1 := PySem.F.sub_list_set
      have u2 := PySem.F.sub_list_frozenset
      have u3 : (Value.type "list" == Value.type "dict") = false := by decide
      have hl1 : (s.heap.push (newSx w)).IsList l items := ⟨_, hol', rfl, nl, rfl⟩
      unfold Builtin.«set.__init__» noKeywords Builtin.Frozenset.updateFrom
      generalize hPI : pyIter = PI
      wp_walk
      subst hPI
      refine wpAny_pyIter_list hl1 (wpAny_bind (wpAny_runValue ?_))
      have lt : l < s.heap.objs.size := Heap.lt_size hol
      have h3 : A.in1.in1.in1.handled = none := by simp [hh]
      have sz : (s.heap.push (newSx w)).objs.size = s.heap.objs.size + 1 := Heap.size_push ..
      have ne : l ≠ (s.heap.push (newSx w)).objs.size := Nat.ne_of_lt (by rw [sz]; exact Nat.lt_succ_of_lt lt)
      have out : s.heap.objs.size ∉ [(s.heap.push (newSx w)).objs.size, l] := by
        intro h
        rcases List.mem_cons.mp h with h | h
        · exact Nat.ne_of_lt (by rw [sz]; exact Nat.lt_succ_self _) h
        · exact Nat.ne_of_gt lt (List.mem_singleton.mp h)
      have len : xs.length = items.size := by rw [← StrsAre.len_eq hi, Array.length_toList]
      refine sx_fill ((Walks.list h3 _ l ne items).toS) s.heap.objs.size out xs len (by omega) (fun i v hv => strs_get hi i v (by rw [Array.getElem?_toList]; exact hv)) (items.size - 0) 0 _ [] (#[], 0, .fresh 0 0 (!w.params.followText "set-order")) (by omega) (Nat.zero_le _)
        ⟨⟨_, Heap.get?_push_size _ rfl, rfl, rfl⟩, hl1.push _⟩ (sx_new (Heap.get?_push_of_some _ hS)) (fun y => by simp) (Nat.le_refl _) ?_
      rintro ⟨h', gn, dr, tk, os⟩ l' D' mv hR hm hl'
      obtain rfl : gn = s.gens := mv.gens
      obtain rfl : dr = s.drawn := mv.drawn
      obtain rfl : os = s.os := mv.os
      show wpAny _ _ _ _ _ _
      refine wpAny_pure ?_
      show wpAny _ _ (ret Value.none) _ _ _
      refine wpAny_pure ⟨rfl, h', tk, l', D', rfl, hR, hm, by omega, fun b o e => ?_⟩
      have hb := Heap.lt_size e
      refine mv.heap b o (fun h => ?_) (Heap.get?_push_of_some _ (Heap.get?_push_of_some _ e))
      rcases List.mem_cons.mp h with h | h
      · exact Nat.ne_of_lt hb h
      · exact Nat.ne_of_lt (by rw [sz]; exact Nat.lt_succ_of_lt hb) (List.mem_singleton.mp h)
    · match r2, hr2 with
      | .error e, hr2 => exact hr2
      | .ok (.ret r), hr2 =>
        obtain ⟨rfl, h', tk, ys, D, rfl, k1, k2, k3, k4⟩ := hr2
        repeat (any_goals (first | assumption | wp_step))
        exact q h' tk ys D k1 k2 k3 k4
theorem strs_all : ∀ vs : List Value, (∀ v ∈ vs, ∃ z t, v = Value.str z t) → StrsAre vs (vs.map PyProof.Rows.strOf)
  | [], _ => .nil
  | v :: vs, h => by
    obtain ⟨z, t, rfl⟩ := h v List.mem_cons_self
    exact .cons z t (strs_all vs fun u hu => h u (List.mem_cons_of_mem _ hu))
theorem perm_in {α : Type} [DecidableEq α] : ∀ {l m : List α}, l.Nodup → (∀ y ∈ l, y ∈ m) → m.length ≤ l.length → m.Perm l
  | [], m, _, _, h => by
    have := List.length_eq_zero_iff.mp (Nat.le_zero.mp h)
    rw [this]
  | x :: l, m, nd, hm, h => by
    obtain ⟨n1, n2⟩ := List.nodup_cons.mp nd
    have hx := hm x List.mem_cons_self
    refine (List.perm_cons_erase hx).trans (List.Perm.cons x (perm_in n2 (fun y hy => ?_) ?_))
    · exact (List.mem_erase_of_ne fun e => n1 (by rw [← e]; exact hy)).mpr (hm y (List.mem_cons_of_mem _ hy))
    · rw [List.length_erase_of_mem hx]
      have : m.length ≤ l.length + 1 := h
      omega
/-- sorted(the set) -/
theorem sx_sorted {a : Addr} {l : List Str} {D : SD} {Q : Value → Shared → Prop} (R : SxR P w s.heap a l D) (hh : A.handled = none) (few : l.length < 64)
    (q : ∀ s' p (out : Array Value) (c : Nat) (ys : List Str), (∀ b o, s.heap.get? b = some o → s'.heap.get? b = some o) → s'.gens = s.gens → s'.os = s.os → s.heap.objs.size ≤ p → s'.heap.get? p = some (seqObj "list" out c) →
      StrsAre out.toList ys → ys.Perm l → sortedS ys = true → Q (.ref p) s') : wpAny (model P w) A (call (.builtin "sorted") [.ref a]) Q E s := by
  have bnd : D.1.size < scanBound := by
    have := R.ok.sz
    unfold scanBound
    omega
  refine Calls.call_function_entry PyProof.Rows.kind_sorted PyProof.Rows.plain_sorted PyProof.Rows.entry_sorted (PyProof.Rows.args_sorted1 _) ?_
  unfold Builtin.«sorted»
  refine wpAny_bind (m := checkCount "sorted" 1 1 _) (wpAny_pure (wpAny_bind ?_))
  refine collect_set (A := A.in1) hh (show SetAt s.heap a D.1 D.2.1 D.2.2 from ⟨_, R.ob, rfl, rfl⟩) R.ok.fit bnd R.ris R.led fun s1 vs k1 hz g1 o1 pm => ?_
  have vl : vs.length = l.length := by
    rw [pm.length_eq, List.length_map, Array.length_toList]
    exact R.ok.sz
  have all : ∀ v ∈ vs, ∃ z t, v = Value.str z t := fun v hv => by
    obtain ⟨e, he, qe⟩ := List.mem_map.mp (pm.mem_iff.mp hv)
    obtain ⟨⟨k, hk, _⟩, _⟩ := R.ok.el e he
    obtain ⟨t, ht⟩ := Value.isStrOf_shape (x := k) (v := e.2) hk
    exact ⟨k, t, qe.symm.trans ht⟩
  have hS : StrsAre vs (vs.map PyProof.Rows.strOf) := strs_all vs all
  have pk : (vs.map PyProof.Rows.strOf).Perm l := by
    refine perm_in R.nd (fun y hy => ?_) (by rw [List.length_map, vl]; exact Nat.le_refl _)
    obtain ⟨e, he, qe⟩ := (R.ok.mem y).mp hy
    obtain ⟨t, ht⟩ := Value.isStrOf_shape (x := y) (v := e.2) qe
    exact List.mem_map.mpr ⟨e.2, pm.mem_iff.mpr (List.mem_map.mpr ⟨e, he, rfl⟩), by rw [ht]; rfl⟩
  refine wpAny_bind (wpAny_newList ?_ (by rw [vl, sizeLine_eq]; omega))
  have hoL : (s1.heap.push (seqObj "list" vs.toArray 0)).get? s1.heap.objs.size = some (seqObj "list" vs.toArray 0) := Heap.get?_push_size _ rfl
  refine wpAny_bind (wpAny_holding (wpAny_call_entry PyProof.Rows.slot_list_sort ⟨_, hoL, rfl⟩ PyProof.Rows.entry_list_sort
    (list_sort_treeK strKind_oneLt hoL hS.keysOf (fun v₁ v₂ rest e => keyKind_strs (by rw [← e]; exact hS)) (by rw [vl]; exact few) fun st' hp hs => ⟨_, rfl, ?_⟩) (PyProof.Rows.args_list_sort _)))
  obtain ⟨ys, j1, j2, j3⟩ := sorted_out_str hS hp hs
  obtain ⟨c, hc⟩ := PyProof.Rows.sortedHeap_at (vs := vs) (out := (arrOf st').map (·.2)) hoL
  refine wpAny_pure ⟨_, rfl, q _ s1.heap.objs.size ((arrOf st').map (·.2)) c ys (fun b u e => ?_) g1 o1 hz hc j1 (j2.trans pk) j3⟩
  have hb := Heap.lt_size (k1 b u e)
  show (PyProof.Rows.sortedHeap (s1.heap.push (seqObj "list" vs.toArray 0)) s1.heap.objs.size vs _).get? b = some u
  rw [PyProof.Rows.sortedHeap_old (Nat.ne_of_lt hb) (by rw [size_push']; exact Nat.lt_succ_of_lt hb)]
  exact Heap.get?_push_of_some _ (k1 b u e)
end

theorem mem_ded (y : Str) : ∀ xs : List Str, y ∈ dedS xs ↔ y ∈ xs
  | [] => Iff.rfl
  | x :: xs => by
    unfold dedS
    split
    · rename_i h
      rw [mem_ded y xs, List.mem_cons]
      exact ⟨.inr, fun q => q.elim (fun e => (mem_ded y xs).mp (e ▸ h)) id⟩
    · rw [List.mem_cons, List.mem_cons, mem_ded y xs]
theorem nd_ded : ∀ xs : List Str, (dedS xs).Nodup
  | [] => List.nodup_nil
  | x :: xs => by
    unfold dedS
    split
    · exact nd_ded xs
    · exact List.nodup_cons.mpr ⟨by assumption, nd_ded xs⟩
/-- a set of texts as an object that is kept track of -/
def SxO (P : Program) (w : World) (a : Addr) (l : List Str) : HO := .ext fun h => ∃ D, SxR P w h a l D
theorem sxO_new {P : Program} {w : World} {H : Hp} {h : Heap} {a : Addr} {l : List Str} {D : SD} (R : SxR P w h a l D) : ObjOk P w H h a (SxO P w a l) :=
  ⟨⟨D, R⟩, ⟨_, R.ob⟩, fun _ _ ⟨D', R'⟩ k => ⟨D', R'.keep k⟩⟩
section
variable {X : Cx}
def rSx (K : PySem.W.Frag) (P : Program) (w : World) : List V → Hp → VK → Prop := fun xs H Q => ∃ (l : Addr) (zs : List Str), xs = [V.ref l] ∧ SqL K H l (zs.map V.str) ∧ zs.length < 64 ∧
  ∀ a ys, H a = none → ys.Nodup → (∀ y, y ∈ ys ↔ y ∈ zs) → ys.length ≤ zs.length → Q (.ref a) (upd H a (SxO P w a ys))
theorem cr_setS (hc : X.calm = true) : CallR X (.type "set") (rSx X.K X.prog X.w) := by
  intro pins s σ H xs us Q I r h
  obtain ⟨l, zs, rfl, hl, few, q⟩ := h
  rw [Vals.ref1 r]
  obtain ⟨its, rv, pl, _⟩ := I.list hl
  refine sx_call (xs := zs) (I.ok.hd hc) pl.isList (by simpa using rv.strs) (by unfold scanBound; omega) fun h' tk ys D R hm hl' k => ?_
  exact ⟨.ref s.heap.objs.size, upd H s.heap.objs.size (SxO X.prog X.w s.heap.objs.size ys), I.laid (t' := tk) k (Nat.le_refl _) (sxO_new R), rfl, q _ ys (I.hok.fresh (Nat.le_refl _)) R.nd hm hl'⟩
def rSxSorted (P : Program) (w : World) : List V → Hp → VK → Prop := fun vs H Q => ∃ (a : Addr) (ys : List Str), vs = [V.ref a] ∧ H a = some (SxO P w a ys) ∧ ys.length < 64 ∧
  ∀ (zs : List Str) (p : Addr), zs.Perm ys → sortedS zs = true → H p = none → Q (.ref p) (upd H p (.lst (zs.map V.str)))
theorem cr_sortedX (hc : X.calm = true) : CallR X (.builtin "sorted") (rSxSorted X.prog X.w) := by
  intro pins s σ H vs us Q I r h
  obtain ⟨a, ys, rfl, ha, few, q⟩ := h
  obtain ⟨D, R⟩ : ∃ D, SxR X.prog X.w s.heap a ys D := (I.hok a _ ha).1
  rw [Vals.ref1 r]
  refine sx_sorted R (I.ok.hd hc) few fun s' p out c zs k g o hp hg hi pm hs => ?_
  have len : (zs.map V.str).length ≤ sizeLine := by
    rw [List.length_map, pm.length_eq, sizeLine_eq]
    omega
  have new : H p = none := I.hok.fresh hp
  have J : Inv X pins σ (upd H p (.lst (zs.map V.str))) { s with heap := s'.heap, gens := s'.gens, drawn := s'.drawn, toks := s'.toks } :=
    I.call (ch := []) (Un.laid k hp new) (I.hok.laid k hp ⟨len, out.toList, c, vals_of_strs hi, hg⟩) (by rw [g]; exact I.bare) (fun _ z => nomatch z)
  have e : s' = { s with heap := s'.heap, gens := s'.gens, drawn := s'.drawn, toks := s'.toks } := by
    cases s'
    cases s
    cases o
    rfl
  rw [e]
  exact ⟨.ref p, _, J, rfl, q zs p pm hs new⟩
theorem hold_strs {h : Heap} : ∀ {vs : List Value} {xs : List Str}, StrsAre vs xs → PySem.W.HoldAll h vs xs
  | _, _, .nil => PySem.W.HoldAll.nil
  | _, _, .cons x t r => PySem.W.HoldAll.cons ⟨[], .str x t⟩ (hold_strs r)
theorem hold_str {h : Heap} {v : Value} {x : Str} (H : PySem.W.Holds h v x) : ∃ t, v = .str x t := by
  obtain ⟨as, r⟩ := H
  change Reads h v (.str x) as at r
  cases r with
  | str _ t => exact ⟨t, rfl⟩
/-- min(xs), xs a list of texts -/
theorem cr_minS (hc : X.calm = true) (hu : X.A.units + 1 < cLine) : CallR X (.builtin "min") (fun vs H Q => ∃ (a : Addr) (xs : List Str) (x : Str), vs = [V.ref a] ∧ SqL X.K H a (xs.map V.str) ∧ minL xs = some x ∧ Q (.str x) H) := by
  intro pins s σ H vs us Q I r h
  obtain ⟨a, xs, x, rfl, hs, hm, q⟩ := h
  obtain ⟨its, rv, hl, _⟩ := I.list hs
  rw [Vals.ref1 r]
  cases xs with
  | nil => cases hm
  | cons y ys =>
    have hm := Option.some.inj hm
    refine PySem.W.min_list_datum (α := Str) (x := y) (xs := ys) (I.ok.hd hc) hl.isList (hold_strs (by simpa using rv.strs)) (by show _ + 1 + 0 < _; omega) fun i v h' tk _ hold k => ?_
    obtain ⟨t, rfl⟩ := hold_str hold
    refine ⟨.str x, H, I.kept k, ⟨t, ?_⟩, q⟩
    rw [← hm]
    rfl
theorem cl_min (hc : X.calm = true) (hu : X.A.units + 1 < cLine) : CallR X (.builtin "min") (rCl X.K (bltO .min_)) := by
  intro pins s σ H xs us Q I r h
  obtain ⟨mu, m, o, H0, out, m', x, rfl, S, hb, ho, e, q⟩ := h
  obtain ⟨ds, e1, e2⟩ := Option.bind_eq_some_iff.mp (show (lstO m o).bind _ = some (out, m') from e)
  obtain ⟨zs, e3, e4⟩ := Option.bind_eq_some_iff.mp e2
  obtain ⟨z, e5, e6⟩ := Option.map_eq_some_iff.mp e4
  cases e6
  obtain ⟨p, vs, rfl, hp, hr⟩ := lstO_ok S ho e1
  obtain rfl := allStr_rep hr e3
  exact cr_minS hc hu pins s σ H _ us Q I r ⟨p, zs, z, rfl, .inl (.inl hp), e5, q _ H mu (Nxt.refl S) S (.str _)⟩
end
end Nb

/-! Nb8: readings of the language's pieces over the layer -/
namespace Nb
open PySem PySem.Spec PyProof.Rows L2

structure FrR (K : PySem.W.Frag) (mu : List Addr) (H : Hp) (σ : L2.St) (fr : Fr) : Prop where
  len : fr.length = σ.length
  at_ : ∀ (i : Nat) (d : D), fr[i]? = some (some d) → ∃ v, σ[i]? = some (some v) ∧ Rep K mu H d v
section
variable {K : PySem.W.Frag} {mu mu' mu2 : List Addr} {H H' H0 : Hp} {m m' : Mm} {σ : L2.St} {fr : Fr}
theorem FrR.nxt (N : Nxt mu H mu' H') (hn : ∀ a ∈ mu, ¬ Fx H a) (h : FrR K mu H σ fr) : FrR K mu' H' σ fr :=
  ⟨h.len, fun i d e => let ⟨v, q, r⟩ := h.at_ i d e; ⟨v, q, r.nxt N hn⟩⟩
theorem FrR.pre (hp : mu <+: mu') (h : FrR K mu H σ fr) : FrR K mu' H σ fr :=
  ⟨h.len, fun i d e => let ⟨v, q, r⟩ := h.at_ i d e; ⟨v, q, r.mono (fun _ _ e => pre_get hp e) (fun _ _ e => e) fun _ _ e => e⟩⟩
theorem FrR.set {i : Nat} {d : D} {v : V} (h : FrR K mu H σ fr) (r : Rep K mu H d v) : FrR K mu H (σ.set i (some v)) (fr.set i (some d)) := by
  refine ⟨by rw [List.length_set, List.length_set]; exact h.len, fun j e q => ?_⟩
  by_cases hj : i = j
  · subst hj
    have hl : i < fr.length := by
      have := (List.getElem?_eq_some_iff.mp q).1
      rwa [List.length_set] at this
    rw [List.getElem?_set_self hl] at q
    have q : d = e := Option.some.inj (Option.some.inj q)
    subst q
    exact ⟨v, List.getElem?_set_self (by rw [← h.len]; exact hl), r⟩
  · rw [List.getElem?_set_ne hj] at q
    obtain ⟨u, q1, q2⟩ := h.at_ j e q
    exact ⟨u, by rw [List.getElem?_set_ne hj]; exact q1, q2⟩
theorem FrR.none {i : Nat} (h : FrR K mu H σ fr) : FrR K mu H (σ.set i none) (fr.set i none) := by
  refine ⟨by rw [List.length_set, List.length_set]; exact h.len, fun j e q => ?_⟩
  by_cases hj : i = j
  · subst hj
    have hl : i < fr.length := by
      have := (List.getElem?_eq_some_iff.mp q).1
      rwa [List.length_set] at this
    rw [List.getElem?_set_self hl] at q
    cases q
  · rw [List.getElem?_set_ne hj] at q
    obtain ⟨u, q1, q2⟩ := h.at_ j e q
    exact ⟨u, by rw [List.getElem?_set_ne hj]; exact q1, q2⟩
theorem FrR.wipe (h : FrR K mu H σ fr) : ∀ vs : List Nat, FrR K mu H (L2.wipe σ vs) (wipeF fr vs)
  | [] => h
  | _ :: vs => (FrR.wipe h vs).none
theorem stow_ok {out : Out} {v : V} (S : SR K mu' m' H') (N : Nxt mu H mu' H') (h : OR K H mu' H' out v) :
    ∃ mu2, mu' <+: mu2 ∧ Nxt mu H mu2 H' ∧ SR K mu2 (stow out m').2 H' ∧ Rep K mu2 H' (stow out m').1 v := by
  cases out with
  | val d => exact ⟨mu', List.prefix_refl _, N, S, h⟩
  | tmp ds =>
    obtain ⟨p, vs, rfl, hp, hr, hm, h0⟩ := h
    have mr : MRep K mu' H' p (.lst ds) := ⟨vs, hp, hr⟩
    refine ⟨mu' ++ [p], List.prefix_append _ _, N.join S h0 mr, S.join hm mr, .ref ?_⟩
    rw [List.getElem?_append_right (by rw [S.len]; exact Nat.le_refl _), S.len, Nat.sub_self]
    rfl
end

/-- an expression's reading -/
def rd (K : PySem.W.Frag) (f : Fr → Mm → Option (Out × Mm)) : TE := fun σ H Q => ∃ mu fr m out m', FrR K mu H σ fr ∧ SR K mu m H ∧ f fr m = some (out, m') ∧
  ∀ v H' mu', Nxt mu H mu' H' → SR K mu' m' H' → OR K H mu' H' out v → Q v H'
def rdT (K : PySem.W.Frag) (f : Fr → Mm → Option (Bool × Mm)) : TT := fun σ H Q => ∃ mu fr m b m', FrR K mu H σ fr ∧ SR K mu m H ∧ f fr m = some (b, m') ∧
  ∀ H' mu', Nxt mu H mu' H' → SR K mu' m' H' → Q b H'
def rdA (K : PySem.W.Frag) (f : Fr → Mm → Option (List D × Mm)) : TA := fun σ H Q => ∃ mu fr m ds m', FrR K mu H σ fr ∧ SR K mu m H ∧ f fr m = some (ds, m') ∧
  ∀ vs H' mu', Nxt mu H mu' H' → SR K mu' m' H' → RepL K mu' H' ds vs → Q vs H'
/-- a value's test -/
def tst (f : Fr → Mm → Option (Out × Mm)) : Fr → Mm → Option (Bool × Mm) := fun fr m => (f fr m).bind fun r => (truO r.2 r.1).map fun b => (b, r.2)
section
variable {X : Cx} {a b c : Expr} {ta tb : TE} {fa fb fc : Fr → Mm → Option (Out × Mm)} {pos : Pos} {K : PySem.W.Frag}
theorem pe_weak {t t' : TE} (h : PE X a t) (w : ∀ σ H Q, t' σ H Q → t σ H Q) : PE X a t' := ⟨fun pins s σ H Q I q => h.run pins s σ H Q I (w _ _ _ q)⟩
theorem pt_weak {t t' : TT} (h : PT X a t) (w : ∀ σ H Q, t' σ H Q → t σ H Q) : PT X a t' := ⟨fun pins s σ H Q I q => h.run pins s σ H Q I (w _ _ _ q)⟩
/-- one piece ahead of a rest -/
theorem rd_go {R : V → Hp → Prop} {σ : L2.St} {H : Hp} {mu : List Addr} {fr : Fr} {m m1 : Mm} {o : Out} (F : FrR K mu H σ fr) (S : SR K mu m H) (e : fa fr m = some (o, m1))
    (h : ∀ v H1 mu1, Nxt mu H mu1 H1 → SR K mu1 m1 H1 → OR K H mu1 H1 o v → R v H1) : rd K fa σ H R := ⟨mu, fr, m, o, m1, F, S, e, h⟩
theorem rdT_of (h : PE X a (rd K fa)) (he : ∀ whole, isTrue a X.env whole = (do let v ← whole; standAt a.pos; holding [v] (truthy v))) : PT X a (rdT K (tst fa)) := by
  refine pt_weak (pt_val h he) fun σ H Q q => ?_
  obtain ⟨mu, fr, m, b, m', F, S, e, q⟩ := q
  obtain ⟨r, e1, e2⟩ := Option.bind_eq_some_iff.mp e
  obtain ⟨b', e3, e4⟩ := Option.map_eq_some_iff.mp e2
  cases e4
  obtain e5 := truO_eq e3
  refine rd_go F S (show fa fr m = some (r.1, r.2) from e1) fun v H1 mu1 N1 S1 O1 => ?_
  rw [e5] at O1
  exact ⟨b, bl_or O1, q H1 mu1 N1 S1⟩
theorem rd_var {i : Nat} {x : Str} (hN : X.N[i]? = some x) (hv : Vis X.env.scope x) (hd : (x == ("__debug__" : Str)) = false) (hcd : (x == ("__classdict__" : Str)) = false) :
    PE X (.Name x pos) (rd K fun fr m => fr[i]?.bind fun o => o.map fun d => (.val d, m)) := by
  refine pe_weak (pe_var hN hv hd hcd) fun σ H Q q => ?_
  obtain ⟨mu, fr, m, b, m', F, S, e, q⟩ := q
  obtain ⟨o, e1, e2⟩ := Option.bind_eq_some_iff.mp e
  obtain ⟨d, e3, e4⟩ := Option.map_eq_some_iff.mp e2
  cases e4
  subst e3
  obtain ⟨v, h1, h2⟩ := F.at_ i d e1
  exact ⟨v, h1, q v H mu (Nxt.refl S) S h2⟩
theorem rd_con {v : V} {d : D} (h : PE X a (tC v)) (hr : ∀ mu H, Rep K mu H d v) : PE X a (rd K fun _ m => some (.val d, m)) := by
  refine pe_weak h fun σ H Q q => ?_
  obtain ⟨mu, fr, m, b, m', F, S, e, q⟩ := q
  cases e
  exact q v H mu (Nxt.refl S) S (hr _ _)
/-- two pieces, then an operation by values -/
theorem rd_two {op : Mm → Out → Out → Option Out} {σ : L2.St} {H : Hp} {Q : VK} (h : rd K (fun fr m => (fa fr m).bind fun r => (fb fr r.2).bind fun q => (op q.2 r.1 q.1).map fun z => (z, q.2)) σ H Q) :
    tOp (rBin K op) (rd K fa) (rd K fb) σ H Q := by
  obtain ⟨mu, fr, m, out, m', F, S, e, q⟩ := h
  obtain ⟨r, e1, e⟩ := Option.bind_eq_some_iff.mp e
  obtain ⟨p, e2, e⟩ := Option.bind_eq_some_iff.mp e
  obtain ⟨z, e3, e4⟩ := Option.map_eq_some_iff.mp e
  cases e4
  refine rd_go F S (show fa fr m = some (r.1, r.2) from e1) fun x H1 mu1 N1 S1 O1 => ?_
  refine rd_go (F.nxt N1 S.notup) S1 (show fb fr r.2 = some (p.1, p.2) from e2) fun y H2 mu2 N2 S2 O2 => ?_
  exact ⟨mu2, p.2, r.1, p.1, H, out, S2, (N1.trans N2).there, O1.nxt N2 S1.notup, O2.base N1.there, e3, fun v H' N3 S3 O3 => q v H' mu2 ((N1.trans N2).trans N3) S3 O3⟩
theorem rd_bop {o : BOp} (ha : PE X a (rd X.K fa)) (hb : PE X b (rd X.K fb)) : PE X (.BinOp a o.op b pos) (rd X.K fun fr m => (fa fr m).bind fun r => (fb fr r.2).bind fun q => (bopO q.2 o r.1 q.1).map fun z => (z, q.2)) :=
  pe_weak (pe_op (op_bop o) ha hb) fun _ _ _ h => rd_two h
theorem rd_neg (ha : PE X a (rd X.K fa)) : PE X (.UnaryOp .USub a pos) (rd X.K fun fr m => (fa fr m).bind fun r => match r.1 with
    | .val (.int i) => some (.val (.int (-i)), r.2)
    | _ => none) := by
  refine pe_weak (pe_un un_neg ha) fun σ H Q q => ?_
  obtain ⟨mu, fr, m, out, m', F, S, e, q⟩ := q
  obtain ⟨r, e1, e⟩ := Option.bind_eq_some_iff.mp e
  split at e
  · rename_i i ei
    cases e
    refine rd_go F S (show fa fr m = some (r.1, r.2) from e1) fun x H1 mu1 N1 S1 O1 => ?_
    rw [ei] at O1
    exact ⟨i, int_or O1, q _ H1 mu1 N1 S1 (.int _)⟩
  · cases e
abbrev cmpF (o : COp) (fa fb : Fr → Mm → Option (Out × Mm)) : Fr → Mm → Option (Out × Mm) := fun fr m => (fa fr m).bind fun r => (fb fr r.2).bind fun q => (cmpO q.2 o r.1 q.1).map fun z => (.val (.bl z), q.2)
theorem cmpF_eq {o : COp} : cmpF o fa fb = fun fr m => (fa fr m).bind fun r => (fb fr r.2).bind fun q => ((cmpO q.2 o r.1 q.1).map fun z => Out.val (.bl z)).map fun z => (z, q.2) := by
  funext fr m
  simp only [Option.map_map]
  rfl
theorem rd_cmp {o : COp} (hu : X.A.units + 65 < cLine) (hm : behindInMarks o.op b = false) (ha : PE X a (rd X.K fa)) (hb : PE X b (rd X.K fb)) : PE X (.Compare a [o.op] [b] pos) (rd X.K (cmpF o fa fb)) := by
  refine pe_weak (pe_cmpR (op_cmp hu o) ha hb hm) fun σ H Q h => ?_
  rw [cmpF_eq] at h
  exact rd_two h
theorem rdT_cmp {o : COp} (hu : X.A.units + 65 < cLine) (hm : behindInMarks o.op b = false) (ha : PE X a (rd X.K fa)) (hb : PE X b (rd X.K fb)) : PT X (.Compare a [o.op] [b] pos) (rdT X.K (tst (cmpF o fa fb))) := by
  refine pt_weak (pt_cmpR (op_cmp hu o) ha hb hm) fun σ H Q h => ?_
  obtain ⟨mu, fr, m, bb, m', F, S, e, q⟩ := h
  obtain ⟨r, e1, e2⟩ := Option.bind_eq_some_iff.mp e
  obtain ⟨z, e3, e4⟩ := Option.map_eq_some_iff.mp e2
  cases e4
  have e5 := truO_eq e3
  have e1' : cmpF o fa fb fr m = some (r.1, r.2) := e1
  rw [cmpF_eq] at e1'
  refine rd_two ⟨mu, fr, m, r.1, r.2, F, S, e1', fun v H1 mu1 N1 S1 O1 => ?_⟩
  rw [e5] at O1
  exact ⟨_, bl_or O1, q H1 mu1 N1 S1⟩
abbrev chnF (o o' : COp) (fa fb fc : Fr → Mm → Option (Out × Mm)) : Fr → Mm → Option (Out × Mm) := fun fr m => (fa fr m).bind fun r => (fb fr r.2).bind fun q => (cmpO q.2 o r.1 q.1).bind fun z =>
    if z then (fc fr q.2).bind fun p => (cmpO p.2 o' q.1 p.1).map fun z => (.val (.bl z), p.2) else some (.val (.bl false), q.2)
theorem chn_go {o o' : COp} {σ : L2.St} {H : Hp} {Q : VK} (h : rd K (chnF o o' fa fb fc) σ H Q) : tChain (rTst K fun m a b => cmpO m o a b) (rTst K fun m a b => cmpO m o' a b) (rd K fa) (rd K fb) (rd K fc) σ H Q := by
  obtain ⟨mu, fr, m, out, m', F, S, e, q⟩ := h
  obtain ⟨r, e1, e⟩ := Option.bind_eq_some_iff.mp e
  obtain ⟨p, e2, e⟩ := Option.bind_eq_some_iff.mp e
  obtain ⟨z, e3, e⟩ := Option.bind_eq_some_iff.mp e
  refine rd_go F S (show fa fr m = some (r.1, r.2) from e1) fun x H1 mu1 N1 S1 O1 => ?_
  refine rd_go (F.nxt N1 S.notup) S1 (show fb fr r.2 = some (p.1, p.2) from e2) fun y H2 mu2 N2 S2 O2 => ?_
  have O2' : OR K H mu2 H2 p.1 y := O2.base N1.there
  refine ⟨mu2, p.2, r.1, p.1, H, .val (.bl z), S2, (N1.trans N2).there, O1.nxt N2 S1.notup, O2', by show (cmpO p.2 o r.1 p.1).map _ = _; rw [e3]; rfl, fun v H3 N3 S3 O3 => ?_⟩
  refine ⟨z, bl_or O3, ?_⟩
  have N13 := (N1.trans N2).trans N3
  cases z with
  | true =>
    rw [if_pos rfl] at e ⊢
    obtain ⟨t, e4, e⟩ := Option.bind_eq_some_iff.mp e
    obtain ⟨z', e5, e6⟩ := Option.map_eq_some_iff.mp e
    cases e6
    refine rd_go (F.nxt N13 S.notup) S3 (show fc fr p.2 = some (t.1, t.2) from e4) fun w H4 mu4 N4 S4 O4 => ?_
    exact ⟨mu4, t.2, p.1, t.1, H, .val (.bl z'), S4, (N13.trans N4).there, (O2'.nxt N3 S2.notup).nxt N4 S3.notup, O4.base N13.there, by show (cmpO t.2 o' p.1 t.1).map _ = _; rw [e5]; rfl, fun v H' N5 S5 O5 => q v H' mu4 ((N13.trans N4).trans N5) S5 O5⟩
  | false =>
    rw [if_neg Bool.false_ne_true] at e ⊢
    cases e
    exact q _ H3 mu2 N13 S3 (.bl false)
theorem rd_chn {o o' : COp} (hu : X.A.units + 65 < cLine) (hm : lastMarks [o.op, o'.op] [b, c] = false) (ha : PE X a (rd X.K fa)) (hb : PE X b (rd X.K fb)) (hc : PE X c (rd X.K fc)) :
    PE X (.Compare a [o.op, o'.op] [b, c] pos) (rd X.K (chnF o o' fa fb fc)) :=
  pe_weak (pe_chain (op_cmp hu o) (op_cmp hu o') ha hb hc hm) fun _ _ _ h => chn_go h
theorem rdT_chn {o o' : COp} (hu : X.A.units + 65 < cLine) (hm : lastMarks [o.op, o'.op] [b, c] = false) (ha : PE X a (rd X.K fa)) (hb : PE X b (rd X.K fb)) (hc : PE X c (rd X.K fc)) :
    PT X (.Compare a [o.op, o'.op] [b, c] pos) (rdT X.K (tst (chnF o o' fa fb fc))) := by
  refine pt_weak (pt_chain (op_cmp hu o) (op_cmp hu o') ha hb hc hm) fun σ H Q h => ?_
  obtain ⟨mu, fr, m, bb, m', F, S, e, q⟩ := h
  obtain ⟨r, e1, e2⟩ := Option.bind_eq_some_iff.mp e
  obtain ⟨z, e3, e4⟩ := Option.map_eq_some_iff.mp e2
  cases e4
  have e5 := truO_eq e3
  refine chn_go ⟨mu, fr, m, r.1, r.2, F, S, e1, fun v H1 mu1 N1 S1 O1 => ?_⟩
  rw [e5] at O1
  exact ⟨_, bl_or O1, q H1 mu1 N1 S1⟩
abbrev notF (fa : Fr → Mm → Option (Out × Mm)) : Fr → Mm → Option (Out × Mm) := fun fr m => (fa fr m).bind fun r => (truO r.2 r.1).map fun b => (.val (.bl (!b)), r.2)
theorem rd_not (ha : PE X a (rd X.K fa)) : PE X (.UnaryOp .Not a pos) (rd X.K (notF fa)) := by
  refine pe_weak (pe_not ha) fun σ H Q q => ?_
  obtain ⟨mu, fr, m, out, m', F, S, e, q⟩ := q
  obtain ⟨r, e1, e⟩ := Option.bind_eq_some_iff.mp e
  obtain ⟨z, e3, e4⟩ := Option.map_eq_some_iff.mp e
  cases e4
  refine rd_go F S (show fa fr m = some (r.1, r.2) from e1) fun x H1 mu1 N1 S1 O1 => ?_
  rw [truO_eq e3] at O1
  exact ⟨z, bl_or O1, q _ H1 mu1 N1 S1 (.bl _)⟩
theorem rdT_not (ha : PT X a (rdT X.K (tst fa))) : PT X (.UnaryOp .Not a pos) (rdT X.K (tst (notF fa))) := by
  refine pt_weak (pt_not ha) fun σ H Q h => ?_
  obtain ⟨mu, fr, m, bb, m', F, S, e, q⟩ := h
  obtain ⟨r, e1, e2⟩ := Option.bind_eq_some_iff.mp e
  obtain ⟨z, e3, e4⟩ := Option.map_eq_some_iff.mp e2
  cases e4
  obtain ⟨r', e5, e6⟩ := Option.bind_eq_some_iff.mp e1
  obtain ⟨z', e7, e8⟩ := Option.map_eq_some_iff.mp e6
  subst e8
  cases e3
  exact ⟨mu, fr, m, z', r'.2, F, S, by unfold tst; rw [e5]; show (truO r'.2 r'.1).map _ = _; rw [e7]; rfl, fun H' mu' N S' => q H' mu' N S'⟩
abbrev iteF (fc fa fb : Fr → Mm → Option (Out × Mm)) : Fr → Mm → Option (Out × Mm) := fun fr m => (fc fr m).bind fun r => (truO r.2 r.1).bind fun z => if z then fa fr r.2 else fb fr r.2
theorem rd_ite (hc : PT X c (rdT X.K (tst fc))) (ha : PE X a (rd X.K fa)) (hb : PE X b (rd X.K fb)) : PE X (.IfExp c a b pos) (rd X.K (iteF fc fa fb)) := by
  refine pe_weak (pe_ifExp hc ha hb) fun σ H Q q => ?_
  obtain ⟨mu, fr, m, out, m', F, S, e, q⟩ := q
  obtain ⟨r, e1, e⟩ := Option.bind_eq_some_iff.mp e
  obtain ⟨z, e3, e⟩ := Option.bind_eq_some_iff.mp e
  refine ⟨mu, fr, m, z, r.2, F, S, by unfold tst; rw [e1]; show (truO r.2 r.1).map _ = _; rw [e3]; rfl, fun H1 mu1 N1 S1 => ?_⟩
  cases z with
  | true =>
    rw [if_pos rfl] at e ⊢
    exact ⟨mu1, fr, r.2, out, m', F.nxt N1 S.notup, S1, e, fun v H' mu' N2 S2 O2 => q v H' mu' (N1.trans N2) S2 (O2.base N1.there)⟩
  | false =>
    rw [if_neg Bool.false_ne_true] at e ⊢
    exact ⟨mu1, fr, r.2, out, m', F.nxt N1 S.notup, S1, e, fun v H' mu' N2 S2 O2 => q v H' mu' (N1.trans N2) S2 (O2.base N1.there)⟩
theorem rdT_ite (hc : PT X c (rdT X.K (tst fc))) (ha : PT X a (rdT X.K (tst fa))) (hb : PT X b (rdT X.K (tst fb))) : PT X (.IfExp c a b pos) (rdT X.K (tst (iteF fc fa fb))) := by
  refine ⟨fun pins s σ H Q I q => ?_⟩
  obtain ⟨mu, fr, m, bb, m', F, S, e, q⟩ := q
  obtain ⟨t, e0, e9⟩ := Option.bind_eq_some_iff.mp e
  obtain ⟨r, e1, e2⟩ := Option.bind_eq_some_iff.mp e0
  obtain ⟨z, e3, e4⟩ := Option.bind_eq_some_iff.mp e2
  have hz : tst fc fr m = some (z, r.2) := by
    unfold tst
    rw [e1]
    show (truO r.2 r.1).map _ = _
    rw [e3]
    rfl
  have hh : rdT X.K (tst fc) σ H fun b H1 => b = z ∧ ∃ mu1, Nxt mu H mu1 H1 ∧ SR X.K mu1 r.2 H1 := ⟨mu, fr, m, z, r.2, F, S, hz, fun H1 mu1 N1 S1 => ⟨rfl, mu1, N1, S1⟩⟩
  refine isTrue_IfExp (thn (hc.run pins s σ H _ I hh) fun zz s1 ⟨H1, I1, ez, mu1, N1, S1⟩ => ?_)
  subst ez
  have ft : ∀ f : Fr → Mm → Option (Out × Mm), f fr r.2 = some t → tst f fr r.2 = some (bb, m') := fun f hf => by
    unfold tst
    rw [hf]
    exact e9
  cases zz with
  | true =>
    rw [if_pos rfl] at e4 ⊢
    exact ha.run pins s1 σ H1 _ I1 ⟨mu1, fr, r.2, bb, m', F.nxt N1 S.notup, S1, ft fa e4, fun H' mu' N2 S2 => q H' mu' (N1.trans N2) S2⟩
  | false =>
    rw [if_neg Bool.false_ne_true] at e4 ⊢
    exact hb.run pins s1 σ H1 _ I1 ⟨mu1, fr, r.2, bb, m', F.nxt N1 S.notup, S1, ft fb e4, fun H' mu' N2 S2 => q H' mu' (N1.trans N2) S2⟩
end
end Nb

/-! Nb9: readings of the language's pieces, further -/
namespace Nb
open PySem PySem.Spec PyProof.Rows L2
section
variable {X : Cx} {a b c : Expr} {fa fb fc : Fr → Mm → Option (Out × Mm)} {pos : Pos} {K : PySem.W.Frag}
/-! ### and, or -/
abbrev andN (fa : Fr → Mm → Option (Out × Mm)) (fr' : Fr → Mm → Option (Bool × Mm)) : Fr → Mm → Option (Bool × Mm) := fun fr m => (fa fr m).bind fun r => (truO r.2 r.1).bind fun z => if z then fr' fr r.2 else some (false, r.2)
abbrev orN (fa : Fr → Mm → Option (Out × Mm)) (fr' : Fr → Mm → Option (Bool × Mm)) : Fr → Mm → Option (Bool × Mm) := fun fr m => (fa fr m).bind fun r => (truO r.2 r.1).bind fun z => if z then some (true, r.2) else fr' fr r.2
abbrev boF (f : Fr → Mm → Option (Bool × Mm)) : Fr → Mm → Option (Out × Mm) := fun fr m => (f fr m).map fun r => (.val (.bl r.1), r.2)
theorem boF_of {f : Fr → Mm → Option (Bool × Mm)} {fr : Fr} {m m' : Mm} {o : Out} (h : boF f fr m = some (o, m')) : ∃ z, f fr m = some (z, m') ∧ o = .val (.bl z) := by
  obtain ⟨r, e1, e2⟩ := Option.map_eq_some_iff.mp h
  cases e2
  exact ⟨_, e1, rfl⟩
theorem tst_boF (f : Fr → Mm → Option (Bool × Mm)) : tst (boF f) = f := by
  funext fr m
  unfold tst boF
  cases f fr m <;> rfl
theorem rd_and1 (ha : PE X a (rd X.K fa)) : PE X (.BoolOp .And [a] pos) (rd X.K (boF (andN fa fun _ m => some (true, m)))) := by
  refine pe_weak (pe_one ha) fun σ H Q q => ?_
  obtain ⟨mu, fr, m, out, m', F, S, e, q⟩ := q
  obtain ⟨z, e1, rfl⟩ := boF_of e
  obtain ⟨r, e2, e3⟩ := Option.bind_eq_some_iff.mp e1
  obtain ⟨z', e4, e5⟩ := Option.bind_eq_some_iff.mp e3
  have h : z' = z ∧ r.2 = m' := by
    cases z' with
    | true =>
      rw [if_pos rfl] at e5
      cases e5
      exact ⟨rfl, rfl⟩
    | false =>
      rw [if_neg Bool.false_ne_true] at e5
      cases e5
      exact ⟨rfl, rfl⟩
  obtain ⟨rfl, rfl⟩ := h
  rw [← truO_eq e4] at q
  exact ⟨mu, fr, m, r.1, r.2, F, S, e2, q⟩
theorem rd_or1 (ha : PE X a (rd X.K fa)) : PE X (.BoolOp .Or [a] pos) (rd X.K (boF (orN fa fun _ m => some (false, m)))) := by
  refine pe_weak (pe_one ha) fun σ H Q q => ?_
  obtain ⟨mu, fr, m, out, m', F, S, e, q⟩ := q
  obtain ⟨z, e1, rfl⟩ := boF_of e
  obtain ⟨r, e2, e3⟩ := Option.bind_eq_some_iff.mp e1
  obtain ⟨z', e4, e5⟩ := Option.bind_eq_some_iff.mp e3
  have h : z' = z ∧ r.2 = m' := by
    cases z' with
    | true =>
      rw [if_pos rfl] at e5
      cases e5
      exact ⟨rfl, rfl⟩
    | false =>
      rw [if_neg Bool.false_ne_true] at e5
      cases e5
      exact ⟨rfl, rfl⟩
  obtain ⟨rfl, rfl⟩ := h
  rw [← truO_eq e4] at q
  exact ⟨mu, fr, m, r.1, r.2, F, S, e2, q⟩
variable {rest : List Expr} {g : Fr → Mm → Option (Bool × Mm)}
theorem rd_and2 (ha : PE X a (rd X.K fa)) (hb : PE X (.BoolOp .And (b :: rest) pos) (rd X.K (boF g))) : PE X (.BoolOp .And (a :: b :: rest) pos) (rd X.K (boF (andN fa g))) := by
  refine pe_weak (pe_and ha hb) fun σ H Q q => ?_
  obtain ⟨mu, fr, m, out, m', F, S, e, q⟩ := q
  obtain ⟨z, e1, rfl⟩ := boF_of e
  obtain ⟨r, e2, e3⟩ := Option.bind_eq_some_iff.mp e1
  obtain ⟨z', e4, e5⟩ := Option.bind_eq_some_iff.mp e3
  refine rd_go F S (show fa fr m = some (r.1, r.2) from e2) fun x H1 mu1 N1 S1 O1 => ?_
  rw [truO_eq e4] at O1
  refine ⟨z', bl_or O1, ?_⟩
  cases z' with
  | true =>
    rw [if_pos rfl] at e5 ⊢
    exact ⟨mu1, fr, r.2, _, m', F.nxt N1 S.notup, S1, by unfold boF; rw [e5]; rfl, fun v H' mu' N2 S2 O2 => q v H' mu' (N1.trans N2) S2 (O2.base N1.there)⟩
  | false =>
    rw [if_neg Bool.false_ne_true] at e5 ⊢
    cases e5
    exact q _ H1 mu1 N1 S1 (.bl false)
theorem rd_or2 (ha : PE X a (rd X.K fa)) (hb : PE X (.BoolOp .Or (b :: rest) pos) (rd X.K (boF g))) : PE X (.BoolOp .Or (a :: b :: rest) pos) (rd X.K (boF (orN fa g))) := by
  refine pe_weak (pe_or ha hb) fun σ H Q q => ?_
  obtain ⟨mu, fr, m, out, m', F, S, e, q⟩ := q
  obtain ⟨z, e1, rfl⟩ := boF_of e
  obtain ⟨r, e2, e3⟩ := Option.bind_eq_some_iff.mp e1
  obtain ⟨z', e4, e5⟩ := Option.bind_eq_some_iff.mp e3
  refine rd_go F S (show fa fr m = some (r.1, r.2) from e2) fun x H1 mu1 N1 S1 O1 => ?_
  rw [truO_eq e4] at O1
  refine ⟨z', bl_or O1, ?_⟩
  cases z' with
  | true =>
    rw [if_pos rfl] at e5 ⊢
    cases e5
    exact q _ H1 mu1 N1 S1 (.bl true)
  | false =>
    rw [if_neg Bool.false_ne_true] at e5 ⊢
    exact ⟨mu1, fr, r.2, _, m', F.nxt N1 S.notup, S1, by unfold boF; rw [e5]; rfl, fun v H' mu' N2 S2 O2 => q v H' mu' (N1.trans N2) S2 (O2.base N1.there)⟩
theorem pw_weak {t t' : TT} (h : PW X a t) (w : ∀ σ H Q, t' σ H Q → t σ H Q) : PW X a t' := ⟨fun wh pins s σ H Q I q => h.run wh pins s σ H Q I (w _ _ _ q)⟩
theorem rdW_and1 (ha : PT X a (rdT X.K (tst fa))) : PW X (.BoolOp .And [a] pos) (rdT X.K (andN fa fun _ m => some (true, m))) := by
  refine pw_weak (pw_and1 ha) fun σ H Q q => ?_
  obtain ⟨mu, fr, m, z, m', F, S, e, q⟩ := q
  obtain ⟨r, e2, e3⟩ := Option.bind_eq_some_iff.mp e
  obtain ⟨z', e4, e5⟩ := Option.bind_eq_some_iff.mp e3
  have h : z' = z ∧ r.2 = m' := by
    cases z' with
    | true =>
      rw [if_pos rfl] at e5
      cases e5
      exact ⟨rfl, rfl⟩
    | false =>
      rw [if_neg Bool.false_ne_true] at e5
      cases e5
      exact ⟨rfl, rfl⟩
  obtain ⟨rfl, rfl⟩ := h
  exact ⟨mu, fr, m, z', r.2, F, S, by unfold tst; rw [e2]; show (truO r.2 r.1).map _ = _; rw [e4]; rfl, q⟩
theorem rdW_or1 (ha : PT X a (rdT X.K (tst fa))) : PW X (.BoolOp .Or [a] pos) (rdT X.K (orN fa fun _ m => some (false, m))) := by
  refine pw_weak (pw_or1 ha) fun σ H Q q => ?_
  obtain ⟨mu, fr, m, z, m', F, S, e, q⟩ := q
  obtain ⟨r, e2, e3⟩ := Option.bind_eq_some_iff.mp e
  obtain ⟨z', e4, e5⟩ := Option.bind_eq_some_iff.mp e3
  have h : z' = z ∧ r.2 = m' := by
    cases z' with
    | true =>
      rw [if_pos rfl] at e5
      cases e5
      exact ⟨rfl, rfl⟩
    | false =>
      rw [if_neg Bool.false_ne_true] at e5
      cases e5
      exact ⟨rfl, rfl⟩
  obtain ⟨rfl, rfl⟩ := h
  exact ⟨mu, fr, m, z', r.2, F, S, by unfold tst; rw [e2]; show (truO r.2 r.1).map _ = _; rw [e4]; rfl, q⟩
theorem rdW_and2 (ha : PT X a (rdT X.K (tst fa))) (hb : PW X (.BoolOp .And (b :: rest) pos) (rdT X.K g)) : PW X (.BoolOp .And (a :: b :: rest) pos) (rdT X.K (andN fa g)) := by
  refine pw_weak (pw_and ha hb) fun σ H Q q => ?_
  obtain ⟨mu, fr, m, z, m', F, S, e, q⟩ := q
  obtain ⟨r, e2, e3⟩ := Option.bind_eq_some_iff.mp e
  obtain ⟨z', e4, e5⟩ := Option.bind_eq_some_iff.mp e3
  refine ⟨mu, fr, m, z', r.2, F, S, by unfold tst; rw [e2]; show (truO r.2 r.1).map _ = _; rw [e4]; rfl, fun H1 mu1 N1 S1 => ?_⟩
  cases z' with
  | true =>
    rw [if_pos rfl] at e5 ⊢
    exact ⟨mu1, fr, r.2, z, m', F.nxt N1 S.notup, S1, e5, fun H' mu' N2 S2 => q H' mu' (N1.trans N2) S2⟩
  | false =>
    rw [if_neg Bool.false_ne_true] at e5 ⊢
    cases e5
    exact q H1 mu1 N1 S1
theorem rdW_or2 (ha : PT X a (rdT X.K (tst fa))) (hb : PW X (.BoolOp .Or (b :: rest) pos) (rdT X.K g)) : PW X (.BoolOp .Or (a :: b :: rest) pos) (rdT X.K (orN fa g)) := by
  refine pw_weak (pw_or ha hb) fun σ H Q q => ?_
  obtain ⟨mu, fr, m, z, m', F, S, e, q⟩ := q
  obtain ⟨r, e2, e3⟩ := Option.bind_eq_some_iff.mp e
  obtain ⟨z', e4, e5⟩ := Option.bind_eq_some_iff.mp e3
  refine ⟨mu, fr, m, z', r.2, F, S, by unfold tst; rw [e2]; show (truO r.2 r.1).map _ = _; rw [e4]; rfl, fun H1 mu1 N1 S1 => ?_⟩
  cases z' with
  | true =>
    rw [if_pos rfl] at e5 ⊢
    cases e5
    exact q H1 mu1 N1 S1
  | false =>
    rw [if_neg Bool.false_ne_true] at e5 ⊢
    exact ⟨mu1, fr, r.2, z, m', F.nxt N1 S.notup, S1, e5, fun H' mu' N2 S2 => q H' mu' (N1.trans N2) S2⟩
/-! ### arguments, displays -/
variable {es : List Expr} {fs : Fr → Mm → Option (List D × Mm)}
theorem rda_nil : PA X [] (rdA X.K fun _ m => some ([], m)) := by
  refine ⟨fun p pins s σ H Q I q => pa_nil.run p pins s σ H Q I ?_⟩
  obtain ⟨mu, fr, m, z, m', F, S, e, q⟩ := q
  cases e
  exact q [] H mu (Nxt.refl S) S .nil
theorem rda_cons (ha : PE X a (rd X.K fa)) (hs : PA X es (rdA X.K fs)) (h : starEach (a :: es) X.env = (false, eval a X.env) :: starEach es X.env) :
    PA X (a :: es) (rdA X.K fun fr m => (fa fr m).bind fun r => (fs fr (stow r.1 r.2).2).map fun q => ((stow r.1 r.2).1 :: q.1, q.2)) := by
  refine ⟨fun p pins s σ H Q I q => (pa_cons ha hs h).run p pins s σ H Q I ?_⟩
  obtain ⟨mu, fr, m, z, m', F, S, e, q⟩ := q
  obtain ⟨r, e1, e2⟩ := Option.bind_eq_some_iff.mp e
  obtain ⟨t, e3, e4⟩ := Option.map_eq_some_iff.mp e2
  cases e4
  refine rd_go F S (show fa fr m = some (r.1, r.2) from e1) fun x H1 mu1 N1 S1 O1 => ?_
  obtain ⟨mu2, hp, N2, S2, R2⟩ := stow_ok S1 N1 O1
  refine ⟨mu2, fr, _, t.1, t.2, F.nxt N2 S.notup, S2, e3, fun vs H' mu' N3 S3 R3 => ?_⟩
  exact q (x :: vs) H' mu' (N2.trans N3) S3 (.cons (R2.nxt N3 S2.notup) R3)
theorem rd_tup {k : Nat} (h : PA X es (rdA X.K fs)) : PE X (.Tuple es k pos) (rd X.K fun fr m => (fs fr m).bind fun r => if r.1.length ≤ sizeLine then some (.val (.tup r.1), r.2) else none) := by
  refine pe_weak (pe_tupF h) fun σ H Q q => ?_
  obtain ⟨mu, fr, m, z, m', F, S, e, q⟩ := q
  obtain ⟨r, e1, e2⟩ := Option.bind_eq_some_iff.mp e
  obtain ⟨hz, e2⟩ := ite_some e2
  cases e2
  refine ⟨mu, fr, m, r.1, r.2, F, S, e1, fun vs H1 mu1 N1 S1 R1 => ⟨by rw [← R1.length]; exact hz, fun p its n np => ?_⟩⟩
  exact q _ _ mu1 (N1.trans (Nxt.laid S1 np)) (S1.laid np) (.tup FT.new (R1.nxt (Nxt.laid S1 np) S1.notup))
theorem rd_lst (h : PA X es (rdA X.K fs)) : PE X (.List es pos) (rd X.K fun fr m => (fs fr m).bind fun r => if r.1.length ≤ sizeLine then some (.tmp r.1, r.2) else none) := by
  refine pe_weak (pe_lst h) fun σ H Q q => ?_
  obtain ⟨mu, fr, m, z, m', F, S, e, q⟩ := q
  obtain ⟨r, e1, e2⟩ := Option.bind_eq_some_iff.mp e
  obtain ⟨hz, e2⟩ := ite_some e2
  cases e2
  refine ⟨mu, fr, m, r.1, r.2, F, S, e1, fun vs H1 mu1 N1 S1 R1 => ⟨by rw [← R1.length]; exact hz, fun p np => ?_⟩⟩
  exact q _ _ mu1 (N1.trans (Nxt.laid S1 np)) (S1.laid np) (or_new S1 N1.there R1 np)
theorem rd_dnew : PE X (.Dict [] [] pos) (rd X.K fun _ m => some (.val (.ref m.length), m ++ [.dct []])) := by
  refine pe_weak pe_dnewK fun σ H Q q => ?_
  obtain ⟨mu, fr, m, z, m', F, S, e, q⟩ := q
  cases e
  intro p np
  obtain ⟨S1, N1, e5⟩ := st_new (o := .dK []) (ob := .dct []) S np ⟨_, upd_same, .nil⟩
  exact q _ _ _ N1 S1 (.ref e5)
/-! ### subscripts, slices -/
theorem rd_ix (hu : X.A.units + 1 < cLine) (hs : PlainIx b) (ha : PE X a (rd X.K fa)) (hb : PE X b (rd X.K fb)) :
    PE X (.Subscript a b pos) (rd X.K fun fr m => (fa fr m).bind fun r => (fb fr r.2).bind fun q => (ixO q.2 r.1 q.1).map fun z => (.val z, q.2)) := by
  refine pe_weak (pe_ix (ix_O hu) ha hb hs) fun σ H Q h => ?_
  refine rd_two (op := fun m a b => (ixO m a b).map .val) ?_
  have e : (fun (fr : Fr) (m : Mm) => (fa fr m).bind fun r => (fb fr r.2).bind fun q => (ixO q.2 r.1 q.1).map fun z => (Out.val z, q.2)) =
      fun fr m => (fa fr m).bind fun r => (fb fr r.2).bind fun q => ((ixO q.2 r.1 q.1).map Out.val).map fun z => (z, q.2) := by
    funext fr m
    simp only [Option.map_map]
    rfl
  rw [e] at h
  exact h
def rdO (K : PySem.W.Frag) (f : Fr → Mm → Option (Option Int × Mm)) : TO := fun σ H Q => ∃ mu fr m b m', FrR K mu H σ fr ∧ SR K mu m H ∧ f fr m = some (b, m') ∧
  ∀ H' mu', Nxt mu H mu' H' → SR K mu' m' H' → Q b H'
variable {lo hi : Option Expr} {fl fh : Fr → Mm → Option (Option Int × Mm)}
theorem po_weak {t t' : TO} {o : Option Expr} (h : PO X o t) (w : ∀ σ H Q, t' σ H Q → t σ H Q) : PO X o t' := ⟨fun pins s σ H Q I q => h.run pins s σ H Q I (w _ _ _ q)⟩
theorem rdo_none : PO X none (rdO X.K fun _ m => some (none, m)) := by
  refine po_weak po_none fun σ H Q q => ?_
  obtain ⟨mu, fr, m, z, m', F, S, e, q⟩ := q
  cases e
  exact q H mu (Nxt.refl S) S
theorem rdo_some (ha : PE X a (rd X.K fa)) : PO X (some a) (rdO X.K fun fr m => (fa fr m).bind fun r => (bndO r.1).map fun i => (some i, r.2)) := by
  refine po_weak (po_some ha) fun σ H Q q => ?_
  obtain ⟨mu, fr, m, z, m', F, S, e, q⟩ := q
  obtain ⟨r, e1, e2⟩ := Option.bind_eq_some_iff.mp e
  obtain ⟨i, e3, e4⟩ := Option.map_eq_some_iff.mp e2
  cases e4
  refine rd_go F S (show fa fr m = some (r.1, r.2) from e1) fun x H1 mu1 N1 S1 O1 => ?_
  rw [bndO_eq e3] at O1
  exact ⟨i, int_or O1, q H1 mu1 N1 S1⟩
theorem rd_slc {p2 : Pos} (ha : PE X a (rd X.K fa)) (hl : PO X lo (rdO X.K fl)) (hh : PO X hi (rdO X.K fh)) :
    PE X (.Subscript a (.Slice lo hi none p2) pos) (rd X.K fun fr m => (fa fr m).bind fun r => (fl fr r.2).bind fun q => (fh fr q.2).bind fun p => (slcO p.2 r.1 q.1 p.1).map fun z => (z, p.2)) := by
  refine pe_weak (pe_slice sl_O ha hl hh) fun σ H Q q => ?_
  obtain ⟨mu, fr, m, z, m', F, S, e, q⟩ := q
  obtain ⟨r, e1, e⟩ := Option.bind_eq_some_iff.mp e
  obtain ⟨t, e2, e⟩ := Option.bind_eq_some_iff.mp e
  obtain ⟨w, e3, e⟩ := Option.bind_eq_some_iff.mp e
  obtain ⟨y, e4, e5⟩ := Option.map_eq_some_iff.mp e
  cases e5
  refine rd_go F S (show fa fr m = some (r.1, r.2) from e1) fun x H1 mu1 N1 S1 O1 => ?_
  refine ⟨mu1, fr, r.2, t.1, t.2, F.nxt N1 S.notup, S1, e2, fun H2 mu2 N2 S2 => ?_⟩
  refine ⟨mu2, fr, t.2, w.1, w.2, F.nxt (N1.trans N2) S.notup, S2, e3, fun H3 mu3 N3 S3 => ?_⟩
  exact ⟨mu3, w.2, r.1, H, z, S3, ((N1.trans N2).trans N3).there, (O1.nxt N2 S1.notup).nxt N3 S2.notup, e4, fun v H' N4 S4 O4 => q v H' mu3 (((N1.trans N2).trans N3).trans N4) S4 O4⟩
/-! ### calls -/
def spF (K : PySem.W.Frag) (n : Nat) (F : Fn) : Sp := fun vs H Q _ => ∃ mu m ds out m', SR K mu m H ∧ RepL K mu H ds vs ∧ ds.length = n ∧ F ds m = some (out, m') ∧
  ∀ v H' mu', Nxt mu H mu' H' → SR K mu' m' H' → OR K H mu' H' out v → Q v H'
theorem rd_call {x : Str} {p : Pos} {e : Expr} {k n : Nat} {f : Addr} {fd : FuncData} {ps : List Str} {F : Fn} (G : FnG X.prog X.w X.K X.mg X.base CX0 k f fd ps (spF X.K n F)) (hr : Room k X.A ∧ X.A.guards = some []) (hg : Gl X x) (hm : X.mg x = some (.ref f))
    (hk : PySem.W.keepIn X.K (.ref f) = true) (hb : Binds X.K fd ps []) (hd : (x == ("__debug__" : Str)) = false) (hs : starEach (e :: es) X.env = (false, eval e X.env) :: starEach es X.env) (hpl : (backTo pos (starEach es X.env)).any (·.1) = false)
    (ha : PA X (e :: es) (rdA X.K fs)) : PE X (.Call (.Name x p) (e :: es) [] pos) (rd X.K fun fr m => (fs fr m).bind fun r => if n = r.1.length then F r.1 r.2 else none) := by
  refine pe_weak (callG (E := fun _ _ _ => False) G hr hg hm hk hb pass0 ha hd hs hpl) fun σ H Q q => ?_
  obtain ⟨mu, fr, m, z, m', F', S, e, q⟩ := q
  obtain ⟨r, e1, e2⟩ := Option.bind_eq_some_iff.mp e
  obtain ⟨hn, e3⟩ := ite_some2 e2
  refine ⟨mu, fr, m, r.1, r.2, F', S, e1, fun vs H1 mu1 N1 S1 R1 => ?_⟩
  exact ⟨mu1, r.2, r.1, z, m', S1, R1, hn.symm, e3, fun v H' mu' N2 S2 O2 => q v H' mu' (N1.trans N2) S2 (O2.base N1.there)⟩
theorem rd_call0 {x : Str} {p : Pos} {k n : Nat} {f : Addr} {fd : FuncData} {ps : List Str} {F : Fn} (G : FnG X.prog X.w X.K X.mg X.base CX0 k f fd ps (spF X.K n F)) (hr : Room k X.A ∧ X.A.guards = some []) (hg : Gl X x) (hm : X.mg x = some (.ref f))
    (hk : PySem.W.keepIn X.K (.ref f) = true) (hb : Binds X.K fd ps []) (hd : (x == ("__debug__" : Str)) = false) : PE X (.Call (.Name x p) [] [] pos) (rd X.K fun _ m => if n = 0 then F [] m else none) := by
  refine pe_weak (callG0 (E := fun _ _ _ => False) G hr hg hm hk hb pass0 hd) fun σ H Q q => ?_
  obtain ⟨mu, fr, m, z, m', F', S, e, q⟩ := q
  obtain ⟨hn, e3⟩ := ite_some2 e
  exact ⟨mu, m, [], z, m', S, .nil, hn.symm, e3, q⟩
theorem rd_cl {r : Mm → Out → Option (Out × Mm)} (ha : PE X a (rd X.K fa)) (h : starEach [a] X.env = [(false, eval a X.env)])
    (w : ∀ {u : TA}, PA X [a] u → PE X b (tCB (rCl X.K r) u)) : PE X b (rd X.K fun fr m => (fa fr m).bind fun q => r q.2 q.1) := by
  refine pe_weak (w (pa_cons ha pa_nil h)) fun σ H Q q => ?_
  obtain ⟨mu, fr, m, z, m', F, S, e, q⟩ := q
  obtain ⟨y, e1, e2⟩ := Option.bind_eq_some_iff.mp e
  refine rd_go F S (show fa fr m = some (y.1, y.2) from e1) fun x H1 mu1 N1 S1 O1 => ?_
  exact ⟨mu1, y.2, y.1, H, z, m', x, rfl, S1, N1.there, O1, e2, fun v H' mu' N2 S2 O2 => q v H' mu' (N1.trans N2) S2 O2⟩
end
end Nb

/-! Nb10: what is walked; targets; comprehensions -/
namespace Nb
open PySem PySem.Spec PyProof.Rows L2
/-- a value for a target: a tuple that goes to a tuple of targets need not be known to its object -/
def Rp (K : PySem.W.Frag) (mu : List Addr) (H : Hp) : Tg → D → V → Prop
  | .n _, d, v => Rep K mu H d v
  | .t _, d, v => Rep K mu H d v ∨ ∃ ds a vs, d = .tup ds ∧ v = .ref a ∧ SqT K H a vs ∧ RepL K mu H ds vs
def WkOk (K : PySem.W.Frag) (tg : Tg) (J : L2.It) (mu : List Addr) (H : Hp) (k : Wk) : Prop := ∀ mu' m' H', Nxt mu H mu' H' → SR K mu' m' H' → gdW k m' = true → ∀ i,
  (k.1[i]? = none → J.stop i H') ∧ ∀ d, k.1[i]? = some d → J.go i H' ∧ ∀ x H2, J.yld i H' x H2 → Nxt mu' H' mu' H2 ∧ SR K mu' m' H2 ∧ Rp K mu' H2 tg d x
def rdI (K : PySem.W.Frag) (tg : Tg) (f : Fr → Mm → Option (Wk × Mm)) : TI := fun σ H R => ∃ mu fr m k m', FrR K mu H σ fr ∧ SR K mu m H ∧ f fr m = some (k, m') ∧
  ∀ J H' mu', Nxt mu H mu' H' → SR K mu' m' H' → WkOk K tg J mu' H' k → R J H'
section
variable {X : Cx} {a b c : Expr} {fa fb fc : Fr → Mm → Option (Out × Mm)} {pos : Pos} {K : PySem.W.Frag} {mu mu' : List Addr} {H H' H0 : Hp} {m m' : Mm} {tg : Tg} {tgx : Expr}
theorem pi_weak {t t' : TI} (h : PI X tgx a t) (w : ∀ σ H R, t' σ H R → t σ H R) : PI X tgx a t' := ⟨fun pins s σ H R I q => h.run pins s σ H R I (w _ _ _ q)⟩
theorem pi_or {t t' : TI} (h : PI X tgx a t) (h' : PI X tgx a t') : PI X tgx a (fun σ H R => t σ H R ∨ t' σ H R) := ⟨fun pins s σ H R I q => q.elim (h.run pins s σ H R I) (h'.run pins s σ H R I)⟩
theorem rp_of {d : D} {v : V} (h : Rep K mu H d v) : Rp K mu H tg d v := by
  cases tg with
  | n i => exact h
  | t ts => exact .inl h
theorem sqL_inj {a : Addr} {xs ys : List V} (h : H a = some (.lst xs)) (hk : SqL K H a ys → ys = xs) : True := trivial
/-- a list at a that stands through -/
theorem wk_list {p : Addr} {ds : List D} {k : Wk} (hk : k.1 = ds) (h : ∀ mu' m' H', Nxt mu H mu' H' → SR K mu' m' H' → gdW k m' = true → ∃ vs, SqL K H' p vs ∧ RepL K mu' H' ds vs) : WkOk K tg (Itl K p) mu H k := by
  intro mu' m' H' N S hg i
  subst hk
  obtain ⟨vs, h1, h2⟩ := h mu' m' H' N S hg
  refine ⟨fun e => ⟨vs, h1, ?_⟩, fun d e => ?_⟩
  · rw [← h2.length]
    exact List.getElem?_eq_none_iff.mp e
  · obtain ⟨v, e1, e2⟩ := h2.get e
    refine ⟨⟨vs, v, h1, e1⟩, fun x H2 y => ?_⟩
    obtain ⟨rfl, y⟩ := y
    have ex := (y vs h1).symm.trans e1
    cases ex
    exact ⟨Nxt.refl S, S, rp_of e2⟩
theorem wk_tup {p : Addr} {ds : List D} {vs : List V} {k : Wk} (hk : k.1 = ds) (hn : ∀ a ∈ mu, ¬ Fx H a) (h1 : FT K H p vs) (h2 : RepL K mu H ds vs) : WkOk K tg (Itt K p) mu H k := by
  intro mu' m' H' N S hg i
  subst hk
  have h1' := (N.ft hn h1).sqT
  have h2' := h2.nxt N hn
  refine ⟨fun e => ⟨vs, h1', ?_⟩, fun d e => ?_⟩
  · rw [← h2.length]
    exact List.getElem?_eq_none_iff.mp e
  · obtain ⟨v, e1, e2⟩ := h2'.get e
    refine ⟨⟨vs, v, h1', e1⟩, fun x H2 y => ?_⟩
    obtain ⟨rfl, y⟩ := y
    have ex := (y vs h1').symm.trans e1
    cases ex
    exact ⟨Nxt.refl S, S, rp_of e2⟩
theorem wk_ints {lo : Int} {n : Nat} {k : Wk} (hk : k.1 = (List.range n).map fun (j : Nat) => .int (lo + (j : Int))) : WkOk K tg (Itr lo n) mu H k := by
  intro mu' m' H' N S hg i
  rw [hk]
  refine ⟨fun e => ?_, fun d e => ?_⟩
  · have e := List.getElem?_eq_none_iff.mp e
    rw [List.length_map, List.length_range] at e
    exact e
  · rw [List.getElem?_map] at e
    obtain ⟨j, e1, e2⟩ := Option.map_eq_some_iff.mp e
    obtain ⟨hl, e3⟩ := List.getElem?_eq_some_iff.mp e1
    rw [List.getElem_range] at e3
    rw [List.length_range] at hl
    subst e3
    subst e2
    refine ⟨hl, fun x H2 y => ?_⟩
    obtain ⟨rfl, rfl⟩ := y
    exact ⟨Nxt.refl S, S, rp_of (.int _)⟩
theorem wk_str {z : Str} {k : Wk} (hk : k.1 = z.cps.toList.map fun c => .str ⟨#[c]⟩) : WkOk K tg (Its z) mu H k := by
  intro mu' m' H' N S hg i
  rw [hk]
  refine ⟨fun e => ?_, fun d e => ?_⟩
  · have e := List.getElem?_eq_none_iff.mp e
    rw [List.length_map, Array.length_toList] at e
    exact e
  · rw [List.getElem?_map, Array.getElem?_toList] at e
    obtain ⟨j, e1, e2⟩ := Option.map_eq_some_iff.mp e
    subst e2
    refine ⟨(Array.getElem?_eq_some_iff.mp e1).1, fun x H2 y => ?_⟩
    obtain ⟨rfl, c, e3, rfl⟩ := y
    rw [e1] at e3
    cases e3
    exact ⟨Nxt.refl S, S, rp_of (.str _)⟩
theorem rdi_e (ha : PE X a (rd X.K fa)) : PI X tgx a (rdI X.K tg fun fr m => (fa fr m).bind fun r => (wkO r.2 r.1).map fun k => (k, r.2)) := by
  refine pi_weak (pi_or (pi_list ha) (pi_or (pi_tup ha) (pi_str ha))) fun σ H R q => ?_
  obtain ⟨mu, fr, m, k, m', F, S, e, q⟩ := q
  obtain ⟨r, e1, e2⟩ := Option.bind_eq_some_iff.mp e
  obtain ⟨k', e3, e4⟩ := Option.map_eq_some_iff.mp e2
  cases e4
  have go := fun (T : V → Hp → Prop) => rd_go (R := T) F S (show fa fr m = some (r.1, r.2) from e1)
  unfold wkO at e3
  split at e3
  · rename_i ds ho
    cases e3
    refine .inl (go _ fun v H1 mu1 N1 S1 O1 => ?_)
    rw [ho] at O1
    obtain ⟨p, vs, rfl, hp, hr, hm, _⟩ := O1
    refine ⟨p, rfl, ⟨vs, .inl (.inl hp)⟩, q _ H1 mu1 N1 S1 (wk_list rfl fun mu' m' H' N S' _ => ⟨vs, .inl (.inl (N.keep p _ hp hm)), hr.nxt N S1.notup⟩)⟩
  · rename_i ds ho
    cases e3
    refine .inr (.inl (go _ fun v H1 mu1 N1 S1 O1 => ?_))
    rw [ho] at O1
    cases O1 with
    | tup h1 h2 => exact ⟨_, rfl, ⟨_, h1.sqT⟩, q _ H1 mu1 N1 S1 (wk_tup rfl S1.notup h1 h2)⟩
  · rename_i ds ho
    cases e3
    refine .inl (go _ fun v H1 mu1 N1 S1 O1 => ?_)
    rw [ho] at O1
    cases O1 with
    | frz h1 h2 => exact ⟨_, rfl, ⟨_, h1.sqL⟩, q _ H1 mu1 N1 S1 (wk_list rfl fun mu' m' H' N S' _ => ⟨_, (N.sqF S1.notup h1).sqL, h2.nxt N S1.notup⟩)⟩
  · rename_i z ho
    cases e3
    refine .inr (.inr (go _ fun v H1 mu1 N1 S1 O1 => ?_))
    rw [ho] at O1
    exact ⟨z, str_or O1, q _ H1 mu1 N1 S1 (wk_str rfl)⟩
  · rename_i n ho
    split at e3
    · rename_i ds em
      cases e3
      refine .inl (go _ fun v H1 mu1 N1 S1 O1 => ?_)
      rw [ho] at O1
      cases O1 with
      | ref hn =>
        obtain ⟨vs, h1, h2⟩ := S1.at_ _ _ _ em hn
        refine ⟨_, rfl, ⟨vs, .inl (.inl h1)⟩, q _ H1 mu1 N1 S1 (wk_list rfl fun mu' m' H' N S' hg => ?_)⟩
        obtain ⟨ws, h3, h4⟩ := S'.at_ _ _ _ (gdW_of hg) (pre_get N.pre hn)
        exact ⟨ws, .inl (.inl h3), h4⟩
    · cases e3
  · cases e3
theorem rdi_rng1 {p : Pos} (hg : Gl X "range") (hm : X.mg "range" = none) (hs : starEach [a] X.env = [(false, eval a X.env)]) (ha : PE X a (rd X.K fa)) :
    PI X tgx (.Call (.Name "range" p) [a] [] pos) (rdI X.K tg fun fr m => (fa fr m).bind fun r => (bndO r.1).bind fun j => if inR j then some ((rngD 0 j, none), r.2) else none) := by
  refine pi_weak (pi_range1 hg hm (pa_cons ha pa_nil hs) hs) fun σ H R q => ?_
  obtain ⟨mu, fr, m, k, m', F, S, e, q⟩ := q
  obtain ⟨r, e1, e2⟩ := Option.bind_eq_some_iff.mp e
  obtain ⟨j, e3, e4⟩ := Option.bind_eq_some_iff.mp e2
  obtain ⟨hj, e4⟩ := ite_some e4
  cases e4
  unfold inR at hj
  rw [Bool.and_eq_true, decide_eq_true_eq, decide_eq_true_eq] at hj
  refine rd_go F S (show fa fr m = some (r.1, r.2) from e1) fun v H1 mu1 N1 S1 O1 => ?_
  rw [bndO_eq e3] at O1
  rw [int_or O1]
  refine ⟨j, rfl, hj.1, hj.2, q _ H1 mu1 N1 S1 (wk_ints ?_)⟩
  show rngD 0 j = _
  unfold rngD
  rw [Int.sub_zero]
theorem rdi_rng2 {p : Pos} (hg : Gl X "range") (hm : X.mg "range" = none) (hs : starEach [a, b] X.env = [(false, eval a X.env), (false, eval b X.env)]) (hs2 : starEach [b] X.env = [(false, eval b X.env)]) (ha : PE X a (rd X.K fa)) (hb : PE X b (rd X.K fb)) :
    PI X tgx (.Call (.Name "range" p) [a, b] [] pos) (rdI X.K tg fun fr m => (fa fr m).bind fun r => (fb fr r.2).bind fun q => (bndO r.1).bind fun i => (bndO q.1).bind fun j => if inR i && inR j then some ((rngD i j, none), q.2) else none) := by
  refine pi_weak (pi_range2 hg hm (pa_cons ha (pa_cons hb pa_nil hs2) (by rw [hs, hs2])) hs hs2) fun σ H R q => ?_
  obtain ⟨mu, fr, m, k, m', F, S, e, q⟩ := q
  obtain ⟨r, e1, e2⟩ := Option.bind_eq_some_iff.mp e
  obtain ⟨t, e5, e2⟩ := Option.bind_eq_some_iff.mp e2
  obtain ⟨i, e3, e2⟩ := Option.bind_eq_some_iff.mp e2
  obtain ⟨j, e6, e4⟩ := Option.bind_eq_some_iff.mp e2
  obtain ⟨hj, e4⟩ := ite_some e4
  cases e4
  unfold inR at hj
  simp only [Bool.and_eq_true, decide_eq_true_eq] at hj
  refine rd_go F S (show fa fr m = some (r.1, r.2) from e1) fun v H1 mu1 N1 S1 O1 => ?_
  refine rd_go (F.nxt N1 S.notup) S1 (show fb fr r.2 = some (t.1, t.2) from e5) fun w H2 mu2 N2 S2 O2 => ?_
  rw [bndO_eq e3] at O1
  rw [bndO_eq e6] at O2
  rw [int_or O1, int_or O2]
  exact ⟨i, j, rfl, ⟨hj.1.1, hj.1.2, hj.2.1, hj.2.2⟩, q _ H2 mu2 (N1.trans N2) S2 (wk_ints rfl)⟩
/-- a new pair for a tuple of targets -/
theorem pair_rp {ts : List Tg} {T : Addr} {d e : D} {x y : V} (S : SR K mu m H) (hT : H T = none) (h1 : Rep K mu H d x) (h2 : Rep K mu H e y) :
    Nxt mu H mu (upd H T (.tup [x, y])) ∧ SR K mu m (upd H T (.tup [x, y])) ∧ Rp K mu (upd H T (.tup [x, y])) (.t ts) (.tup [d, e]) (.ref T) := by
  have N := Nxt.laid S (o := .tup [x, y]) hT
  exact ⟨N, S.laid hT, .inr ⟨[d, e], T, [x, y], rfl, rfl, .inl (.inl upd_same), .cons (h1.nxt N S.notup) (.cons (h2.nxt N S.notup) .nil)⟩⟩
/-- two rows side by side, each as it stands -/
theorem wk_zipG {ts : List Tg} {J : L2.It} {p q : Addr} {ds es : List D} {k : Wk} {Sq : Hp → Addr → List V → Prop} (hJ : J = ⟨fun i H => ∃ (xs ys : List V) (x y : V), Sq H p xs ∧ Sq H q ys ∧ xs[i]? = some x ∧ ys[i]? = some y,
      fun i H v H' => ∃ T x y, v = .ref T ∧ H T = none ∧ H' = upd H T (.tup [x, y]) ∧ (∀ xs, Sq H p xs → xs[i]? = some x) ∧ ∀ ys, Sq H q ys → ys[i]? = some y,
      fun i H => ∃ xs ys : List V, Sq H p xs ∧ Sq H q ys ∧ (xs.length ≤ i ∨ ys.length ≤ i)⟩) (hk : k = (List.zipWith (fun a b => D.tup [a, b]) ds es, none))
    (h1 : ∀ mu' H', Nxt mu H mu' H' → ∃ vs, Sq H' p vs ∧ RepL K mu' H' ds vs) (h2 : ∀ mu' H', Nxt mu H mu' H' → ∃ vs, Sq H' q vs ∧ RepL K mu' H' es vs) : WkOk K (.t ts) J mu H k := by
  intro mu' m' H' N S hg i
  subst hJ hk
  obtain ⟨vs, s1, r1⟩ := h1 mu' H' N
  obtain ⟨ws, s2, r2⟩ := h2 mu' H' N
  have l1 := r1.length
  have l2 := r2.length
  refine ⟨fun e => ⟨vs, ws, s1, s2, ?_⟩, fun d e => ?_⟩
  · have e := List.getElem?_eq_none_iff.mp e
    rw [List.length_zipWith] at e
    omega
  · rw [List.getElem?_zipWith] at e
    split at e
    · rename_i a b ea eb
      cases e
      obtain ⟨x, x1, x2⟩ := r1.get ea
      obtain ⟨y, y1, y2⟩ := r2.get eb
      refine ⟨⟨vs, ws, x, y, s1, s2, x1, y1⟩, fun v H2 yl => ?_⟩
      obtain ⟨T, x', y', rfl, hT, rfl, q1, q2⟩ := yl
      have ex := (q1 vs s1).symm.trans x1
      have ey := (q2 ws s2).symm.trans y1
      cases ex
      cases ey
      exact pair_rp S hT x2 y2
    · cases e
/-- a row that stands: a new list, a list only read -/
theorem fix_lst {o : Out} {v : V} {ds : List D} (S : SR K mu m H) (h : OR K H0 mu H o v) (e : o = .tmp ds ∨ o = .val (.frz ds)) : ∃ p, v = .ref p ∧ ∀ mu' H', Nxt mu H mu' H' → ∃ vs, SqL K H' p vs ∧ RepL K mu' H' ds vs := by
  rcases e with rfl | rfl
  · obtain ⟨p, vs, rfl, hp, hr, hm, _⟩ := h
    exact ⟨p, rfl, fun mu' H' N => ⟨vs, .inl (.inl (N.keep p _ hp hm)), hr.nxt N S.notup⟩⟩
  · cases h with
    | frz h1 h2 => exact ⟨_, rfl, fun mu' H' N => ⟨_, (N.sqF S.notup h1).sqL, h2.nxt N S.notup⟩⟩
theorem fix_tup {v : V} {ds : List D} (S : SR K mu m H) (h : OR K H0 mu H (.val (.tup ds)) v) : ∃ p, v = .ref p ∧ ∀ mu' H', Nxt mu H mu' H' → ∃ vs, SqT K H' p vs ∧ RepL K mu' H' ds vs := by
  cases h with
  | tup h1 h2 => exact ⟨_, rfl, fun mu' H' N => ⟨_, (N.ft S.notup h1).sqT, h2.nxt N S.notup⟩⟩
theorem zipO_ok {a b : Out} {k : Wk} (e : zipO a b = some k) : ∃ ds es, k = (List.zipWith (fun a b => D.tup [a, b]) ds es, none) ∧ ((a = .val (.tup ds) ∧ b = .val (.tup es)) ∨ ((a = .tmp ds ∨ a = .val (.frz ds)) ∧ (b = .tmp es ∨ b = .val (.frz es)))) := by
  unfold zipO at e
  split at e
  · cases e; exact ⟨_, _, rfl, .inr ⟨.inl rfl, .inl rfl⟩⟩
  · cases e; exact ⟨_, _, rfl, .inl ⟨rfl, rfl⟩⟩
  · cases e; exact ⟨_, _, rfl, .inr ⟨.inr rfl, .inr rfl⟩⟩
  · cases e; exact ⟨_, _, rfl, .inr ⟨.inl rfl, .inr rfl⟩⟩
  · cases e; exact ⟨_, _, rfl, .inr ⟨.inr rfl, .inl rfl⟩⟩
  · cases e
theorem rdi_zip {p tpos : Pos} {ts : List Tg} {elts : List Expr} {kk : Nat} (hg : Gl X "zip") (hm : X.mg "zip" = none) (hs : starEach [a, b] X.env = [(false, eval a X.env), (false, eval b X.env)]) (hs2 : starEach [b] X.env = [(false, eval b X.env)]) (ha : PE X a (rd X.K fa)) (hb : PE X b (rd X.K fb)) :
    PI X (.Tuple elts kk tpos) (.Call (.Name "zip" p) [a, b] [] pos) (rdI X.K (.t ts) fun fr m => (fa fr m).bind fun r => (fb fr r.2).bind fun q => (zipO r.1 q.1).map fun k => (k, q.2)) := by
  refine pi_weak (RZ.pi_zipA hg hm (pa_cons ha (pa_cons hb pa_nil hs2) (by rw [hs, hs2])) (by rw [hs, hs2]) (by rw [hs2]; rfl)) fun σ H R q => ?_
  obtain ⟨mu, fr, m, k, m', F, S, e, q⟩ := q
  obtain ⟨r, e1, e2⟩ := Option.bind_eq_some_iff.mp e
  obtain ⟨t, e5, e2⟩ := Option.bind_eq_some_iff.mp e2
  obtain ⟨k', e3, e4⟩ := Option.map_eq_some_iff.mp e2
  cases e4
  refine rd_go F S (show fa fr m = some (r.1, r.2) from e1) fun v H1 mu1 N1 S1 O1 => ?_
  refine rd_go (F.nxt N1 S.notup) S1 (show fb fr r.2 = some (t.1, t.2) from e5) fun w H2 mu2 N2 S2 O2 => ?_
  have O1' := O1.nxt N2 S1.notup
  obtain ⟨ds, es, hk, hz⟩ := zipO_ok e3
  rcases hz with ⟨ha, hb⟩ | ⟨ha, hb⟩
  · rw [ha] at O1'
    rw [hb] at O2
    obtain ⟨pa, rfl, f1⟩ := fix_tup S2 O1'
    obtain ⟨pb, rfl, f2⟩ := fix_tup S2 O2
    obtain ⟨vs, s1, _⟩ := f1 mu2 H2 (Nxt.refl S2)
    obtain ⟨ws, s2, _⟩ := f2 mu2 H2 (Nxt.refl S2)
    exact ⟨pa, pb, vs, ws, rfl, .inr ⟨s1, s2, q _ H2 mu2 (N1.trans N2) S2 (wk_zipG (Sq := SqT X.K) rfl hk f1 f2)⟩⟩
  · obtain ⟨pa, rfl, f1⟩ := fix_lst S2 O1' ha
    obtain ⟨pb, rfl, f2⟩ := fix_lst S2 O2 hb
    obtain ⟨vs, s1, _⟩ := f1 mu2 H2 (Nxt.refl S2)
    obtain ⟨ws, s2, _⟩ := f2 mu2 H2 (Nxt.refl S2)
    exact ⟨pa, pb, vs, ws, rfl, .inl ⟨s1, s2, q _ H2 mu2 (N1.trans N2) S2 (wk_zipG (Sq := SqL X.K) rfl hk f1 f2)⟩⟩
theorem wk_revG {J : L2.It} {p : Addr} {ds : List D} {n : Nat} {k : Wk} {Sq : Hp → Addr → List V → Prop} (hJ : J = ⟨fun i H => i < n ∧ ∃ (xs : List V) (x : V), Sq H p xs ∧ xs[n - 1 - i]? = some x, fun i H x H' => H' = H ∧ ∀ xs, Sq H p xs → xs[n - 1 - i]? = some x, fun i _ => n ≤ i⟩)
    (hn : n = ds.length) (hk : k = (ds.reverse, none)) (h1 : ∀ mu' H', Nxt mu H mu' H' → ∃ vs, Sq H' p vs ∧ RepL K mu' H' ds vs) : WkOk K tg J mu H k := by
  intro mu' m' H' N S hg i
  subst hJ hk
  obtain ⟨vs, s1, r1⟩ := h1 mu' H' N
  refine ⟨fun e => ?_, fun d e => ?_⟩
  · have e := List.getElem?_eq_none_iff.mp e
    rw [List.length_reverse] at e
    show n ≤ i
    omega
  · have hi : i < ds.length := by
      have := (List.getElem?_eq_some_iff.mp e).1
      rwa [List.length_reverse] at this
    rw [List.getElem?_reverse hi] at e
    obtain ⟨x, x1, x2⟩ := r1.get e
    rw [← hn] at x1
    refine ⟨⟨by omega, vs, x, s1, x1⟩, fun v H2 yl => ?_⟩
    obtain ⟨rfl, yl⟩ := yl
    have ex := (yl vs s1).symm.trans x1
    cases ex
    exact ⟨Nxt.refl S, S, rp_of x2⟩
theorem rdi_rev {p : Pos} (hg : Gl X "reversed") (hm : X.mg "reversed" = none) (hs : starEach [a] X.env = [(false, eval a X.env)]) (ha : PE X a (rd X.K fa)) :
    PI X tgx (.Call (.Name "reversed" p) [a] [] pos) (rdI X.K tg fun fr m => (fa fr m).bind fun r => (revO r.1).map fun k => (k, r.2)) := by
  refine pi_weak (RT.pi_revA hg hm ha hs) fun σ H R q => ?_
  obtain ⟨mu, fr, m, k, m', F, S, e, q⟩ := q
  obtain ⟨r, e1, e2⟩ := Option.bind_eq_some_iff.mp e
  obtain ⟨k', e3, e4⟩ := Option.map_eq_some_iff.mp e2
  cases e4
  refine rd_go F S (show fa fr m = some (r.1, r.2) from e1) fun v H1 mu1 N1 S1 O1 => ?_
  obtain ⟨ds, e5, rfl⟩ := Option.map_eq_some_iff.mp (show (fixO r.1).map _ = _ from e3)
  unfold fixO at e5
  split at e5
  · rename_i es ho
    cases e5
    obtain ⟨pa, rfl, f1⟩ := fix_lst S1 O1 (.inl ho)
    obtain ⟨vs, s1, r1⟩ := f1 mu1 H1 (Nxt.refl S1)
    exact ⟨pa, vs, rfl, .inl ⟨s1, q _ H1 mu1 N1 S1 (wk_revG (Sq := SqL X.K) rfl r1.length.symm rfl f1)⟩⟩
  · rename_i es ho
    cases e5
    rw [ho] at O1
    obtain ⟨pa, rfl, f1⟩ := fix_tup S1 O1
    obtain ⟨vs, s1, r1⟩ := f1 mu1 H1 (Nxt.refl S1)
    exact ⟨pa, vs, rfl, .inr ⟨s1, q _ H1 mu1 N1 S1 (wk_revG (Sq := SqT X.K) rfl r1.length.symm rfl f1)⟩⟩
  · rename_i es ho
    cases e5
    obtain ⟨pa, rfl, f1⟩ := fix_lst S1 O1 (.inr ho)
    obtain ⟨vs, s1, r1⟩ := f1 mu1 H1 (Nxt.refl S1)
    exact ⟨pa, vs, rfl, .inl ⟨s1, q _ H1 mu1 N1 S1 (wk_revG (Sq := SqL X.K) rfl r1.length.symm rfl f1)⟩⟩
  · cases e5
end
end Nb

/-! Nb11: targets, comprehensions -/
namespace Nb
open PySem PySem.Spec PyProof.Rows L2
mutual
def slT : Tg → List Nat
  | .n i => [i]
  | .t ts => slTs ts
def slTs : List Tg → List Nat
  | [] => []
  | t :: ts => slT t ++ slTs ts
end
/-- a target's reading -/
def rdG (K : PySem.W.Frag) (tg : Tg) : TG := fun v σ H Q => ∃ mu m fr d fr', FrR K mu H σ fr ∧ SR K mu m H ∧ Rp K mu H tg d v ∧ bindT tg d fr = some fr' ∧
  ∀ σ', FrR K mu H σ' fr' → (∀ vs, (∀ i ∈ slT tg, i ∈ vs) → L2.wipe σ' vs = L2.wipe σ vs) → Q σ' H
def rdGs (K : PySem.W.Frag) (ts : List Tg) : TGs := fun vs σ H Q => ∃ mu m fr ds fr', FrR K mu H σ fr ∧ SR K mu m H ∧ RepL K mu H ds vs ∧ bindTs ts ds fr = some fr' ∧
  ∀ σ', FrR K mu H σ' fr' → (∀ vs, (∀ i ∈ slTs ts, i ∈ vs) → L2.wipe σ' vs = L2.wipe σ vs) → Q σ' H
theorem wipe_set {σ : L2.St} {i : Nat} {x : Option V} : ∀ {vs : List Nat}, i ∈ vs → L2.wipe (σ.set i x) vs = L2.wipe σ vs
  | v :: vs, h => by
    have com : ∀ (ws : List Nat) (σ : L2.St), L2.wipe (σ.set i x) ws = (if i ∈ ws then L2.wipe σ ws else (L2.wipe σ ws).set i x) := by
      intro ws
      induction ws with
      | nil =>
        intro σ
        rfl
      | cons w ws ih =>
        intro σ
        show (L2.wipe (σ.set i x) ws).set w none = _
        rw [ih σ]
        by_cases h1 : i ∈ ws
        · rw [if_pos h1, if_pos (List.mem_cons_of_mem _ h1)]
          rfl
        · rw [if_neg h1]
          by_cases h2 : i = w
          · subst h2
            rw [if_pos List.mem_cons_self, List.set_set]
            rfl
          · rw [if_neg (by simp [h1, h2]), List.set_comm _ _ h2]
            rfl
    rw [com, if_pos h]
section
variable {X : Cx} {a b c : Expr} {pos : Pos} {es : List Expr}
theorem rdg_n {i : Nat} {x : Str} (hN : X.N.Nodup) (hi : X.N[i]? = some x) (hx : Loc X.env.scope x) (hf : X.fn x = true ∨ X.env.scope.names.lookup x = some .local) : PG X (.Name x pos) (rdG X.K (.n i)) := by
  refine ⟨fun pins s σ H v u Q I r q => (pg_name hN hi hx hf).run pins s σ H v u Q I r ?_⟩
  obtain ⟨mu, m, fr, d, fr', F, S, R, e, q⟩ := q
  have e : some (fr.set i (some d)) = some fr' := e
  cases e
  exact q _ (F.set R) fun vs h => wipe_set (h i (by simp [slT]))
theorem rdgs_nil : PGs X [] (rdGs X.K []) := by
  refine ⟨fun vs us pins s σ H Q I r q => pgs_nil.run vs us pins s σ H Q I r ?_⟩
  obtain ⟨mu, m, fr, d, fr', F, S, R, e, q⟩ := q
  cases R with
  | nil =>
    cases e
    exact ⟨rfl, q _ F fun _ _ => rfl⟩
  | cons _ _ => cases e
/-- a name or a tuple -/
def plainTg : Expr → Bool
  | .Name _ _ => true
  | .Tuple _ _ _ => true
  | _ => false
theorem assignEach_cons (h : plainTg a = true) : assignEach (a :: es) X.env = (false, assign a X.env) :: assignEach es X.env := by
  cases a <;> first | rfl | cases h
theorem assignEach_plain : ∀ {es : List Expr}, es.all plainTg = true → (assignEach es X.env).length = es.length ∧ (assignEach es X.env).findIdx? (·.1) = none
  | [], _ => ⟨rfl, rfl⟩
  | e :: es, h => by
    rw [List.all_cons, Bool.and_eq_true] at h
    obtain ⟨h1, h2⟩ := assignEach_plain (es := es) h.2
    rw [assignEach_cons h.1]
    refine ⟨by rw [List.length_cons, h1, List.length_cons], ?_⟩
    rw [List.findIdx?_cons, h2]
    rfl
theorem rdgs_cons {t : Tg} {ts : List Tg} (h1 : PG X a (rdG X.K t)) (h2 : PGs X es (rdGs X.K ts)) (hp : plainTg a = true) : PGs X (a :: es) (rdGs X.K (t :: ts)) := by
  refine ⟨fun pins s σ H vs us Q I r q => (pgs_cons h1 h2 (by rw [assignEach_cons hp]; rfl)).run pins s σ H vs us Q I r ?_⟩
  obtain ⟨mu, m, fr, d, fr', F, S, R, e, q⟩ := q
  cases R with
  | nil => cases e
  | cons r1 r2 =>
    obtain ⟨fr1, e1, e2⟩ := Option.bind_eq_some_iff.mp (show (bindT t _ fr).bind (fun fr1 => bindTs ts _ fr1) = some fr' from e)
    refine ⟨_, _, rfl, mu, m, fr, _, fr1, F, S, rp_of r1, e1, fun σ1 F1 w1 => ?_⟩
    refine ⟨mu, m, fr1, _, fr', F1, S, r2, e2, fun σ2 F2 w2 => q σ2 F2 fun ws hw => ?_⟩
    rw [w2 ws fun i hi => hw i (by simp [slTs, hi]), w1 ws fun i hi => hw i (by simp [slTs, hi])]
theorem bindTs_len : ∀ {ts : List Tg} {ds : List D} {fr fr' : Fr}, bindTs ts ds fr = some fr' → ds.length = ts.length
  | [], [], _, _, _ => rfl
  | [], _ :: _, _, _, h => by cases h
  | _ :: _, [], _, _, h => by cases h
  | t :: ts, d :: ds, fr, fr', h => by
    obtain ⟨fr1, e1, e2⟩ := Option.bind_eq_some_iff.mp (show (bindT t d fr).bind (fun fr1 => bindTs ts ds fr1) = some fr' from h)
    rw [List.length_cons, List.length_cons, bindTs_len e2]
theorem rdg_t {ts : List Tg} {k : Nat} (hc : X.calm = true) (h : PGs X es (rdGs X.K ts)) (hp : es.all plainTg = true) (hl : es.length = ts.length) : PG X (.Tuple es k pos) (rdG X.K (.t ts)) := by
  obtain ⟨h1, h2⟩ := assignEach_plain (X := X) hp
  refine ⟨fun pins s σ H v u Q I r q => (pg_tup hc h h1 h2).run pins s σ H v u Q I r ?_⟩
  obtain ⟨mu, m, fr, d, fr', F, S, R, e, q⟩ := q
  have R' : ∃ ds a vs, d = .tup ds ∧ v = .ref a ∧ SqT X.K H a vs ∧ RepL X.K mu H ds vs := by
    rcases R with R | R
    · cases d with
      | tup ds =>
        cases R with
        | tup g1 g2 => exact ⟨ds, _, _, rfl, rfl, g1.sqT, g2⟩
      | _ => simp [bindT] at e
    · exact R
  obtain ⟨ds, p, vs, rfl, rfl, g1, g2⟩ := R'
  have e : bindTs ts ds fr = some fr' := e
  refine ⟨p, vs, rfl, g1, ?_, mu, m, fr, ds, fr', F, S, g2, e, fun σ' F' w => q σ' F' fun ws hw => w ws fun i hi => hw i (by simpa [slT] using hi)⟩
  rw [← g2.length, bindTs_len e, hl]
/-! ### comprehensions -/
variable {tg : Tg} {tgx elt it : Expr} {ifs : List Expr} {scope : Scope} {own : List (Str × Nat)} {fI : Fr → Mm → Option (Wk × Mm)} {fC : Fr → Mm → Option (Bool × Mm)} {fE : Fr → Mm → Option (Out × Mm)}
abbrev cmpB (tg : Tg) (own : List Nat) (fC : Fr → Mm → Option (Bool × Mm)) (fE : Fr → Mm → Option (Out × Mm)) (fr : Fr) : D → Mm → Option (Option D × Mm) := fun d m => (bindT tg d (wipeF fr own)).bind fun fr1 => (fC fr1 m).bind fun b =>
      if b.1 then (fE fr1 b.2).map fun q => (some (stow q.1 q.2).1, (stow q.1 q.2).2) else some (none, b.2)
theorem loopC_gd {f : D → Mm → Option (Option D × Mm)} {gd : Mm → Bool} {ds acc res : List D} {m m' : Mm} (h : loopC f gd ds acc m = some (res, m')) : gd m = true := by
  cases ds with
  | nil =>
    obtain ⟨h1, _⟩ := ite_some (show (if gd m = true then some (acc, m) else none) = _ from h)
    exact h1
  | cons d ds =>
    obtain ⟨h1, _⟩ := ite_some2 (show (if gd m = true then _ else none) = _ from h)
    exact h1
theorem lc_go {K : PySem.W.Frag} {σ : L2.St} {H : Hp} {Q : VK} (hsl : ∀ i ∈ slT tg, i ∈ own.map (·.2))
    (h : rd K (fun fr m => (fI fr m).bind fun r => (loopC (cmpB tg (own.map (·.2)) fC fE fr) (gdW r.1) r.1.1 [] r.2).map fun q => (.tmp q.1, q.2)) σ H Q) :
    tLc (rdI K tg fI) (rdG K tg) (rdT K fC) (rd K fE) (own.map (·.2)) σ H Q := by
  obtain ⟨mu, fr, m, out, m', F, S, e, q⟩ := h
  obtain ⟨r, e1, e2⟩ := Option.bind_eq_some_iff.mp e
  obtain ⟨res, e3, e4⟩ := Option.map_eq_some_iff.mp e2
  cases e4
  refine ⟨mu, fr, m, r.1, r.2, F, S, e1, fun J H1 mu1 N1 S1 wk D nD => ?_⟩
  refine ⟨fun i n H' => n = r.1.1.length - i ∧ ∃ mu2 m2 acc vs, Nxt mu1 H1 mu2 H' ∧ SR K mu2 m2 H' ∧ H' D = some (.lst vs) ∧ D ∉ mu2 ∧ RepL K mu2 H' acc vs ∧ loopC (cmpB tg (own.map (·.2)) fC fE fr) (gdW r.1) (r.1.1.drop i) acc m2 = some (res.1, res.2),
    ⟨_, rfl, mu1, r.2, [], [], Nxt.laid S1 nD, S1.laid nD, upd_same, fun hm => S1.trk D hm nD, .nil, e3⟩, ?_⟩
  rintro i n H' ⟨rfl, mu2, m2, acc, vs, N2, S2, hD, hDm, R2, e5⟩
  have w := wk mu2 m2 H' N2 S2 (loopC_gd e5) i
  by_cases hi : i < r.1.1.length
  · obtain ⟨d, hd⟩ : ∃ d, r.1.1[i]? = some d := ⟨r.1.1[i], List.getElem?_eq_getElem hi⟩
    obtain ⟨go, yl⟩ := w.2 d hd
    have ed : r.1.1.drop i = d :: r.1.1.drop (i + 1) := by
      obtain ⟨_, e6⟩ := List.getElem?_eq_some_iff.mp hd
      rw [List.drop_eq_getElem_cons hi, e6]
    rw [ed] at e5
    obtain ⟨_, e6⟩ := ite_some2 (show (if gdW r.1 m2 = true then _ else none) = _ from e5)
    obtain ⟨t, e7, e8⟩ := Option.bind_eq_some_iff.mp e6
    obtain ⟨fr1, e9, e10⟩ := Option.bind_eq_some_iff.mp e7
    obtain ⟨b, e11, e12⟩ := Option.bind_eq_some_iff.mp e10
    refine .inr ⟨go, fun H3 => ∃ mu3 m3 acc3 vs3, Nxt mu1 H1 mu3 H3 ∧ SR K mu3 m3 H3 ∧ H3 D = some (.lst vs3) ∧ D ∉ mu3 ∧ RepL K mu3 H3 acc3 vs3 ∧ loopC (cmpB tg (own.map (·.2)) fC fE fr) (gdW r.1) (r.1.1.drop (i + 1)) acc3 m3 = some (res.1, res.2),
      fun H3 h3 => ⟨_, by omega, rfl, h3⟩, fun x H3 y => ?_⟩
    obtain ⟨N3, S3, R3⟩ := yl x H3 y
    have hD3 : H3 D = some (.lst vs) := N3.keep D _ hD hDm
    have hw : FrR K mu2 H3 (L2.wipe σ (own.map (·.2))) (wipeF fr (own.map (·.2))) := ((F.nxt ((N1.trans N2).trans N3) S.notup)).wipe _
    refine ⟨mu2, m2, _, d, fr1, hw, S3, R3, e9, fun σ2 F2 w2 => ⟨?_, ?_⟩⟩
    · rw [w2 _ hsl]
      have ww : ∀ (vs : List Nat) (σ : L2.St), L2.wipe (L2.wipe σ vs) vs = L2.wipe σ vs := by
        intro vs
        induction vs with
        | nil =>
          intro σ
          rfl
        | cons v vs ih =>
          intro σ
          show (L2.wipe ((L2.wipe σ vs).set v none) vs).set v none = (L2.wipe σ vs).set v none
          by_cases hv : v ∈ vs
          · rw [wipe_set hv, ih]
          · have : L2.wipe ((L2.wipe σ vs).set v none) vs = (L2.wipe (L2.wipe σ vs) vs).set v none := by
              have com : ∀ (ws : List Nat) (σ : L2.St), v ∉ ws → L2.wipe (σ.set v none) ws = (L2.wipe σ ws).set v none := by
                intro ws
                induction ws with
                | nil =>
                  intro σ _
                  rfl
                | cons w ws ih =>
                  intro σ hn
                  show (L2.wipe (σ.set v none) ws).set w none = ((L2.wipe σ ws).set w none).set v none
                  rw [ih σ (fun z => hn (List.mem_cons_of_mem _ z)), List.set_comm _ _ (fun z => hn (by rw [z]; exact List.mem_cons_self))]
              exact com vs _ hv
            rw [this, ih, List.set_set]
      exact ww _ _
    · refine ⟨mu2, fr1, m2, b.1, b.2, F2, S3, e11, fun H4 mu4 N4 S4 => ?_⟩
      have N14 := (N2.trans N3).trans N4
      have hD4 : H4 D = some (.lst vs) := N4.keep D _ hD3 hDm
      have hDm4 : D ∉ mu4 := fun hm => by
        rcases N4.new D hm with z | z
        · exact hDm z
        · rw [z] at hD3
          cases hD3
      have R4 := (R2.nxt N3 S2.notup).nxt N4 S3.notup
      cases hb : b.1 with
      | true =>
        show ite (true = true) _ _
        rw [if_pos rfl]
        rw [hb, if_pos rfl] at e12
        obtain ⟨y', e13, e14⟩ := Option.map_eq_some_iff.mp e12
        subst e14
        obtain ⟨hz, e15⟩ := ite_some2 (show (if acc.length < sizeLine then loopC _ _ _ _ _ else none) = _ from e8)
        refine ⟨mu4, fr1, b.2, y'.1, y'.2, F2.nxt N4 S3.notup, S4, e13, fun v H5 mu5 N5 S5 O5 => ?_⟩
        obtain ⟨mu6, hp6, N6, S6, R6⟩ := stow_ok S5 N5 O5
        have hD5 : H5 D = some (.lst vs) := N6.keep D _ hD4 hDm4
        have hDm6 : D ∉ mu6 := fun hm => by
          rcases N6.new D hm with z | z
          · exact hDm4 z
          · rw [z] at hD4
            cases hD4
        have R7 := R4.nxt N6 S4.notup
        refine ⟨vs, hD5, by rw [← R2.length]; exact hz, ?_⟩
        -- the new list grows
        have N16 := N14.trans N6
        have up : ∀ b, b ≠ D → upd H5 D (.lst (vs ++ [v])) b = H5 b := fun b hb => upd_ne hb
        have ft : ∀ (b : Addr) (ws : List V), FT K H5 b ws → FT K (upd H5 D (.lst (vs ++ [v]))) b ws := fun b ws h => by
          rcases h with ⟨its, n, h⟩ | h
          · exact .inl ⟨its, n, by rw [up b (fun z => by rw [z, hD5] at h; cases h)]; exact h⟩
          · exact .inr h
        have ff : ∀ (b : Addr) (ws : List V), SqF K H5 b ws → SqF K (upd H5 D (.lst (vs ++ [v]))) b ws := fun b ws h => by
          rcases h with ⟨o, h⟩ | h
          · exact .inl ⟨o, by rw [up b (fun z => by rw [z, hD5] at h; cases h)]; exact h⟩
          · exact .inr h
        have hne : ∀ b ∈ mu6, b ≠ D := fun b hb z => hDm6 (z ▸ hb)
        refine ⟨mu6, _, acc ++ [(stow y'.1 y'.2).1], vs ++ [v], ⟨N16.pre, N16.new, fun b o e hb => ?_, fun b hb => ?_, fun b hb hx => ?_⟩, ⟨S6.len, S6.nd, fun k o b e1 e2 => ?_⟩, upd_same, hDm6, ?_, e15⟩
        · have hbD : b ≠ D := fun z => by
            rw [z] at e
            rw [nD] at e
            cases e
          rw [up b hbD]
          exact N16.keep b o e hb
        · by_cases z : b = D
          · rw [z, upd_same]
            simp
          · rw [up b z]
            exact N16.there b hb
        · refine S6.notup b hb ?_
          unfold Fx at hx ⊢
          rw [up b (hne b hb)] at hx
          exact hx
        · exact (S6.at_ k o b e1 e2).mono (fun _ _ e => e) ft ff (up b (hne b (List.mem_of_getElem? e2)))
        · exact (R7.append (.cons R6 .nil)).mono (fun _ _ e => e) ft ff
      | false =>
        show ite (false = true) _ _
        rw [if_neg Bool.false_ne_true]
        rw [hb, if_neg Bool.false_ne_true] at e12
        cases e12
        exact ⟨mu4, b.2, acc, vs, N14, S4, hD4, hDm4, R4, e8⟩
  · have hn : r.1.1[i]? = none := List.getElem?_eq_none_iff.mpr (by omega)
    refine .inl ⟨w.1 hn, ?_⟩
    have ed : r.1.1.drop i = [] := List.drop_eq_nil_iff.mpr (by omega)
    rw [ed] at e5
    obtain ⟨_, e6⟩ := ite_some (show (if gdW r.1 m2 = true then some (acc, m2) else none) = _ from e5)
    have e7 : acc = res.1 ∧ m2 = res.2 := by
      cases e6
      exact ⟨rfl, rfl⟩
    obtain ⟨rfl, rfl⟩ := e7
    refine q _ H' mu2 (N1.trans N2) S2 ⟨D, vs, rfl, hD, R2, hDm, Classical.byContradiction fun z => N1.there D z nD⟩
theorem rd_comp (hc : X.calm = true) (hN : X.N.Nodup) (hi : PI X tgx it (rdI X.K tg fI)) (ok : BlkOk X.N X.env.scope scope own) (hsl : ∀ i ∈ slT tg, i ∈ own.map (·.2))
    (hg : ∀ (s : Shared) (H : Hp) (C : Addr) (cl : List (Str × Addr)) (fp : List Addr), PG (X.blk s H scope (compEnvC scope cl C X.env) fp) tgx (rdG X.K tg))
    (ht : ∀ (s : Shared) (H : Hp) (C : Addr) (cl : List (Str × Addr)) (fp : List Addr), PTs (X.blk s H scope (compEnvC scope cl C X.env) fp) ifs (rdT X.K fC))
    (he : ∀ (s : Shared) (H : Hp) (C : Addr) (cl : List (Str × Addr)) (fp : List Addr), PE (X.blk s H scope (compEnvC scope cl C X.env) fp) elt (rd X.K fE)) (hs : ∀ x, foldedSetIterable it X.env x = pure x) :
    PE X (.ListComp elt [⟨tgx, it, ifs, 0⟩] scope pos) (rd X.K fun fr m => (fI fr m).bind fun r => (loopC (cmpB tg (own.map (·.2)) fC fE fr) (gdW r.1) r.1.1 [] r.2).map fun q => (.tmp q.1, q.2)) :=
  pe_weak (pe_lc hc hN hi ok hg ht he hs) fun _ _ _ h => lc_go hsl h
theorem pts_weak {t t' : TT} (h : PTs X ifs t) (w : ∀ σ H Q, t' σ H Q → t σ H Q) : PTs X ifs t' := ⟨fun pins s σ H Q I q => h.run pins s σ H Q I (w _ _ _ q)⟩
theorem rdc_nil : PTs X [] (rdT X.K fun _ m => some (true, m)) := by
  refine pts_weak pts_nil fun σ H Q q => ?_
  obtain ⟨mu, fr, m, b, m', F, S, e, q⟩ := q
  cases e
  exact q H mu (Nxt.refl S) S
theorem rdc_one {fa : Fr → Mm → Option (Out × Mm)} (h : PT X a (rdT X.K (tst fa))) : PTs X [a] (rdT X.K (andN fa fun _ m => some (true, m))) := by
  refine pts_weak (pts_one h) fun σ H Q q => ?_
  obtain ⟨mu, fr, m, z, m', F, S, e, q⟩ := q
  obtain ⟨r, e2, e3⟩ := Option.bind_eq_some_iff.mp e
  obtain ⟨z', e4, e5⟩ := Option.bind_eq_some_iff.mp e3
  have h : z' = z ∧ r.2 = m' := by
    cases z' with
    | true =>
      rw [if_pos rfl] at e5
      cases e5
      exact ⟨rfl, rfl⟩
    | false =>
      rw [if_neg Bool.false_ne_true] at e5
      cases e5
      exact ⟨rfl, rfl⟩
  obtain ⟨rfl, rfl⟩ := h
  exact ⟨mu, fr, m, z', r.2, F, S, by unfold tst; rw [e2]; show (truO r.2 r.1).map _ = _; rw [e4]; rfl, q⟩
end
end Nb

/-! Nb12: the check of a text's expressions, and what it is worth -/
namespace Nb
open PySem PySem.Spec PyProof.Rows L2
structure Sc where
  N : List Str
  sc : List (Str × NameKind)
  st : List Str
def bltNames : List Str := ["len", "tuple", "list", "dict", "sorted", "all", "any", "repr", "str", "isinstance", "range", "bool", "int", "enumerate", "zip", "reversed", "set", "min", "max"]
structure Ok (g : Gv) (X : Cx) (c : Sc) : Prop where
  calm : X.calm = true
  nd : X.N.Nodup
  hN : X.N = c.N
  kind : X.env.scope.kind = .function
  names : X.env.scope.names = c.sc
  st : ∀ x ∈ c.st, X.fn x = true ∨ X.env.scope.names.lookup x = some .local
  units : X.A.units + 100 < cLine
  gd : X.A.guards = some []
  fns : ∀ (x : Str) (n : Nat) (F : Fn), g.phi x = some (n, F) → ∃ k f fd ps, Room k X.A ∧ X.mg x = some (.ref f) ∧ PySem.W.keepIn X.K (.ref f) = true ∧ Binds X.K fd ps [] ∧ FnG X.prog X.w X.K X.mg X.base CX0 k f fd ps (spF X.K n F)
  cons : ∀ (x : Str) (d : D), g.gam x = some d → ∃ u v, X.mg x = some u ∧ RelV v u ∧ ∀ mu H, Rep X.K mu H d v
  blt : ∀ x ∈ bltNames, X.mg x = none
def visB (c : Sc) (x : Str) : Bool := match c.sc.lookup x with
  | some .local => true
  | some .cell => true
  | some .free => true
  | _ => false
def locB (c : Sc) (x : Str) : Bool := match c.sc.lookup x with
  | some .local => true
  | some .cell => true
  | _ => false
def glbB (c : Sc) (x : Str) : Bool := match c.sc.lookup x with
  | some .globalImplicit => true
  | _ => false
def nodbg (x : Str) : Bool := !(x == ("__debug__" : Str)) && !(x == ("__classdict__" : Str))
def invOp : Operator → Option BOp
  | .Add => some .add
  | .Sub => some .sub
  | .Mult => some .mul
  | .FloorDiv => some .fdiv
  | .Mod => some .mod
  | .Pow => some .pow
  | _ => none
def invCmp : CmpOp → Option COp
  | .Eq => some .eq
  | .NotEq => some .ne
  | .Lt => some .lt
  | .LtE => some .le
  | .Gt => some .gt
  | .GtE => some .ge
  | .Is => some .is
  | .IsNot => some .isn
  | .In => some .isin
  | .NotIn => some .notin
theorem invOp_eq {op : Operator} {o : BOp} (h : invOp op = some o) : op = o.op := by
  cases op <;> first | (cases h; done) | (cases h; rfl)
theorem invCmp_eq {op : CmpOp} {o : COp} (h : invCmp op = some o) : op = o.op := by
  cases op <;> (cases h; rfl)
/-- a form that is served -/
def okH : Expr → Bool
  | .Starred _ _ => false
  | .Set _ _ _ => false
  | .Slice _ _ _ _ => false
  | .NamedExpr _ _ _ => false
  | _ => true
theorem star_cons {e : Expr} {es : List Expr} {env : Env} (h : okH e = true) : starEach (e :: es) env = (false, eval e env) :: starEach es env := by
  cases e <;> first | rfl | cases h
theorem star_plain : ∀ {es : List Expr} {env : Env} {pos : Pos}, es.all okH = true → (backTo pos (starEach es env)).any (·.1) = false
  | [], _, _, _ => rfl
  | e :: es, env, pos, h => by
    rw [List.all_cons, Bool.and_eq_true] at h
    rw [star_cons h.1]
    show (false || (backTo pos (starEach es env)).any (·.1)) = false
    rw [star_plain h.2]
    rfl
theorem fold_plain {e : Expr} {env : Env} (h : okH e = true) : ∀ x, foldedSetIterable e env x = pure x := by
  intro x
  cases e <;> first | rfl | cases h
theorem marks_plain {e : Expr} {op : CmpOp} (h : okH e = true) : behindInMarks op e = false := by
  cases e <;> first | rfl | cases h
theorem ix_plain {e : Expr} (h : okH e = true) : PlainIx e := by
  intro o i
  cases e <;> first | rfl | cases h
/-- the receiver of a method's call -/
def okR : Expr → Bool
  | .Name _ _ => true
  | .Subscript _ _ _ => true
  | .Attribute _ _ _ => true
  | .Constant _ _ _ => true
  | .Dict _ _ _ => true
  | _ => false
theorem base_plain {o : Expr} {nm : Str} {env : Env} (h : okR o = true) : attributeBase o nm env (eval o env) = eval o env := by
  cases o <;> first | rfl | cases h
def Blt.nm : Blt → Str
  | .len => "len"
  | .tuple => "tuple"
  | .list => "list"
  | .dict => "dict"
  | .sorted => "sorted"
  | .all => "all"
  | .any => "any"
  | .repr => "repr"
  | .str => "str"
  | .int_ => "int"
  | .min_ => "min"
def mmN (mx : Bool) : Str := if mx then "max" else "min"
def tyNames : List String := ["bool", "int", "str", "tuple", "list", "dict"]
def relN (ns sc : List (Str × NameKind)) : List (Str × NameKind) := ns.map fun (n, k) => if (k == .free && true && sc.lookup n == some .cell) then (n, .cell) else (n, k)
def ownN (N : List Str) (own : List Nat) : List (Str × Nat) := own.map fun i => (N.getD i "", i)
def scD (ns : List (Str × NameKind)) : Scope := { kind := .function, names := ns, isGenerator := false, isCoroutine := false, more := [] }
def inner (c : Sc) (ns : List (Str × NameKind)) (own : List Nat) : Sc := ⟨c.N, relN ns c.sc, (ownN c.N own).map (·.1)⟩
/-! ### forms, taken apart -/
def call1 : Expr → Option (Str × Expr)
  | .Call (.Name x _) [e] [] _ => some (x, e)
  | _ => none
theorem call1_eq {e : Expr} {q : Str × Expr} (h : call1 e = some q) : ∃ p pos, e = .Call (.Name q.1 p) [q.2] [] pos := by
  unfold call1 at h
  split at h
  · cases h
    exact ⟨_, _, rfl⟩
  · cases h
def call2 : Expr → Option (Str × Expr × Expr)
  | .Call (.Name x _) [e, f] [] _ => some (x, e, f)
  | _ => none
theorem call2_eq {e : Expr} {q : Str × Expr × Expr} (h : call2 e = some q) : ∃ p pos, e = .Call (.Name q.1 p) [q.2.1, q.2.2] [] pos := by
  unfold call2 at h
  split at h
  · cases h
    exact ⟨_, _, rfl⟩
  · cases h
def nameOf : Expr → Option Str
  | .Name x _ => some x
  | _ => none
theorem nameOf_eq {e : Expr} {x : Str} (h : nameOf e = some x) : ∃ p, e = .Name x p := by
  unfold nameOf at h
  split at h
  · cases h
    exact ⟨_, rfl⟩
  · cases h
/-- o.m(..) on one line -/
def methN : Expr → Option (Expr × Str × List Expr)
  | .Call (.Attribute x nm apos) es [] pos => if (apos.endLine == pos.line) = true then some (x, nm, es) else none
  | _ => none
theorem methN_eq {e : Expr} {q : Expr × Str × List Expr} (h : methN e = some q) : ∃ apos pos, e = .Call (.Attribute q.1 q.2.1 apos) q.2.2 [] pos ∧ (apos.endLine == pos.line) = true := by
  unfold methN at h
  split at h
  · split at h
    · cases h
      exact ⟨_, _, rfl, by assumption⟩
    · cases h
  · cases h
def one? : List Expr → Option Expr
  | [e] => some e
  | _ => none
def two? : List Expr → Option (Expr × Expr)
  | [e, f] => some (e, f)
  | _ => none
theorem one_eq {es : List Expr} {e : Expr} (h : one? es = some e) : es = [e] := by
  unfold one? at h
  split at h
  · cases h
    rfl
  · cases h
theorem two_eq {es : List Expr} {e : Expr × Expr} (h : two? es = some e) : es = [e.1, e.2] := by
  unfold two? at h
  split at h
  · cases h
    rfl
  · cases h
structure CompP where
  elt : Expr
  tg : Expr
  it : Expr
  ifs : List Expr
  scope : Scope
  line : Nat
def comp1 : Expr → Option CompP
  | .ListComp e [⟨tgx, itx, ifs, 0⟩] scope pos => some ⟨e, tgx, itx, ifs, scope, pos.line⟩
  | _ => none
theorem comp1_eq {e : Expr} {q : CompP} (h : comp1 e = some q) : ∃ pos : Pos, e = .ListComp q.elt [⟨q.tg, q.it, q.ifs, 0⟩] q.scope pos ∧ q.line = pos.line := by
  unfold comp1 at h
  split at h
  · cases h
    exact ⟨_, rfl, rfl⟩
  · cases h
/-- both are tuples of targets -/
def tupTg : Tg → Expr → Bool
  | .t _, .Tuple _ _ _ => true
  | _, _ => false
theorem tupTg_eq {tg : Tg} {e : Expr} (h : tupTg tg e = true) : ∃ ts es k p, tg = .t ts ∧ e = .Tuple es k p := by
  unfold tupTg at h
  split at h
  · exact ⟨_, _, _, _, rfl, rfl⟩
  · cases h
mutual
def chkT : Tg → Sc → Expr → Bool
  | .n i, c, .Name x _ => decide (c.N[i]? = some x) && locB c x && decide (x ∈ c.st)
  | .t ts, c, .Tuple es _ _ => es.all plainTg && decide (es.length = ts.length) && chkTs ts c es
  | _, _, _ => false
def chkTs : List Tg → Sc → List Expr → Bool
  | [], _, [] => true
  | t :: ts, c, e :: es => plainTg e && chkT t c e && chkTs ts c es
  | _, _, _ => false
end
/-- written keys: texts -/
def chkK : List Str → List (Option Expr) → Bool
  | [], [] => true
  | k :: ks, some (.Constant (.str y) _ _) :: es => decide (k = y) && chkK ks es
  | _, _ => false
theorem chkK_ok : ∀ {ks : List Str} {es : List (Option Expr)}, chkK ks es = true → es.all (·.isSome) = true ∧ es.length = ks.length
  | [], [], _ => ⟨rfl, rfl⟩
  | [], _ :: _, h => by simp [chkK] at h
  | _ :: _, [], h => by simp [chkK] at h
  | k :: ks, e :: es, h => by
    unfold chkK at h
    split at h
    · rename_i h1 h2
      cases h1
    · rename_i h1 h2
      cases h1
      cases h2
      obtain ⟨_, h4⟩ := Bool.and_eq_true_iff.mp h
      obtain ⟨h5, h6⟩ := chkK_ok h4
      exact ⟨by rw [List.all_cons, h5]; rfl, by rw [List.length_cons, List.length_cons, h6]⟩
    · cases h
theorem chkK_cons {k : Str} {ks : List Str} {e : Option Expr} {es : List (Option Expr)} (h : chkK (k :: ks) (e :: es) = true) : ∃ j p, e = some (.Constant (.str k) j p) ∧ chkK ks es = true := by
  unfold chkK at h
  split at h
  · rename_i h1 h2
    cases h1
  · rename_i h1 h2
    cases h1
    cases h2
    obtain ⟨h3, h4⟩ := Bool.and_eq_true_iff.mp h
    have h3 := of_decide_eq_true h3
    subst h3
    exact ⟨_, _, rfl, h4⟩
  · cases h
mutual
def chkE : E → Sc → Expr → Bool
  | .var i, c, .Name x _ => decide (c.N[i]? = some x) && visB c x && nodbg x
  | .non, _, .Constant .none _ _ => true
  | .bl b, _, .Constant (.bool b') _ _ => decide (b = b')
  | .int i, _, .Constant (.int j) _ _ => decide (i = j)
  | .str x, _, .Constant (.str y) _ _ => decide (x = y)
  | .glb x, c, .Name y _ => decide (x = y) && glbB c x && nodbg x
  | .tup as, c, .Tuple es _ _ => chkL as c es
  | .lst as, c, .List es _ => chkL as c es
  | .dnew, _, .Dict [] [] _ => true
  | .bop o a b, c, .BinOp x op y _ => decide (invOp op = some o) && chkE a c x && chkE b c y
  | .neg a, c, .UnaryOp .USub x _ => chkE a c x
  | .cmp o a b, c, .Compare x [op] [y] _ => decide (invCmp op = some o) && okH y && chkE a c x && chkE b c y
  | .chn o o' a b d, c, .Compare x [op, op'] [y, z] _ => decide (invCmp op = some o) && decide (invCmp op' = some o') && okH z && chkE a c x && chkE b c y && chkE d c z
  | .and as, c, .BoolOp .And es _ => !as.isEmpty && chkL as c es
  | .or as, c, .BoolOp .Or es _ => !as.isEmpty && chkL as c es
  | .not a, c, .UnaryOp .Not x _ => chkE a c x
  | .ite d a b, c, .IfExp z x y _ => chkE d c z && chkE a c x && chkE b c y
  | .ix a b, c, .Subscript x y _ => okH y && chkE a c x && chkE b c y
  | .slc a lo hi, c, .Subscript x (.Slice l h none _) _ => chkE a c x && chkP lo c l && chkP hi c h
  | .call f as, c, .Call (.Name x _) es [] _ => decide (f = x) && glbB c x && nodbg x && es.all okH && chkL as c es
  | .blt b a, c, x => match call1 x with
    | some q => decide (q.1 = b.nm) && glbB c q.1 && okH q.2 && chkE a c q.2
    | none => false
  | .isi a t, c, x => match call2 x with
    | some q => decide (q.1 = "isinstance") && glbB c q.1 && decide (nameOf q.2.2 = some (Str.ofString t)) && glbB c (Str.ofString t) && decide (t ∈ tyNames) && okH q.2.1 && chkE a c q.2.1
    | none => false
  | .get1 o a, c, x => match methN x with
    | some q => decide (q.2.1 = "get") && okR q.1 && chkE o c q.1 && match one? q.2.2 with
      | some e => okH e && chkE a c e
      | none => false
    | none => false
  | .get2 o a b, c, x => match methN x with
    | some q => decide (q.2.1 = "get") && okR q.1 && chkE o c q.1 && match two? q.2.2 with
      | some e => okH e.1 && okH e.2 && chkE a c e.1 && chkE b c e.2
      | none => false
    | none => false
  | .mm mx a b, c, x => match call2 x with
    | some q => decide (q.1 = mmN mx) && glbB c q.1 && okH q.2.1 && okH q.2.2 && chkE a c q.2.1 && chkE b c q.2.2
    | none => false
  | .join o a, c, x => match methN x with
    | some q => decide (q.2.1 = "join") && okR q.1 && chkE o c q.1 && match one? q.2.2 with
      | some e => okH e && chkE a c e
      | none => false
    | none => false
  | .dsp ks as, c, .Dict keys es _ => chkK ks keys && chkL as c es && decide (ks.length = as.length) && !ks.isEmpty && decide (ks.length ≤ 15)
  | .ss a, c, x => match call1 x with
    | some q => decide (q.1 = "sorted") && glbB c q.1 && match call1 q.2 with
      | some r => decide (r.1 = "set") && glbB c r.1 && okH r.2 && chkE a c r.2
      | none => false
    | none => false
  | .comp elt tg it cs own, c, x => match comp1 x with
    | some q => blkC c.N (scD c.sc) q.scope (ownN c.N own) && (slT tg).all (fun i => own.contains i) &&
      (ownN c.N own).all (fun p => match q.scope.names.lookup p.1 with
        | some .local => true
        | some .cell => true
        | _ => false) && okH q.it && chkI it c tg q.tg q.it && chkT tg (inner c q.scope.names own) q.tg && chkC cs (inner c q.scope.names own) q.ifs && chkE elt (inner c q.scope.names own) q.elt
    | none => false
  | _, _, _ => false
def chkL : List E → Sc → List Expr → Bool
  | [], _, [] => true
  | a :: as, c, e :: es => okH e && chkE a c e && chkL as c es
  | _, _, _ => false
/-- a comprehension's tests: one at most -/
def chkC : List E → Sc → List Expr → Bool
  | [], _, [] => true
  | [a], c, [e] => chkE a c e
  | _, _, _ => false
def chkP : Option E → Sc → Option Expr → Bool
  | none, _, none => true
  | some a, c, some e => chkE a c e
  | _, _, _ => false
def chkI : It → Sc → Tg → Expr → Expr → Bool
  | .e a, c, _, _, x => chkE a c x
  | .rng1 a, c, _, _, x => match call1 x with
    | some q => decide (q.1 = "range") && glbB c q.1 && okH q.2 && chkE a c q.2
    | none => false
  | .rng2 a b, c, _, _, x => match call2 x with
    | some q => decide (q.1 = "range") && glbB c q.1 && okH q.2.1 && okH q.2.2 && chkE a c q.2.1 && chkE b c q.2.2
    | none => false
  | .zip a b, c, tg, tgx, x => match call2 x with
    | some q => decide (q.1 = "zip") && glbB c q.1 && okH q.2.1 && okH q.2.2 && tupTg tg tgx && chkE a c q.2.1 && chkE b c q.2.2
    | none => false
  | .rev a, c, _, _, x => match call1 x with
    | some q => decide (q.1 = "reversed") && glbB c q.1 && okH q.2 && chkE a c q.2
    | none => false
  | _, _, _, _, _ => false
end
theorem chkL_len {c : Sc} : ∀ {as : List E} {es : List Expr}, chkL as c es = true → es.length = as.length
  | [], [], _ => rfl
  | [], _ :: _, h => by simp [chkL] at h
  | _ :: _, [], h => by simp [chkL] at h
  | a :: as, e :: es, h => by
    unfold chkL at h
    rw [List.length_cons, List.length_cons, chkL_len (Bool.and_eq_true_iff.mp h).2]
end Nb

/-! Nb13: what the check of expressions is worth -/
namespace Nb
open PySem PySem.Spec PyProof.Rows L2
section
variable {g : Gv} {X : Cx} {c : Sc}
theorem Ok.vis (ok : Ok g X c) {x : Str} (h : visB c x = true) : Vis X.env.scope x := by
  unfold Vis
  rw [ok.names]
  unfold visB at h
  split at h
  · exact .inl (by assumption)
  · exact .inr (.inl (by assumption))
  · exact .inr (.inr (by assumption))
  · cases h
theorem Ok.loc (ok : Ok g X c) {x : Str} (h : locB c x = true) : L2.Loc X.env.scope x := by
  unfold L2.Loc
  rw [ok.names]
  unfold locB at h
  split at h
  · exact .inl (by assumption)
  · exact .inr (by assumption)
  · cases h
theorem Ok.gl (ok : Ok g X c) {x : Str} (h : glbB c x = true) : Gl X x := by
  show X.env.scope.names.lookup x = some .globalImplicit
  rw [ok.names]
  unfold glbB at h
  split at h
  · assumption
  · cases h
theorem nodbg_1 {x : Str} (h : nodbg x = true) : (x == ("__debug__" : Str)) = false ∧ (x == ("__classdict__" : Str)) = false := by
  unfold nodbg at h
  rw [Bool.and_eq_true, Bool.not_eq_true', Bool.not_eq_true'] at h
  exact h
theorem relS_names {scope sc : Scope} (h : sc.kind = .function) : (relS scope sc).names = relN scope.names sc.names := by
  unfold relS relN
  rw [h]
  rfl
theorem lookup_relN {x : Str} {sc : List (Str × NameKind)} : ∀ {ns : List (Str × NameKind)}, ns.lookup x = some .local → (relN ns sc).lookup x = some .local
  | [], h => by cases h
  | (n, k) :: ns, h => by
    unfold relN at *
    rw [List.map_cons]
    rw [List.lookup_cons] at h
    cases hx : (x == n) with
    | true =>
      rw [hx] at h
      have h : k = .local := Option.some.inj h
      subst h
      show List.lookup x ((if (NameKind.local == NameKind.free && true && _) = true then _ else _) :: _) = _
      rw [if_neg (by simp), List.lookup_cons, hx]
    | false =>
      rw [hx] at h
      have ih := lookup_relN (sc := sc) h
      unfold relN at ih
      show List.lookup x ((if (k == NameKind.free && true && _) = true then _ else _) :: _) = _
      split <;> (rw [List.lookup_cons, hx]; exact ih)
theorem blk_sc {N : List Str} {sc sc' scope : Scope} {own : List (Str × Nat)} (h : sc.names = sc'.names) (b : BlkOk N sc scope own) : BlkOk N sc' scope own :=
  ⟨b.kind, b.uniq, b.ix, fun y hy e => by rw [← h]; exact b.free y hy e, b.own⟩
/-- a comprehension's block -/
theorem Ok.blk (ok : Ok g X c) {scope : Scope} {own : List Nat} (hb : BlkOk c.N (scD c.sc) scope (ownN c.N own)) (hs : (ownN c.N own).all (fun p => match scope.names.lookup p.1 with
      | some .local => true
      | some .cell => true
      | _ => false) = true) (s : Shared) (H : Hp) (C : Addr) (cl : List (Str × Addr)) (fp : List Addr) : Ok g (X.blk s H scope (compEnvC scope cl C X.env) fp) (inner c scope.names own) where
  calm := ok.calm
  nd := ok.nd
  hN := ok.hN
  kind := hb.kind
  names := by
    show (relS scope X.env.scope).names = _
    rw [relS_names ok.kind, ok.names]
    rfl
  st := fun x hx => by
    show (scope.names.lookup x == some .cell) = true ∨ (relS scope X.env.scope).names.lookup x = some .local
    obtain ⟨p, hp, rfl⟩ := List.mem_map.mp (show x ∈ (ownN c.N own).map (·.1) from hx)
    have h := List.all_eq_true.mp hs p hp
    split at h
    · rename_i e
      refine .inr ?_
      rw [relS_names ok.kind]
      exact lookup_relN e
    · rename_i e
      rw [e]
      exact .inl rfl
    · cases h
  units := ok.units
  gd := ok.gd
  fns := ok.fns
  cons := ok.cons
  blt := ok.blt
theorem ownN_snd (N : List Str) (own : List Nat) : (ownN N own).map (·.2) = own := by
  unfold ownN
  rw [List.map_map]
  exact List.map_id' own
mutual
theorem sndT : ∀ (t : Tg) (c : Sc) (e : Expr) (X : Cx), Ok g X c → chkT t c e = true → PG X e (rdG X.K t)
  | .n i, c, e, X, ok, h => by
    cases e with
    | Name x pos =>
      simp only [chkT, Bool.and_eq_true, decide_eq_true_eq] at h
      obtain ⟨⟨h1, h2⟩, h3⟩ := h
      exact rdg_n ok.nd (by rw [ok.hN]; exact h1) (ok.loc h2) (ok.st x h3)
    | _ => simp [chkT] at h
  | .t ts, c, e, X, ok, h => by
    cases e with
    | Tuple es k pos =>
      simp only [chkT, Bool.and_eq_true, decide_eq_true_eq] at h
      obtain ⟨⟨h1, h2⟩, h3⟩ := h
      exact rdg_t ok.calm (sndTs ts c es X ok h3) h1 h2
    | _ => simp [chkT] at h
theorem sndTs : ∀ (ts : List Tg) (c : Sc) (es : List Expr) (X : Cx), Ok g X c → chkTs ts c es = true → PGs X es (rdGs X.K ts)
  | [], c, es, X, ok, h => by
    cases es with
    | nil => exact rdgs_nil
    | cons _ _ => simp [chkTs] at h
  | t :: ts, c, es, X, ok, h => by
    cases es with
    | nil => simp [chkTs] at h
    | cons e es =>
      simp only [chkTs, Bool.and_eq_true] at h
      obtain ⟨⟨h1, h2⟩, h3⟩ := h
      exact rdgs_cons (sndT t c e X ok h2) (sndTs ts c es X ok h3) h1
end
theorem boot_ty {t : String} (h : t ∈ tyNames) : bootBuiltins (Str.ofString t) = some (.type t) ∧ (Str.ofString t) ≠ "__name__" ∧ ((Str.ofString t) == ("__debug__" : Str)) = false ∧ Str.ofString t ∈ bltNames := by
  simp only [tyNames, List.mem_cons, List.not_mem_nil, or_false] at h
  rcases h with rfl | rfl | rfl | rfl | rfl | rfl <;> exact ⟨by decide +kernel, by decide +kernel, by decide +kernel, by decide +kernel⟩
theorem ty_rep {K : PySem.W.Frag} {mu : List Addr} {m : Mm} {H H0 : Hp} {o : Out} {v : V} {u : String} (S : SR K mu m H) (h : OR K H0 mu H o v) (e : tyO m o = some u) : TyX K H v (.type u) ∧ u ∈ ["NoneType", "bool", "int", "str", "tuple", "list", "dict"] := by
  cases o with
  | tmp ds =>
    cases e
    obtain ⟨p, vs, rfl, hp, _⟩ := h
    exact ⟨.base (.lst hp), by decide⟩
  | val d =>
    cases h with
    | non =>
      cases e
      exact ⟨.base .non, by decide⟩
    | bl b =>
      cases e
      exact ⟨.base (.bl b), by decide⟩
    | int i =>
      cases e
      exact ⟨.base (.int i), by decide⟩
    | str z =>
      cases e
      exact ⟨.base (.str z), by decide⟩
    | tup h1 h2 =>
      cases e
      refine ⟨?_, by decide⟩
      rcases h1 with ⟨its, n, h1⟩ | ⟨its, n, h1, _⟩
      · exact .fTuple h1
      · exact .kTuple h1 rfl
    | frz h1 h2 =>
      cases e
      refine ⟨?_, by decide⟩
      rcases h1 with ⟨o, h1⟩ | (h1 | ⟨o, its, n, h1, h2, _⟩)
      · exact .base (.frz h1)
      · rcases h1 with h1 | ⟨o, h1⟩ <;> cases h1
      · exact .kList h1 h2
    | ref hn =>
      rename_i n a
      have e : tyD m (.ref n) = some u := e
      unfold tyD at e
      simp only at e
      split at e
      · rename_i em
        cases e
        obtain ⟨vs, h1, _⟩ := S.at_ _ _ _ em hn
        exact ⟨.base (.lst h1), by decide⟩
      · rename_i em
        cases e
        obtain ⟨vs, h1, _⟩ := S.at_ _ _ _ em hn
        exact ⟨.base (.dK h1), by decide⟩
      · cases e
theorem rd_isi {a : Expr} {fa : Fr → Mm → Option (Out × Mm)} {t : String} {p p2 pos : Pos} (ok : Ok g X c) (h1 : glbB c "isinstance" = true) (h2 : glbB c (Str.ofString t) = true) (ht : t ∈ tyNames) (hh : okH a = true) (ha : PE X a (rd X.K fa)) :
    PE X (.Call (.Name "isinstance" p) [a, .Name (Str.ofString t) p2] [] pos) (rd X.K fun fr m => (fa fr m).bind fun r => (tyO r.2 r.1).map fun u => (.val (.bl (isiT u t)), r.2)) := by
  obtain ⟨b1, b2, b3, b4⟩ := boot_ty ht
  have e1 : starEach [a, .Name (Str.ofString t) p2] X.env = (false, eval a X.env) :: starEach [.Name (Str.ofString t) p2] X.env := star_cons hh
  refine pe_weak (pe_callB call_isi (ok.gl h1) (ok.blt _ (by decide)) (by decide +kernel) (pa_cons ha (pa_cons (pe_bltn (v := .ty t) (ok.gl h2) (ok.blt _ b4) b1 rfl b2 b3) pa_nil) e1) (by decide) (by decide) e1 (by rfl)) fun σ H Q q => ?_
  obtain ⟨mu, fr, m, out, m', F, S, e, q⟩ := q
  obtain ⟨r, e2, e3⟩ := Option.bind_eq_some_iff.mp e
  obtain ⟨u, e4, e5⟩ := Option.map_eq_some_iff.mp e3
  cases e5
  refine rd_go F S (show fa fr m = some (r.1, r.2) from e2) fun x H1 mu1 N1 S1 O1 => ?_
  obtain ⟨ty, hu⟩ := ty_rep S1 O1 e4
  exact ⟨x, .ty t, .type u, .type t, isiT u t, rfl, .ty t, ty, kit_ty X.K hu ht, q _ H1 mu1 N1 S1 (.bl _)⟩
theorem rd_blt {a : Expr} {fa : Fr → Mm → Option (Out × Mm)} {b : Blt} {p pos : Pos} (ok : Ok g X c) (h1 : glbB c b.nm = true) (hh : okH a = true) (ha : PE X a (rd X.K fa)) :
    PE X (.Call (.Name b.nm p) [a] [] pos) (rd X.K fun fr m => (fa fr m).bind fun r => bltO b r.2 r.1) := by
  have e1 : starEach [a] X.env = [(false, eval a X.env)] := star_cons hh
  have hu := ok.units
  refine rd_cl ha e1 fun {u} hp => ?_
  cases b with
  | len => exact pe_callB cl_len (ok.gl h1) (ok.blt _ (by decide)) (by decide +kernel) hp (by decide) (by decide) e1 rfl
  | tuple => exact pe_callTy cl_tuple (ok.gl h1) (ok.blt _ (by decide)) (by decide +kernel) hp (by decide) (by decide) e1 rfl
  | list => exact pe_callTy (cl_list ok.calm) (ok.gl h1) (ok.blt _ (by decide)) (by decide +kernel) hp (by decide) (by decide) e1 rfl
  | dict => exact pe_callTy (cl_dict ok.calm) (ok.gl h1) (ok.blt _ (by decide)) (by decide +kernel) hp (by decide) (by decide) e1 rfl
  | sorted => exact pe_callB (cl_sorted ok.calm) (ok.gl h1) (ok.blt _ (by decide)) (by decide +kernel) hp (by decide) (by decide) e1 rfl
  | all => exact pe_callB (cl_all ok.calm) (ok.gl h1) (ok.blt _ (by decide)) (by decide +kernel) hp (by decide) (by decide) e1 rfl
  | any => exact pe_callB (cl_any ok.calm) (ok.gl h1) (ok.blt _ (by decide)) (by decide +kernel) hp (by decide) (by decide) e1 rfl
  | repr => exact pe_callB (cl_repr ok.gd (by omega)) (ok.gl h1) (ok.blt _ (by decide)) (by decide +kernel) hp (by decide) (by decide) e1 rfl
  | str => exact pe_callTy cl_str (ok.gl h1) (ok.blt _ (by decide)) (by decide +kernel) hp (by decide) (by decide) e1 rfl
  | min_ => exact pe_callB (cl_min ok.calm (by omega)) (ok.gl h1) (ok.blt _ (by decide)) (by decide +kernel) hp (by decide) (by decide) e1 rfl
  | int_ => exact pe_callTy cl_int (ok.gl h1) (ok.blt _ (by decide)) (by decide +kernel) hp (by decide) (by decide) e1 rfl
theorem rd_mm {a b : Expr} {fa fb : Fr → Mm → Option (Out × Mm)} {mx : Bool} {p pos : Pos} (ok : Ok g X c) (h1 : glbB c (mmN mx) = true) (hh : okH a = true) (hh2 : okH b = true) (ha : PE X a (rd X.K fa)) (hb : PE X b (rd X.K fb)) :
    PE X (.Call (.Name (mmN mx) p) [a, b] [] pos) (rd X.K fun fr m => (fa fr m).bind fun r => (fb fr r.2).bind fun q => (mmO mx r.1 q.1).map fun z => (z, q.2)) := by
  have e1 : starEach [a, b] X.env = (false, eval a X.env) :: starEach [b] X.env := star_cons hh
  have e2 : starEach [b] X.env = [(false, eval b X.env)] := star_cons hh2
  have hp := pa_cons ha (pa_cons hb pa_nil e2) e1
  cases mx with
  | true =>
    refine pe_weak (pe_callB (call_max2 ok.calm) (ok.gl h1) (ok.blt _ (by decide)) (by decide +kernel) hp (by decide) (by decide) e1 (by rw [e2]; rfl)) fun σ H Q q => ?_
    obtain ⟨mu, fr, m, out, m', F, S, e, q⟩ := q
    obtain ⟨r, e3, e⟩ := Option.bind_eq_some_iff.mp e
    obtain ⟨t, e4, e⟩ := Option.bind_eq_some_iff.mp e
    obtain ⟨z, e5, e6⟩ := Option.map_eq_some_iff.mp e
    cases e6
    obtain ⟨w, e7, e8⟩ := Option.map_eq_some_iff.mp e5
    cases e8
    obtain ⟨q1, q2⟩ := intsO_eq e7
    refine rd_go F S (show fa fr m = some (r.1, r.2) from e3) fun x H1 mu1 N1 S1 O1 => ?_
    refine rd_go (F.nxt N1 S.notup) S1 (show fb fr r.2 = some (t.1, t.2) from e4) fun y H2 mu2 N2 S2 O2 => ?_
    rw [q1] at O1
    rw [q2] at O2
    exact ⟨_, _, by rw [int_or O1, int_or O2], q _ H2 mu2 (N1.trans N2) S2 (.int _)⟩
  | false =>
    refine pe_weak (pe_callB (call_min2 ok.calm) (ok.gl h1) (ok.blt _ (by decide)) (by decide +kernel) hp (by decide) (by decide) e1 (by rw [e2]; rfl)) fun σ H Q q => ?_
    obtain ⟨mu, fr, m, out, m', F, S, e, q⟩ := q
    obtain ⟨r, e3, e⟩ := Option.bind_eq_some_iff.mp e
    obtain ⟨t, e4, e⟩ := Option.bind_eq_some_iff.mp e
    obtain ⟨z, e5, e6⟩ := Option.map_eq_some_iff.mp e
    cases e6
    obtain ⟨w, e7, e8⟩ := Option.map_eq_some_iff.mp e5
    cases e8
    obtain ⟨q1, q2⟩ := intsO_eq e7
    refine rd_go F S (show fa fr m = some (r.1, r.2) from e3) fun x H1 mu1 N1 S1 O1 => ?_
    refine rd_go (F.nxt N1 S.notup) S1 (show fb fr r.2 = some (t.1, t.2) from e4) fun y H2 mu2 N2 S2 O2 => ?_
    rw [q1] at O1
    rw [q2] at O2
    exact ⟨_, _, by rw [int_or O1, int_or O2], q _ H2 mu2 (N1.trans N2) S2 (.int _)⟩
theorem rd_join {o a : Expr} {fo fa : Fr → Mm → Option (Out × Mm)} {apos pos : Pos} (hr : okR o = true) (hh : okH a = true) (hl : (apos.endLine == pos.line) = true) (ho : PE X o (rd X.K fo)) (ha : PE X a (rd X.K fa)) :
    PE X (.Call (.Attribute o "join" apos) [a] [] pos) (rd X.K fun fr m => (fo fr m).bind fun r => (strO r.1).bind fun z => (fa fr r.2).bind fun q => (joinO q.2 z q.1).map fun t => (.val (.str t), q.2)) := by
  refine pe_weak (pe_join ho ha (star_cons hh) (base_plain hr) hl) fun σ H Q q => ?_
  obtain ⟨mu, fr, m, out, m', F, S, e, q⟩ := q
  obtain ⟨r, e1, e⟩ := Option.bind_eq_some_iff.mp e
  obtain ⟨z, e2, e⟩ := Option.bind_eq_some_iff.mp e
  obtain ⟨t, e3, e⟩ := Option.bind_eq_some_iff.mp e
  obtain ⟨w, e4, e5⟩ := Option.map_eq_some_iff.mp e
  cases e5
  obtain ⟨ds, e6, e⟩ := Option.bind_eq_some_iff.mp e4
  obtain ⟨ys, e7, e⟩ := Option.bind_eq_some_iff.mp e
  obtain ⟨hz, e⟩ := ite_some e
  subst e
  refine rd_go F S (show fo fr m = some (r.1, r.2) from e1) fun x H1 mu1 N1 S1 O1 => ?_
  rw [strO_eq e2] at O1
  rw [str_or O1]
  refine ⟨⟨_, rfl⟩, ?_⟩
  refine rd_go (F.nxt N1 S.notup) S1 (show fa fr r.2 = some (t.1, t.2) from e3) fun y H2 mu2 N2 S2 O2 => ?_
  obtain ⟨p, vs, rfl, hp, hs⟩ := seqO_ok S2 O2 e6
  obtain rfl := allStr_rep hs e7
  refine ⟨z, p, ys, rfl, rfl, hp, hz, ?_⟩
  rw [TL.join_eq]
  exact q _ H2 mu2 (N1.trans N2) S2 (.str _)
/-! ### written dicts -/
def trsD (g : Gv) (K : PySem.W.Frag) : List Str → List E → List (TE × TE)
  | k :: ks, a :: as => (rd K (fun _ m => some (.val (.str k), m)), rd K (evE g a)) :: trsD g K ks as
  | _, _ => []
theorem tp_run {g : Gv} {K : PySem.W.Frag} {fr : Fr} {σ : L2.St} : ∀ {as : List E} {ks : List Str} {m m' : Mm} {ds : List D} {mu : List Addr} {H : Hp} {Q : List (V × V) → Hp → Prop}, ks.length = as.length → FrR K mu H σ fr → SR K mu m H → evA g as fr m = some (ds, m') →
    (∀ vs H' mu', Nxt mu H mu' H' → SR K mu' m' H' → RepL K mu' H' ds vs → Q (List.zipWith (fun k v => (V.str k, v)) ks vs) H') → tPairs (trsD g K ks as) σ H Q
  | [], [], m, m', ds, mu, H, Q, _, F, S, e, q => by
    cases e
    exact q [] H mu (Nxt.refl S) S .nil
  | [], _ :: _, _, _, _, _, _, _, h, _, _, _, _ => by cases h
  | _ :: _, [], _, _, _, _, _, _, h, _, _, _, _ => by cases h
  | a :: as, k :: ks, m, m', ds, mu, H, Q, h, F, S, e, q => by
    obtain ⟨r, e1, e2⟩ := Option.bind_eq_some_iff.mp (show (evE g a fr m).bind _ = some (ds, m') from e)
    obtain ⟨t, e3, e4⟩ := Option.map_eq_some_iff.mp e2
    cases e4
    show rd K (fun _ m => some (.val (.str k), m)) σ H _
    refine ⟨mu, fr, m, .val (.str k), m, F, S, rfl, fun x H1 mu1 N1 S1 O1 => ?_⟩
    obtain rfl := str_or O1
    refine rd_go (F.nxt N1 S.notup) S1 (show evE g a fr m = some (r.1, r.2) from e1) fun y H2 mu2 N2 S2 O2 => ?_
    obtain ⟨mu3, hp, N3, S3, R3⟩ := stow_ok S2 N2 O2
    refine tp_run (by simpa using h) (F.nxt (N1.trans N3) S.notup) S3 e3 fun vs H' mu' N4 S4 R4 => ?_
    exact q (y :: vs) H' mu' ((N1.trans N3).trans N4) S4 (.cons (R3.nxt N4 S3.notup) R4)
theorem zip_kv : ∀ (ks : List Str) (vs : List V), List.zipWith (fun k v => (V.str k, v)) ks vs = (List.zipWith (fun k v => ((Sum.inr k : Key), v)) ks vs).map fun kv => (kV kv.1, kv.2)
  | [], _ => rfl
  | _ :: _, [] => rfl
  | k :: ks, v :: vs => by
    rw [List.zipWith_cons_cons, List.zipWith_cons_cons, List.map_cons, zip_kv ks vs]
    rfl
theorem zip_rep {K : PySem.W.Frag} {mu : List Addr} {H : Hp} : ∀ {ks : List Str} {ds : List D} {vs : List V}, RepL K mu H ds vs → RepKV K mu H (List.zipWith (fun k d => ((Sum.inr k : Key), d)) ks ds) (List.zipWith (fun k v => ((Sum.inr k : Key), v)) ks vs)
  | [], _, _, _ => .nil
  | _ :: _, _, _, .nil => .nil
  | k :: ks, _, _, .cons h t => .cons h (zip_rep t)
theorem rd_dsp {ks : List Str} {as : List E} {keys : List (Option Expr)} {es : List Expr} {pos : Pos} (hk : PPs X pos keys es (trsD g X.K ks as)) (hlen : ks.length = as.length) (hall : keys.all (·.isSome) = true) (hl : keys.length = es.length) (h0 : keys ≠ []) (h15 : keys.length ≤ 15) :
    PE X (.Dict keys es pos) (rd X.K fun fr m => (evA g as fr (m ++ [.dct []])).bind fun r => dspO ks m.length r.1 r.2) := by
  refine pe_weak (pe_disp hk hall hl h0 h15) fun σ H Q q => ?_
  obtain ⟨mu, fr, m, z, m', F, S, e, q⟩ := q
  obtain ⟨r, e1, e2⟩ := Option.bind_eq_some_iff.mp e
  intro p np
  obtain ⟨S1, N1, e5⟩ := st_new (o := .dK []) (ob := .dct []) S np ⟨_, upd_same, .nil⟩
  refine tp_run hlen (F.nxt N1 S.notup) S1 (show evA g as fr (m ++ [.dct []]) = some (r.1, r.2) from e1) fun vs H' mu' N2 S2 R2 => ?_
  unfold dspO at e2
  split at e2
  · rename_i em
    obtain ⟨h15', e2⟩ := ite_some e2
    cases e2
    have en : mu'[m.length]? = some p := by
      obtain ⟨w, hw⟩ := N2.pre
      rw [← hw, List.getElem?_append_left (List.getElem?_eq_some_iff.mp e5).1]
      exact e5
    obtain ⟨ws, hp, hr⟩ := S2.at_ _ _ _ em en
    cases hr
    have R3 := zip_rep (ks := ks) R2
    have hm := kv_merge R3 .nil
    refine ⟨hp, _, zip_kv ks vs, ?_, ?_⟩
    · rw [List.length_zipWith]
      omega
    · have N := Nxt.write S2 en (ho := .dK (mergeK [] (List.zipWith (fun k v => ((Sum.inr k : Key), v)) ks vs))) fun _ _ h => by cases h
      exact q _ _ mu' ((N1.trans N2).trans N) (S2.write en (fun _ _ h => by cases h) ⟨_, upd_same, hm.nxt N S2.notup⟩) (.ref en)
  · cases e2
theorem rd_ss {a : Expr} {fa : Fr → Mm → Option (Out × Mm)} {p p2 q pos : Pos} (ok : Ok g X c) (h1 : glbB c "sorted" = true) (h2 : glbB c "set" = true) (hh : okH a = true) (ha : PE X a (rd X.K fa)) :
    PE X (.Call (.Name "sorted" p) [.Call (.Name "set" p2) [a] [] q] [] pos) (rd X.K fun fr m => (fa fr m).bind fun r => (ssO r.2 r.1).map fun ds => (.tmp ds, r.2)) := by
  have e1 : starEach [a] X.env = [(false, eval a X.env)] := star_cons hh
  have e2 : starEach [.Call (.Name "set" p2) [a] [] q] X.env = [(false, eval (.Call (.Name "set" p2) [a] [] q) X.env)] := star_cons rfl
  refine pe_weak (pe_callB (cr_sortedX ok.calm) (ok.gl h1) (ok.blt _ (by decide)) (by decide +kernel) (pa_cons (pe_callTy (cr_setS ok.calm) (ok.gl h2) (ok.blt _ (by decide)) (by decide +kernel) (pa_cons ha pa_nil e1) (by decide) (by decide) e1 rfl) pa_nil e2) (by decide) (by decide) e2 rfl) fun σ H Q w => ?_
  obtain ⟨mu, fr, m, out, m', F, S, e, w⟩ := w
  obtain ⟨r, e3, e4⟩ := Option.bind_eq_some_iff.mp e
  obtain ⟨ds, e5, e6⟩ := Option.map_eq_some_iff.mp e4
  cases e6
  obtain ⟨d0, e7, e8⟩ := Option.bind_eq_some_iff.mp e5
  obtain ⟨zs, e9, e10⟩ := Option.bind_eq_some_iff.mp e8
  obtain ⟨few, e10⟩ := ite_some e10
  subst e10
  refine rd_go F S (show fa fr m = some (r.1, r.2) from e3) fun x H1 mu1 N1 S1 O1 => ?_
  obtain ⟨l, vs, rfl, hp, hr⟩ := lstO_ok S1 O1 e7
  obtain rfl := allStr_rep hr e9
  refine ⟨l, zs, rfl, .inl (.inl hp), few, fun a ys na nd hm hl => ?_⟩
  refine ⟨a, ys, rfl, upd_same, by omega, fun ws z pw sw nz => ?_⟩
  have pm : ys.Perm (dedS zs) := (List.perm_ext_iff_of_nodup nd (nd_ded zs)).mpr fun y => (hm y).trans (mem_ded y zs).symm
  obtain rfl := sortS_uniq (pw.trans pm) sw
  have Sa := S1.laid (o := SxO X.prog X.w a ys) na
  have Na := Nxt.laid S1 (o := SxO X.prog X.w a ys) na
  exact w _ _ mu1 ((N1.trans Na).trans (Nxt.laid Sa nz)) (Sa.laid nz) (or_new Sa (N1.trans Na).there (repStrs _) nz)
theorem one_few {X : Cx} {e : Expr} {cpos : Pos} (h : okH e = true) : ((backTo cpos (starEach [e] X.env)).all (fun x => !x.1) && (backToKw cpos (keywordEach [] X.env)).all (fun x => x.1.isSome)
    && decide (([e] : List Expr).length + ([] : List Keyword).length + (if ([] : List Keyword).isEmpty then 0 else 1) < 30)) = true := by
  rw [star_cons h]
  rfl
theorem two_few {X : Cx} {e f : Expr} {cpos : Pos} (h : okH e = true) (h2 : okH f = true) : ((backTo cpos (starEach [e, f] X.env)).all (fun x => !x.1) && (backToKw cpos (keywordEach [] X.env)).all (fun x => x.1.isSome)
    && decide (([e, f] : List Expr).length + ([] : List Keyword).length + (if ([] : List Keyword).isEmpty then 0 else 1) < 30)) = true := by
  rw [star_cons h, star_cons h2]
  rfl
theorem rd_get1 {o a : Expr} {fo fa : Fr → Mm → Option (Out × Mm)} {apos pos : Pos} (ok : Ok g X c) (hr : okR o = true) (hh : okH a = true) (hl : (apos.endLine == pos.line) = true) (ho : PE X o (rd X.K fo)) (ha : PE X a (rd X.K fa)) :
    PE X (.Call (.Attribute o "get" apos) [a] [] pos) (rd X.K fun fr m => (fo fr m).bind fun r => (dctO r.2 r.1).bind fun _ => (fa fr r.2).bind fun q => (dctO q.2 r.1).bind fun kvs => match q.1 with
    | .val d => (keyD d).map fun k => (.val ((kvGet k kvs).getD .non), q.2)
    | _ => none) := by
  have hu := ok.units
  refine pe_weak (pe_dget1 (by omega) ho ha ⟨base_plain hr, one_few hh, hl, by rw [star_cons hh]; rfl⟩) fun σ H Q q => ?_
  obtain ⟨mu, fr, m, out, m', F, S, e, q⟩ := q
  obtain ⟨r, e1, e⟩ := Option.bind_eq_some_iff.mp e
  obtain ⟨kv0, e2, e⟩ := Option.bind_eq_some_iff.mp e
  obtain ⟨t, e3, e⟩ := Option.bind_eq_some_iff.mp e
  obtain ⟨kvs, e4, e⟩ := Option.bind_eq_some_iff.mp e
  refine rd_go F S (show fo fr m = some (r.1, r.2) from e1) fun x H1 mu1 N1 S1 O1 => ?_
  obtain ⟨n, p, vs0, en, hn, rfl, hp, hr0⟩ := dctO_ok S1 O1 e2
  refine ⟨p, rfl, .inl ⟨vs0, .inl hp⟩, ?_⟩
  refine rd_go (F.nxt N1 S.notup) S1 (show fa fr r.2 = some (t.1, t.2) from e3) fun y H2 mu2 N2 S2 O2 => ?_
  obtain ⟨n', p', vs, en', hn', ep, hp', hr'⟩ := dctO_ok S2 (O1.nxt N2 S1.notup) e4
  cases ep
  split at e
  · rename_i d ed
    obtain ⟨k, e5, e6⟩ := Option.map_eq_some_iff.mp e
    cases e6
    rw [ed] at O2
    have ey := key_or O2 e5
    subst ey
    refine ⟨_, .k hp', ?_⟩
    rcases kv_get (k := k) hr' with ⟨q1, q2⟩ | ⟨d', v, q1, q2, q3⟩
    · rw [q2]
      rw [q1] at q
      exact q _ H2 mu2 (N1.trans N2) S2 .non
    · rw [q2]
      rw [q1] at q
      exact q _ H2 mu2 (N1.trans N2) S2 q3
  · cases e
theorem rd_get2 {o a b : Expr} {fo fa fb : Fr → Mm → Option (Out × Mm)} {apos pos : Pos} (ok : Ok g X c) (hr : okR o = true) (hh : okH a = true) (hh2 : okH b = true) (hl : (apos.endLine == pos.line) = true) (ho : PE X o (rd X.K fo)) (ha : PE X a (rd X.K fa)) (hb : PE X b (rd X.K fb)) :
    PE X (.Call (.Attribute o "get" apos) [a, b] [] pos) (rd X.K fun fr m => (fo fr m).bind fun r => (dctO r.2 r.1).bind fun _ => (fa fr r.2).bind fun q => (fb fr q.2).bind fun p => (dctO p.2 r.1).bind fun kvs => match q.1, p.1 with
    | .val d, .val z => (keyD d).map fun k => (.val ((kvGet k kvs).getD z), p.2)
    | _, _ => none) := by
  have hu := ok.units
  refine pe_weak (pe_dget2 (by omega) ho ha hb ⟨base_plain hr, two_few hh hh2, hl, by rw [star_cons hh, star_cons hh2]; rfl⟩) fun σ H Q q => ?_
  obtain ⟨mu, fr, m, out, m', F, S, e, q⟩ := q
  obtain ⟨r, e1, e⟩ := Option.bind_eq_some_iff.mp e
  obtain ⟨kv0, e2, e⟩ := Option.bind_eq_some_iff.mp e
  obtain ⟨t, e3, e⟩ := Option.bind_eq_some_iff.mp e
  obtain ⟨w, e9, e⟩ := Option.bind_eq_some_iff.mp e
  obtain ⟨kvs, e4, e⟩ := Option.bind_eq_some_iff.mp e
  refine rd_go F S (show fo fr m = some (r.1, r.2) from e1) fun x H1 mu1 N1 S1 O1 => ?_
  obtain ⟨n, p, vs0, en, hn, rfl, hp, hr0⟩ := dctO_ok S1 O1 e2
  refine ⟨p, rfl, .inl ⟨vs0, .inl hp⟩, ?_⟩
  refine rd_go (F.nxt N1 S.notup) S1 (show fa fr r.2 = some (t.1, t.2) from e3) fun y H2 mu2 N2 S2 O2 => ?_
  refine rd_go (F.nxt (N1.trans N2) S.notup) S2 (show fb fr t.2 = some (w.1, w.2) from e9) fun z H3 mu3 N3 S3 O3 => ?_
  obtain ⟨n', p', vs, en', hn', ep, hp', hr'⟩ := dctO_ok S3 ((O1.nxt N2 S1.notup).nxt N3 S2.notup) e4
  cases ep
  split at e
  · rename_i d z' ed ez
    obtain ⟨k, e5, e6⟩ := Option.map_eq_some_iff.mp e
    cases e6
    rw [ed] at O2
    rw [ez] at O3
    have ey := key_or O2 e5
    subst ey
    refine ⟨_, .k hp', ?_⟩
    have N13 := (N1.trans N2).trans N3
    rcases kv_get (k := k) hr' with ⟨q1, q2⟩ | ⟨d', v, q1, q2, q3⟩
    · rw [q2]
      rw [q1] at q
      exact q _ H3 mu3 N13 S3 O3
    · rw [q2]
      rw [q1] at q
      exact q _ H3 mu3 N13 S3 q3
  · cases e
end
end Nb

/-! Nb14: the check of expressions keeps its word -/
namespace Nb
open PySem PySem.Spec PyProof.Rows L2
section
variable {g : Gv} {X : Cx} {c : Sc}
/-- a value's reading, and its test's -/
abbrev Both (X : Cx) (e : Expr) (f : Fr → Mm → Option (Out × Mm)) : Prop := PE X e (rd X.K f) ∧ PT X e (rdT X.K (tst f))
theorem both {e : Expr} {f : Fr → Mm → Option (Out × Mm)} (h : PE X e (rd X.K f)) (he : ∀ whole, isTrue e X.env whole = (do let v ← whole; standAt e.pos; holding [v] (truthy v))) : Both X e f := ⟨h, rdT_of h he⟩
structure Lst (g : Gv) (X : Cx) (as : List E) (es : List Expr) : Prop where
  args : PA X es (rdA X.K (evA g as))
  and : as ≠ [] → ∀ pos, PE X (.BoolOp .And es pos) (rd X.K (boF (evAnd g as))) ∧ PW X (.BoolOp .And es pos) (rdT X.K (evAnd g as))
  or : as ≠ [] → ∀ pos, PE X (.BoolOp .Or es pos) (rd X.K (boF (evOr g as))) ∧ PW X (.BoolOp .Or es pos) (rdT X.K (evOr g as))
theorem isEmpty_ne {α : Type} {l : List α} (h : (!l.isEmpty) = true) : l ≠ [] := by
  cases l <;> simp at *
mutual
theorem sndE (g : Gv) : ∀ (a : E) (c : Sc) (e : Expr) (X : Cx), Ok g X c → chkE a c e = true → Both X e (evE g a)
  | .var i, c, e, X, ok, h => by
    cases e with
    | Name x pos =>
      simp only [chkE, Bool.and_eq_true, decide_eq_true_eq] at h
      obtain ⟨⟨h1, h2⟩, h3⟩ := h
      obtain ⟨h4, h5⟩ := nodbg_1 h3
      exact both (rd_var (by rw [ok.hN]; exact h1) (ok.vis h2) h4 h5) fun _ => rfl
    | _ => simp [chkE] at h
  | .non, c, e, X, ok, h => by
    cases e with
    | Constant k j pos =>
      cases k with
      | none => exact both (rd_con pe_non fun _ _ => .non) fun _ => rfl
      | _ => simp [chkE] at h
    | _ => simp [chkE] at h
  | .bl b, c, e, X, ok, h => by
    cases e with
    | Constant k j pos =>
      cases k with
      | bool b' =>
        simp only [chkE, decide_eq_true_eq] at h
        subst h
        exact both (rd_con pe_bl fun _ _ => .bl _) fun _ => rfl
      | _ => simp [chkE] at h
    | _ => simp [chkE] at h
  | .int i, c, e, X, ok, h => by
    cases e with
    | Constant k j pos =>
      cases k with
      | int b' =>
        simp only [chkE, decide_eq_true_eq] at h
        subst h
        exact both (rd_con pe_int fun _ _ => .int _) fun _ => rfl
      | _ => simp [chkE] at h
    | _ => simp [chkE] at h
  | .str x, c, e, X, ok, h => by
    cases e with
    | Constant k j pos =>
      cases k with
      | str b' =>
        simp only [chkE, decide_eq_true_eq] at h
        subst h
        exact both (rd_con pe_str fun _ _ => .str _) fun _ => rfl
      | _ => simp [chkE] at h
    | _ => simp [chkE] at h
  | .glb x, c, e, X, ok, h => by
    cases e with
    | Name y pos =>
      simp only [chkE, Bool.and_eq_true, decide_eq_true_eq] at h
      obtain ⟨⟨h1, h2⟩, h3⟩ := h
      subst h1
      obtain ⟨h4, h5⟩ := nodbg_1 h3
      refine both ?_ fun _ => rfl
      refine ⟨fun pins s σ H Q I q => ?_⟩
      obtain ⟨mu, fr, m, out, m', F, S, e, q⟩ := q
      obtain ⟨d, e1, e2⟩ := Option.map_eq_some_iff.mp (show (g.gam x).map _ = _ from e)
      cases e2
      obtain ⟨u, v, hm, r, hr⟩ := ok.cons x d e1
      exact (pe_glob (ok.gl h2) hm r h4).run pins s σ H Q I (q v H mu (Nxt.refl S) S (hr mu H))
    | _ => simp [chkE] at h
  | .tup as, c, e, X, ok, h => by
    cases e with
    | Tuple es k pos => exact both (rd_tup (sndL g as c es X ok (by simpa only [chkE] using h)).args) fun _ => rfl
    | _ => simp [chkE] at h
  | .lst as, c, e, X, ok, h => by
    cases e with
    | List es pos => exact both (rd_lst (sndL g as c es X ok (by simpa only [chkE] using h)).args) fun _ => rfl
    | _ => simp [chkE] at h
  | .dnew, c, e, X, ok, h => by
    cases e with
    | Dict ks vs pos =>
      cases ks with
      | cons _ _ => simp [chkE] at h
      | nil =>
        cases vs with
        | cons _ _ => simp [chkE] at h
        | nil => exact both rd_dnew fun _ => rfl
    | _ => simp [chkE] at h
  | .bop o a b, c, e, X, ok, h => by
    cases e with
    | BinOp x op y pos =>
      simp only [chkE, Bool.and_eq_true, decide_eq_true_eq] at h
      obtain ⟨⟨h1, h2⟩, h3⟩ := h
      obtain rfl := invOp_eq h1
      exact both (rd_bop (sndE g a c x X ok h2).1 (sndE g b c y X ok h3).1) fun _ => rfl
    | _ => simp [chkE] at h
  | .neg a, c, e, X, ok, h => by
    cases e with
    | UnaryOp op x pos =>
      cases op with
      | USub => exact both (rd_neg (sndE g a c x X ok (by simpa only [chkE] using h)).1) fun _ => rfl
      | _ => simp [chkE] at h
    | _ => simp [chkE] at h
  | .cmp o a b, c, e, X, ok, h => by
    cases e with
    | Compare x ops ys pos =>
      match ops, ys, h with
      | [op], [y], h =>
        simp only [chkE, Bool.and_eq_true, decide_eq_true_eq] at h
        obtain ⟨⟨⟨h1, h2⟩, h3⟩, h4⟩ := h
        obtain rfl := invCmp_eq h1
        have hu := ok.units
        have ha := (sndE g a c x X ok h3).1
        have hb := (sndE g b c y X ok h4).1
        exact ⟨rd_cmp (by omega) (marks_plain h2) ha hb, rdT_cmp (by omega) (marks_plain h2) ha hb⟩
      | [], _, h => simp [chkE] at h
      | [_], [], h => simp [chkE] at h
      | [_], _ :: _ :: _, h => simp [chkE] at h
      | _ :: _ :: _, _, h => simp [chkE] at h
    | _ => simp [chkE] at h
  | .chn o o' a b d, c, e, X, ok, h => by
    cases e with
    | Compare x ops ys pos =>
      match ops, ys, h with
      | [op, op'], [y, z], h =>
        simp only [chkE, Bool.and_eq_true, decide_eq_true_eq] at h
        obtain ⟨⟨⟨⟨⟨h1, h2⟩, h3⟩, h4⟩, h5⟩, h6⟩ := h
        obtain rfl := invCmp_eq h1
        obtain rfl := invCmp_eq h2
        have hu := ok.units
        have ha := (sndE g a c x X ok h4).1
        have hb := (sndE g b c y X ok h5).1
        have hd := (sndE g d c z X ok h6).1
        have hm : lastMarks [o.op, o'.op] [y, z] = false := marks_plain (op := o'.op) h3
        exact ⟨rd_chn (by omega) hm ha hb hd, rdT_chn (by omega) hm ha hb hd⟩
      | [], _, h => simp [chkE] at h
      | [_], _, h => simp [chkE] at h
      | [_, _], [], h => simp [chkE] at h
      | [_, _], [_], h => simp [chkE] at h
      | [_, _], _ :: _ :: _ :: _, h => simp [chkE] at h
      | _ :: _ :: _ :: _, _, h => simp [chkE] at h
    | _ => simp [chkE] at h
  | .and as, c, e, X, ok, h => by
    cases e with
    | BoolOp op es pos =>
      cases op with
      | And =>
        simp only [chkE, Bool.and_eq_true] at h
        obtain ⟨h1, h2⟩ := (sndL g as c es X ok h.2).and (isEmpty_ne h.1) pos
        refine ⟨h1, ?_⟩
        show PT X _ (rdT X.K (tst (boF (evAnd g as))))
        rw [tst_boF]
        exact h2.pt
      | Or => simp [chkE] at h
    | _ => simp [chkE] at h
  | .or as, c, e, X, ok, h => by
    cases e with
    | BoolOp op es pos =>
      cases op with
      | Or =>
        simp only [chkE, Bool.and_eq_true] at h
        obtain ⟨h1, h2⟩ := (sndL g as c es X ok h.2).or (isEmpty_ne h.1) pos
        refine ⟨h1, ?_⟩
        show PT X _ (rdT X.K (tst (boF (evOr g as))))
        rw [tst_boF]
        exact h2.pt
      | And => simp [chkE] at h
    | _ => simp [chkE] at h
  | .not a, c, e, X, ok, h => by
    cases e with
    | UnaryOp op x pos =>
      cases op with
      | Not =>
        have ha := sndE g a c x X ok (by simpa only [chkE] using h)
        exact ⟨rd_not ha.1, rdT_not ha.2⟩
      | _ => simp [chkE] at h
    | _ => simp [chkE] at h
  | .ite d a b, c, e, X, ok, h => by
    cases e with
    | IfExp z x y pos =>
      simp only [chkE, Bool.and_eq_true] at h
      obtain ⟨⟨h1, h2⟩, h3⟩ := h
      have hd := sndE g d c z X ok h1
      have ha := sndE g a c x X ok h2
      have hb := sndE g b c y X ok h3
      exact ⟨rd_ite hd.2 ha.1 hb.1, rdT_ite hd.2 ha.2 hb.2⟩
    | _ => simp [chkE] at h
  | .ix a b, c, e, X, ok, h => by
    cases e with
    | Subscript x y pos =>
      simp only [chkE, Bool.and_eq_true] at h
      obtain ⟨⟨h1, h2⟩, h3⟩ := h
      have hu := ok.units
      exact both (rd_ix (by omega) (ix_plain h1) (sndE g a c x X ok h2).1 (sndE g b c y X ok h3).1) fun _ => rfl
    | _ => simp [chkE] at h
  | .slc a lo hi, c, e, X, ok, h => by
    cases e with
    | Subscript x y pos =>
      cases y with
      | Slice l r st p2 =>
        cases st with
        | none =>
          simp only [chkE, Bool.and_eq_true] at h
          obtain ⟨⟨h1, h2⟩, h3⟩ := h
          exact both (rd_slc (sndE g a c x X ok h1).1 (sndP g lo c l X ok h2) (sndP g hi c r X ok h3)) fun _ => rfl
        | some _ => simp [chkE] at h
      | _ => simp [chkE] at h
    | _ => simp [chkE] at h
  | .call f as, c, e, X, ok, h => by
    cases e with
    | Call fn es kws pos =>
      cases fn with
      | Name x p =>
        cases kws with
        | cons _ _ => simp [chkE] at h
        | nil =>
          simp only [chkE, Bool.and_eq_true, decide_eq_true_eq] at h
          obtain ⟨⟨⟨⟨h1, h2⟩, h3⟩, h4⟩, h5⟩ := h
          subst h1
          obtain ⟨h6, h7⟩ := nodbg_1 h3
          have hl := (sndL g as c es X ok h5).args
          refine both ?_ fun _ => rfl
          refine ⟨fun pins s σ H Q I q => ?_⟩
          obtain ⟨mu, fr, m, out, m', F, S, e, q⟩ := q
          obtain ⟨r, e1, e2⟩ := Option.bind_eq_some_iff.mp (show (evA g as fr m).bind _ = _ from e)
          obtain ⟨⟨n, Fn⟩, e3, e4⟩ := Option.bind_eq_some_iff.mp e2
          obtain ⟨k, a, fd, ps, hr, hm, hk, hb, G⟩ := ok.fns f n Fn e3
          cases es with
          | nil =>
            cases as with
            | cons _ _ => simp [chkL] at h5
            | nil =>
              refine (rd_call0 G ⟨hr, ok.gd⟩ (ok.gl h2) hm hk hb h6).run pins s σ H Q I ⟨mu, fr, m, out, m', F, S, ?_, q⟩
              cases e1
              exact e4
          | cons e' es =>
            have h4' := List.all_cons ▸ h4
            rw [Bool.and_eq_true] at h4'
            refine (rd_call G ⟨hr, ok.gd⟩ (ok.gl h2) hm hk hb h6 (star_cons h4'.1) (star_plain h4'.2) hl).run pins s σ H Q I ⟨mu, fr, m, out, m', F, S, ?_, q⟩
            show (evA g as fr m).bind _ = _
            rw [e1]
            exact e4
      | _ => simp [chkE] at h
    | _ => simp [chkE] at h
  | .blt b a, c, e, X, ok, h => by
    unfold chkE at h
    cases hq : call1 e with
    | none => simp [hq] at h
    | some q =>
      simp only [hq, Bool.and_eq_true, decide_eq_true_eq] at h
      obtain ⟨⟨⟨h1, h2⟩, h3⟩, h4⟩ := h
      obtain ⟨p, pos, rfl⟩ := call1_eq hq
      obtain ⟨x, e'⟩ := q
      have h1 : x = b.nm := h1
      subst h1
      exact both (rd_blt ok h2 h3 (sndE g a c e' X ok h4).1) fun _ => rfl
  | .isi a t, c, e, X, ok, h => by
    unfold chkE at h
    cases hq : call2 e with
    | none => simp [hq] at h
    | some q =>
      simp only [hq, Bool.and_eq_true, decide_eq_true_eq] at h
      obtain ⟨⟨⟨⟨⟨⟨h1, h2⟩, h3⟩, h4⟩, h5⟩, h6⟩, h7⟩ := h
      obtain ⟨p, pos, rfl⟩ := call2_eq hq
      obtain ⟨x, e1, e2⟩ := q
      have h1 : x = "isinstance" := h1
      subst h1
      obtain ⟨p2, h8⟩ := nameOf_eq h3
      have h8 : e2 = .Name (Str.ofString t) p2 := h8
      subst h8
      exact both (rd_isi ok h2 h4 h5 h6 (sndE g a c e1 X ok h7).1) fun _ => rfl
  | .get1 o a, c, e, X, ok, h => by
    unfold chkE at h
    cases hq : methN e with
    | none => simp [hq] at h
    | some q =>
      simp only [hq, Bool.and_eq_true, decide_eq_true_eq] at h
      obtain ⟨⟨⟨h1, h2⟩, h3⟩, h4⟩ := h
      obtain ⟨apos, pos, rfl, hl⟩ := methN_eq hq
      obtain ⟨x, nm, es⟩ := q
      have h1 : nm = "get" := h1
      subst h1
      cases ho : one? es with
      | none => simp [ho] at h4
      | some e' =>
        simp only [ho, Bool.and_eq_true] at h4
        have he : es = [e'] := one_eq ho
        subst he
        exact both (rd_get1 ok h2 h4.1 hl (sndE g o c x X ok h3).1 (sndE g a c e' X ok h4.2).1) fun _ => rfl
  | .get2 o a b, c, e, X, ok, h => by
    unfold chkE at h
    cases hq : methN e with
    | none => simp [hq] at h
    | some q =>
      simp only [hq, Bool.and_eq_true, decide_eq_true_eq] at h
      obtain ⟨⟨⟨h1, h2⟩, h3⟩, h4⟩ := h
      obtain ⟨apos, pos, rfl, hl⟩ := methN_eq hq
      obtain ⟨x, nm, es⟩ := q
      have h1 : nm = "get" := h1
      subst h1
      cases ho : two? es with
      | none => simp [ho] at h4
      | some e' =>
        simp only [ho, Bool.and_eq_true] at h4
        obtain ⟨⟨⟨h5, h6⟩, h7⟩, h8⟩ := h4
        have he : es = [e'.1, e'.2] := two_eq ho
        subst he
        exact both (rd_get2 ok h2 h5 h6 hl (sndE g o c x X ok h3).1 (sndE g a c e'.1 X ok h7).1 (sndE g b c e'.2 X ok h8).1) fun _ => rfl
  | .mm mx a b, c, e, X, ok, h => by
    unfold chkE at h
    cases hq : call2 e with
    | none => simp [hq] at h
    | some q =>
      simp only [hq, Bool.and_eq_true, decide_eq_true_eq] at h
      obtain ⟨⟨⟨⟨⟨h1, h2⟩, h3⟩, h4⟩, h5⟩, h6⟩ := h
      obtain ⟨p, pos, rfl⟩ := call2_eq hq
      obtain ⟨x, e1, e2⟩ := q
      have h1 : x = mmN mx := h1
      subst h1
      exact both (rd_mm ok h2 h3 h4 (sndE g a c e1 X ok h5).1 (sndE g b c e2 X ok h6).1) fun _ => rfl
  | .join o a, c, e, X, ok, h => by
    unfold chkE at h
    cases hq : methN e with
    | none => simp [hq] at h
    | some q =>
      simp only [hq, Bool.and_eq_true, decide_eq_true_eq] at h
      obtain ⟨⟨⟨h1, h2⟩, h3⟩, h4⟩ := h
      obtain ⟨apos, pos, rfl, hl⟩ := methN_eq hq
      obtain ⟨x, nm, es⟩ := q
      have h1 : nm = "join" := h1
      subst h1
      cases ho : one? es with
      | none => simp [ho] at h4
      | some e' =>
        simp only [ho, Bool.and_eq_true] at h4
        have he : es = [e'] := one_eq ho
        subst he
        exact both (rd_join h2 h4.1 hl (sndE g o c x X ok h3).1 (sndE g a c e' X ok h4.2).1) fun _ => rfl
  | .dsp ks as, c, e, X, ok, h => by
    cases e with
    | Dict keys es pos =>
      simp only [chkE, Bool.and_eq_true, decide_eq_true_eq] at h
      obtain ⟨⟨⟨⟨h1, h2⟩, h3⟩, h4⟩, h5⟩ := h
      obtain ⟨k1, k2⟩ := chkK_ok h1
      have hp := sndD g as ks keys c es pos X ok h3 h1 h2
      refine both (rd_dsp hp h3 k1 ?_ ?_ (by omega)) fun _ => rfl
      · rw [k2, h3]
        exact (chkL_len h2).symm
      · intro e
        rw [e] at k2
        cases ks with
        | nil => cases h4
        | cons _ _ => cases k2
    | _ => simp [chkE] at h
  | .ss a, c, e, X, ok, h => by
    unfold chkE at h
    cases hq : call1 e with
    | none => simp [hq] at h
    | some q =>
      simp only [hq, Bool.and_eq_true, decide_eq_true_eq] at h
      obtain ⟨⟨h1, h2⟩, h3⟩ := h
      obtain ⟨p, pos, rfl⟩ := call1_eq hq
      obtain ⟨x, e'⟩ := q
      cases hr : call1 e' with
      | none => simp [hr] at h3
      | some r =>
        simp only [hr, Bool.and_eq_true, decide_eq_true_eq] at h3
        obtain ⟨⟨⟨h4, h5⟩, h6⟩, h7⟩ := h3
        obtain ⟨p2, pos2, rfl⟩ := call1_eq hr
        obtain ⟨y, e''⟩ := r
        have h1 : x = "sorted" := h1
        subst h1
        have h4 : y = "set" := h4
        subst h4
        exact both (rd_ss ok h2 h5 h6 (sndE g a c e'' X ok h7).1) fun _ => rfl
  | .comp elt tg it cs own, c, e, X, ok, h => by
    unfold chkE at h
    cases hq : comp1 e with
    | none => simp [hq] at h
    | some q =>
      simp only [hq, Bool.and_eq_true] at h
      obtain ⟨⟨⟨⟨⟨⟨⟨h1, h2⟩, h3⟩, h4⟩, h5⟩, h6⟩, h7⟩, h8⟩ := h
      obtain ⟨pos, rfl, hl⟩ := comp1_eq hq
      have hb := blkOk_by h1
      have hb' : BlkOk X.N X.env.scope q.scope (ownN c.N own) := by
        rw [ok.hN]
        exact blk_sc ok.names.symm hb
      have hs : ∀ i ∈ slT tg, i ∈ (ownN c.N own).map (·.2) := fun i hi => by
        rw [ownN_snd]
        have := List.all_eq_true.mp h2 i hi
        simpa using this
      have r := rd_comp (pos := pos) ok.calm ok.nd (sndI g it c tg q.tg q.it X ok h5) hb' hs (fun s H C cl fp => sndT tg _ q.tg _ (ok.blk hb h3 s H C cl fp) h6)
        (fun s H C cl fp => sndC g cs _ q.ifs _ (ok.blk hb h3 s H C cl fp) h7) (fun s H C cl fp => (sndE g elt _ q.elt _ (ok.blk hb h3 s H C cl fp) h8).1) (fold_plain h4)
      rw [ownN_snd] at r
      exact both r fun _ => rfl
theorem sndC (g : Gv) : ∀ (cs : List E) (c : Sc) (es : List Expr) (X : Cx), Ok g X c → chkC cs c es = true → PTs X es (rdT X.K (evAnd g cs))
  | [], c, es, X, ok, h => by
    cases es with
    | nil => exact rdc_nil
    | cons _ _ => simp [chkC] at h
  | [a], c, es, X, ok, h => by
    cases es with
    | nil => simp [chkC] at h
    | cons e es =>
      cases es with
      | nil => exact rdc_one (sndE g a c e X ok (by simpa only [chkC] using h)).2
      | cons _ _ => simp [chkC] at h
  | _ :: _ :: _, c, es, X, ok, h => by simp [chkC] at h
theorem sndI (g : Gv) : ∀ (it : It) (c : Sc) (tg : Tg) (tgx e : Expr) (X : Cx), Ok g X c → chkI it c tg tgx e = true → PI X tgx e (rdI X.K tg (evI g it))
  | .e a, c, tg, tgx, e, X, ok, h => rdi_e (sndE g a c e X ok (by simpa only [chkI] using h)).1
  | .rng1 a, c, tg, tgx, e, X, ok, h => by
    unfold chkI at h
    cases hq : call1 e with
    | none => simp [hq] at h
    | some q =>
      simp only [hq, Bool.and_eq_true, decide_eq_true_eq] at h
      obtain ⟨⟨⟨h1, h2⟩, h3⟩, h4⟩ := h
      obtain ⟨p, pos, rfl⟩ := call1_eq hq
      obtain ⟨x, e'⟩ := q
      have h1 : x = "range" := h1
      subst h1
      exact rdi_rng1 (ok.gl h2) (ok.blt _ (by decide)) (star_cons h3) (sndE g a c e' X ok h4).1
  | .rng2 a b, c, tg, tgx, e, X, ok, h => by
    unfold chkI at h
    cases hq : call2 e with
    | none => simp [hq] at h
    | some q =>
      simp only [hq, Bool.and_eq_true, decide_eq_true_eq] at h
      obtain ⟨⟨⟨⟨⟨h1, h2⟩, h3⟩, h4⟩, h5⟩, h6⟩ := h
      obtain ⟨p, pos, rfl⟩ := call2_eq hq
      obtain ⟨x, e', e''⟩ := q
      have h1 : x = "range" := h1
      subst h1
      exact rdi_rng2 (ok.gl h2) (ok.blt _ (by decide)) (by rw [star_cons h3, star_cons h4]; rfl) (star_cons h4) (sndE g a c e' X ok h5).1 (sndE g b c e'' X ok h6).1
  | .enum a, c, tg, tgx, e, X, ok, h => by simp [chkI] at h
  | .zip a b, c, tg, tgx, e, X, ok, h => by
    unfold chkI at h
    cases hq : call2 e with
    | none => simp [hq] at h
    | some q =>
      simp only [hq, Bool.and_eq_true, decide_eq_true_eq] at h
      obtain ⟨⟨⟨⟨⟨⟨h1, h2⟩, h3⟩, h4⟩, h0⟩, h5⟩, h6⟩ := h
      obtain ⟨p, pos, rfl⟩ := call2_eq hq
      obtain ⟨x, e', e''⟩ := q
      have h1 : x = "zip" := h1
      subst h1
      obtain ⟨ts, es, k, tp, rfl, rfl⟩ := tupTg_eq h0
      exact rdi_zip (ok.gl h2) (ok.blt _ (by decide)) (by rw [star_cons h3, star_cons h4]; rfl) (star_cons h4) (sndE g a c e' X ok h5).1 (sndE g b c e'' X ok h6).1
  | .rev a, c, tg, tgx, e, X, ok, h => by
    unfold chkI at h
    cases hq : call1 e with
    | none => simp [hq] at h
    | some q =>
      simp only [hq, Bool.and_eq_true, decide_eq_true_eq] at h
      obtain ⟨⟨⟨h1, h2⟩, h3⟩, h4⟩ := h
      obtain ⟨p, pos, rfl⟩ := call1_eq hq
      obtain ⟨x, e'⟩ := q
      have h1 : x = "reversed" := h1
      subst h1
      exact rdi_rev (ok.gl h2) (ok.blt _ (by decide)) (star_cons h3) (sndE g a c e' X ok h4).1
theorem sndL (g : Gv) : ∀ (as : List E) (c : Sc) (es : List Expr) (X : Cx), Ok g X c → chkL as c es = true → Lst g X as es
  | [], c, es, X, ok, h => by
    cases es with
    | nil => exact ⟨rda_nil, fun h => absurd rfl h, fun h => absurd rfl h⟩
    | cons _ _ => simp [chkL] at h
  | a :: as, c, es, X, ok, h => by
    cases es with
    | nil => simp [chkL] at h
    | cons e es =>
      simp only [chkL, Bool.and_eq_true] at h
      obtain ⟨⟨h1, h2⟩, h3⟩ := h
      have ha := sndE g a c e X ok h2
      have hs := sndL g as c es X ok h3
      refine ⟨rda_cons ha.1 hs.args (star_cons h1), fun _ pos => ?_, fun _ pos => ?_⟩
      · cases as with
        | nil =>
          cases es with
          | nil => exact ⟨rd_and1 ha.1, rdW_and1 ha.2⟩
          | cons _ _ => simp [chkL] at h3
        | cons a' as =>
          cases es with
          | nil => simp [chkL] at h3
          | cons e' es =>
            obtain ⟨q1, q2⟩ := hs.and (by simp) pos
            exact ⟨rd_and2 ha.1 q1, rdW_and2 ha.2 q2⟩
      · cases as with
        | nil =>
          cases es with
          | nil => exact ⟨rd_or1 ha.1, rdW_or1 ha.2⟩
          | cons _ _ => simp [chkL] at h3
        | cons a' as =>
          cases es with
          | nil => simp [chkL] at h3
          | cons e' es =>
            obtain ⟨q1, q2⟩ := hs.or (by simp) pos
            exact ⟨rd_or2 ha.1 q1, rdW_or2 ha.2 q2⟩
theorem sndD (g : Gv) : ∀ (as : List E) (ks : List Str) (keys : List (Option Expr)) (c : Sc) (es : List Expr) (pos : Pos) (X : Cx), Ok g X c → ks.length = as.length → chkK ks keys = true → chkL as c es = true → PPs X pos keys es (trsD g X.K ks as)
  | [], ks, keys, c, es, pos, X, ok, hl, h1, h2 => by
    cases es with
    | cons _ _ => simp [chkL] at h2
    | nil =>
      cases ks with
      | nil =>
        cases keys with
        | nil => exact pps_nil
        | cons _ _ => simp [chkK] at h1
      | cons k ks => cases hl
  | a :: as, ks, keys, c, es, pos, X, ok, hl, h1, h2 => by
    cases es with
    | nil => simp [chkL] at h2
    | cons e es =>
      simp only [chkL, Bool.and_eq_true] at h2
      obtain ⟨⟨h3, h4⟩, h5⟩ := h2
      have ha := sndE g a c e X ok h4
      cases ks with
      | nil => cases hl
      | cons k ks =>
        cases keys with
        | nil => simp [chkK] at h1
        | cons y keys =>
          obtain ⟨j, p, rfl, h6⟩ := chkK_cons h1
          exact pps_cons (rd_con pe_str fun _ _ => .str _) ha.1 (sndD g as ks keys c es pos X ok (by simpa using hl) h6 h5)
theorem sndP (g : Gv) : ∀ (a : Option E) (c : Sc) (e : Option Expr) (X : Cx), Ok g X c → chkP a c e = true → PO X e (rdO X.K (evP g a))
  | none, c, e, X, ok, h => by
    cases e with
    | none => exact rdo_none
    | some _ => simp [chkP] at h
  | some a, c, e, X, ok, h => by
    cases e with
    | none => simp [chkP] at h
    | some e => exact rdo_some (sndE g a c e X ok (by simpa only [chkP] using h)).1
end
end
end Nb

/-! Nb15: statements: their plain reading, their readings over the layer -/
namespace Nb
open PySem PySem.Spec PyProof.Rows L2
/-- a list of the store, changed -/
def updL (m : Mm) (a : Out) (f : List D → Option (List D)) : Option Mm := match a with
  | .val (.ref n) => match m[n]? with
    | some (.lst ds) => (f ds).map fun es => m.set n (.lst es)
    | _ => none
  | _ => none
def putO (m : Mm) (a i : Out) (d : D) : Option Mm := match a with
  | .val (.ref n) => match m[n]? with
    | some (.dct kvs) => match i with
      | .val k => (keyD k).bind fun k => if kvs.length < sizeLine then some (m.set n (.dct (kvPut k d kvs))) else none
      | .tmp _ => none
    | some (.lst ds) => (bndO i).bind fun j => (ixN ds.length j).map fun k => m.set n (.lst (ds.set k d))
    | none => none
  | _ => none
def extO (m : Mm) : Out → Option (List D)
  | .val (.tup ds) => some ds
  | o => lstO m o
abbrev RS := Option (Fl × Fr × Mm)
mutual
def evS (g : Gv) : S → Fr → Mm → RS
  | .asg tg e, fr, m => (evE g e fr m).bind fun r => (bindT tg (stow r.1 r.2).1 fr).map fun fr' => (.nx, fr', (stow r.1 r.2).2)
  | .sub o i e, fr, m => (evE g e fr m).bind fun r => (evE g o fr (stow r.1 r.2).2).bind fun ro => (evE g i fr ro.2).bind fun ri => (putO ri.2 ro.1 ri.1 (stow r.1 r.2).1).map fun m' => (.nx, fr, m')
  | .exp e, fr, m => (evE g e fr m).map fun r => (.nx, fr, r.2)
  | .app o e, fr, m => (evE g o fr m).bind fun r => (lstO r.2 r.1).bind fun _ => (evE g e fr r.2).bind fun q => (updL (stow q.1 q.2).2 r.1 fun ds => if ds.length < sizeLine then some (ds ++ [(stow q.1 q.2).1]) else none).map fun m' => (.nx, fr, m')
  | .ext o e, fr, m => (evE g o fr m).bind fun r => (lstO r.2 r.1).bind fun _ => (evE g e fr r.2).bind fun q => (extO q.2 q.1).bind fun es => (updL q.2 r.1 fun ds => if ds.length + es.length ≤ sizeLine then some (ds ++ es) else none).map fun m' => (.nx, fr, m')
  | .mrev o, fr, m => (evE g o fr m).bind fun r => (updL r.2 r.1 fun ds => some ds.reverse).map fun m' => (.nx, fr, m')
  | .ins o i e, fr, m => (evE g o fr m).bind fun r => (lstO r.2 r.1).bind fun _ => (evE g i fr r.2).bind fun ri => (evE g e fr ri.2).bind fun q => (bndO ri.1).bind fun j =>
    (updL (stow q.1 q.2).2 r.1 fun ds => if ds.length < sizeLine ∧ 0 ≤ j ∧ j < 2 ^ 63 then some (ds.take j.toNat ++ [(stow q.1 q.2).1] ++ ds.drop j.toNat) else none).map fun m' => (.nx, fr, m')
  | .ret e, fr, m => (evE g e fr m).map fun r => (.ret r.1, fr, r.2)
  | .retn, fr, m => some (.ret (.val .non), fr, m)
  | .ife c a b, fr, m => (tst (evE g c) fr m).bind fun r => if r.1 then evSs g a fr r.2 else evSs g b fr r.2
  | .for_ tg it body, fr, m => (evI g it fr m).bind fun r => loopF (fun d fr m => (bindT tg d fr).bind fun fr1 => evSs g body fr1 m) (gdW r.1) r.1.1 fr r.2
  | .whl c body, fr, m => loopW (tst (evE g c)) (evSs g body) 1000000 fr m
  | .pass, fr, m => some (.nx, fr, m)
  | .brk, fr, m => some (.brk, fr, m)
  | .cnt, fr, m => some (.cnt, fr, m)
  | .raise, _, _ => none
  | .clr o, fr, m => (evE g o fr m).bind fun r => (updL r.2 r.1 fun _ => some []).map fun m' => (.nx, fr, m')
def evSs (g : Gv) : List S → Fr → Mm → RS
  | [], fr, m => some (.nx, fr, m)
  | s :: ss, fr, m => (evS g s fr m).bind fun q => match q.1 with
    | .nx => evSs g ss q.2.1 q.2.2
    | _ => some q
end
/-- a statement's reading -/
def endS (K : PySem.W.Frag) (D : Ends) (mu : List Addr) (H : Hp) (q : Fl × Fr × Mm) : Prop := ∀ H' mu', Nxt mu H mu' H' → SR K mu' q.2.2 H' → match q.1 with
  | .nx => ∀ σ', FrR K mu' H' σ' q.2.1 → D.nx σ' H'
  | .ret o => ∀ v, OR K H mu' H' o v → D.rt v H'
  | .brk => ∀ σ', FrR K mu' H' σ' q.2.1 → D.bk σ' H'
  | .cnt => ∀ σ', FrR K mu' H' σ' q.2.1 → D.ct σ' H'
def rdS (K : PySem.W.Frag) (f : Fr → Mm → RS) : TS := fun D σ H => ∃ mu fr m q, FrR K mu H σ fr ∧ SR K mu m H ∧ f fr m = some q ∧ endS K D mu H q
theorem endS.from {K : PySem.W.Frag} {D : Ends} {mu mu1 : List Addr} {H H1 : Hp} {q : Fl × Fr × Mm} (h : endS K D mu H q) (N : Nxt mu H mu1 H1) : endS K D mu1 H1 q := by
  intro H' mu' N' S'
  have z := h H' mu' (N.trans N') S'
  obtain ⟨f, fr, m⟩ := q
  cases f with
  | nx => exact z
  | ret o => exact fun v hv => z v (hv.base N.there)
  | brk => exact z
  | cnt => exact z
section
variable {g : Gv} {X : Cx} {c : Sc} {st : Stmt} {sts : List Stmt} {pos : Pos} {f f2 : Fr → Mm → RS}
theorem ps_weak {t t' : TS} (h : PS X st t) (w : ∀ D σ H, t' D σ H → t D σ H) : PS X st t' := ⟨fun pins s σ H D I q => h.run pins s σ H D I (w _ _ _ q)⟩
theorem pss_weak {t t' : TS} (h : PSs X sts t) (w : ∀ D σ H, t' D σ H → t D σ H) : PSs X sts t' := ⟨fun pins s σ H D I q => h.run pins s σ H D I (w _ _ _ q)⟩
theorem rds_nil : PSs X [] (rdS X.K fun fr m => some (.nx, fr, m)) := by
  refine pss_weak pss_nil fun D σ H h => ?_
  obtain ⟨mu, fr, m, q, F, S, e, h⟩ := h
  cases e
  exact h H mu (Nxt.refl S) S σ F
theorem rds_cons (h1 : PS X st (rdS X.K f)) (h2 : PSs X sts (rdS X.K f2)) : PSs X (st :: sts) (rdS X.K fun fr m => (f fr m).bind fun q => match q.1 with
    | .nx => f2 q.2.1 q.2.2
    | _ => some q) := by
  refine pss_weak (pss_cons h1 h2) fun D σ H h => ?_
  obtain ⟨mu, fr, m, q, F, S, e, h⟩ := h
  obtain ⟨p, e1, e2⟩ := Option.bind_eq_some_iff.mp e
  refine ⟨mu, fr, m, p, F, S, e1, fun H1 mu1 N1 S1 => ?_⟩
  obtain ⟨fl, fr1, m1⟩ := p
  cases fl with
  | nx => exact fun σ1 F1 => ⟨mu1, fr1, m1, q, F1, S1, e2, h.from N1⟩
  | ret o =>
    cases e2
    exact h H1 mu1 N1 S1
  | brk =>
    cases e2
    exact h H1 mu1 N1 S1
  | cnt =>
    cases e2
    exact h H1 mu1 N1 S1
variable {a b : Expr} {fa fb fc : Fr → Mm → Option (Out × Mm)} {tg : Tg} {tgx : Expr}
theorem asg_go {D : Ends} {σ : L2.St} {H : Hp} {K : PySem.W.Frag} (h : rdS K (fun fr m => (fa fr m).bind fun r => (bindT tg (stow r.1 r.2).1 fr).map fun fr' => (.nx, fr', (stow r.1 r.2).2)) D σ H) : tAsg (rd K fa) (rdG K tg) D σ H := by
  obtain ⟨mu, fr, m, q, F, S, e, h⟩ := h
  obtain ⟨r, e1, e2⟩ := Option.bind_eq_some_iff.mp e
  obtain ⟨fr', e3, e4⟩ := Option.map_eq_some_iff.mp e2
  subst e4
  refine rd_go F S (show fa fr m = some (r.1, r.2) from e1) fun v H1 mu1 N1 S1 O1 => ?_
  obtain ⟨mu2, hp, N2, S2, R2⟩ := stow_ok S1 N1 O1
  exact ⟨mu2, _, fr, _, fr', F.nxt N2 S.notup, S2, rp_of R2, e3, fun σ' F' _ => h H1 mu2 N2 S2 σ' F'⟩
abbrev asgF (tg : Tg) (fa : Fr → Mm → Option (Out × Mm)) : Fr → Mm → RS := fun fr m => (fa fr m).bind fun r => (bindT tg (stow r.1 r.2).1 fr).map fun fr' => (.nx, fr', (stow r.1 r.2).2)
/-- x = e, e no comprehension -/
theorem rds_set {i : Nat} {x : Str} {p : Pos} (ok : Ok g X c) (hi : X.N[i]? = some x) (hx : L2.Loc X.env.scope x) (hf : X.fn x = true ∨ X.env.scope.names.lookup x = some .local) (he : PE X a (rd X.K fa)) (hs : swapsWith a (some (.Name x p)) pos.line X.env = pure false) :
    PS X (.Assign [.Name x p] a pos) (rdS X.K (asgF (.n i) fa)) := by
  refine ps_weak (ps_set (i := i) ok.nd hi hx he hs hf) fun D σ H h => ?_
  obtain ⟨mu, fr, m, q, F, S, e, h⟩ := h
  obtain ⟨r, e1, e2⟩ := Option.bind_eq_some_iff.mp e
  obtain ⟨fr', e3, e4⟩ := Option.map_eq_some_iff.mp e2
  subst e4
  have e3 : some (fr.set i (some _)) = some fr' := e3
  cases e3
  refine rd_go F S (show fa fr m = some (r.1, r.2) from e1) fun v H1 mu1 N1 S1 O1 => ?_
  obtain ⟨mu2, hp, N2, S2, R2⟩ := stow_ok S1 N1 O1
  exact h H1 mu2 N2 S2 _ ((F.nxt N2 S.notup).set R2)
theorem rds_asgT {es : List Expr} {k : Nat} {tp : Pos} (hg : PG X (.Tuple es k tp) (rdG X.K tg)) (he : PE X a (rd X.K fa)) (hs : swapsWithSole [.Tuple es k tp] a pos.line X.env = pure false) (hw : swappedStores [.Tuple es k tp] a X.env = pure none) :
    PS X (.Assign [.Tuple es k tp] a pos) (rdS X.K (asgF tg fa)) := ps_weak (ps_asg he hg hs hw) fun _ _ _ h => asg_go h
theorem rds_ret (he : PE X a (rd X.K fa)) : PS X (.Return (some a) pos) (rdS X.K fun fr m => (fa fr m).map fun r => (.ret r.1, fr, r.2)) := by
  refine ps_weak (ps_ret he) fun D σ H h => ?_
  obtain ⟨mu, fr, m, q, F, S, e, h⟩ := h
  obtain ⟨r, e1, e2⟩ := Option.map_eq_some_iff.mp e
  subst e2
  exact rd_go F S (show fa fr m = some (r.1, r.2) from e1) fun v H1 mu1 N1 S1 O1 => h H1 mu1 N1 S1 v O1
theorem rds_retn : PS X (.Return none pos) (rdS X.K fun fr m => some (.ret (.val .non), fr, m)) := by
  refine ps_weak ps_retN fun D σ H h => ?_
  obtain ⟨mu, fr, m, q, F, S, e, h⟩ := h
  cases e
  exact h H mu (Nxt.refl S) S .non .non
theorem rds_exp (he : PE X a (rd X.K fa)) (hs : swapsWith a none pos.line X.env = pure false) : PS X (.Expr a pos) (rdS X.K fun fr m => (fa fr m).map fun r => (.nx, fr, r.2)) := by
  refine ps_weak (ps_expr he hs) fun D σ H h => ?_
  obtain ⟨mu, fr, m, q, F, S, e, h⟩ := h
  obtain ⟨r, e1, e2⟩ := Option.map_eq_some_iff.mp e
  subst e2
  exact rd_go F S (show fa fr m = some (r.1, r.2) from e1) fun v H1 mu1 N1 S1 O1 => h H1 mu1 N1 S1 σ (F.nxt N1 S.notup)
theorem rds_if {xs ys : List Stmt} (hc : PT X a (rdT X.K (tst fc))) (h1 : PSs X xs (rdS X.K f)) (h2 : PSs X ys (rdS X.K f2)) : PS X (.If a xs ys pos) (rdS X.K fun fr m => (tst fc fr m).bind fun r => if r.1 then f fr r.2 else f2 fr r.2) := by
  refine ps_weak (ps_if hc h1 h2) fun D σ H h => ?_
  obtain ⟨mu, fr, m, q, F, S, e, h⟩ := h
  obtain ⟨r, e1, e2⟩ := Option.bind_eq_some_iff.mp e
  refine ⟨mu, fr, m, r.1, r.2, F, S, e1, fun H1 mu1 N1 S1 => ?_⟩
  cases hr : r.1 with
  | true =>
    rw [hr, if_pos rfl] at e2
    rw [if_pos rfl]
    exact ⟨mu1, fr, r.2, q, F.nxt N1 S.notup, S1, e2, h.from N1⟩
  | false =>
    rw [hr, if_neg Bool.false_ne_true] at e2
    rw [if_neg Bool.false_ne_true]
    exact ⟨mu1, fr, r.2, q, F.nxt N1 S.notup, S1, e2, h.from N1⟩
theorem rds_pass : PS X (.Pass pos) (rdS X.K fun fr m => some (.nx, fr, m)) := by
  refine ps_weak ps_pass fun D σ H h => ?_
  obtain ⟨mu, fr, m, q, F, S, e, h⟩ := h
  cases e
  exact h H mu (Nxt.refl S) S σ F
theorem rds_brk : PS X (.Break pos) (rdS X.K fun fr m => some (.brk, fr, m)) := by
  refine ps_weak ps_break fun D σ H h => ?_
  obtain ⟨mu, fr, m, q, F, S, e, h⟩ := h
  cases e
  exact h H mu (Nxt.refl S) S σ F
theorem rds_cnt : PS X (.Continue pos) (rdS X.K fun fr m => some (.cnt, fr, m)) := by
  refine ps_weak ps_continue fun D σ H h => ?_
  obtain ⟨mu, fr, m, q, F, S, e, h⟩ := h
  cases e
  exact h H mu (Nxt.refl S) S σ F
theorem rds_raise : PS X st (rdS X.K fun _ _ => none) := by
  refine ps_weak ps_never fun D σ H h => ?_
  obtain ⟨mu, fr, m, q, F, S, e, h⟩ := h
  cases e
/-! ### loops -/
theorem loopF_gd {ff : D → Fr → Mm → RS} {gd : Mm → Bool} {ds : List D} {fr : Fr} {m : Mm} {q : Fl × Fr × Mm} (h : loopF ff gd ds fr m = some q) : gd m = true := by
  cases ds with
  | nil =>
    obtain ⟨h1, _⟩ := ite_some (show (if gd m = true then some (Fl.nx, fr, m) else none) = _ from h)
    exact h1
  | cons d ds =>
    obtain ⟨h1, _⟩ := ite_some2 (show (if gd m = true then _ else none) = _ from h)
    exact h1
theorem rds_for {fI : Fr → Mm → Option (Wk × Mm)} {it : Expr} {body : List Stmt} (hp : PassesOwn (model X.prog X.w) X.A X.env X.xe) (hc : X.calm = true) (hi : PI X tgx it (rdI X.K tg fI)) (hg : PG X tgx (rdG X.K tg)) (hb : PSs X body (rdS X.K f)) (hs : ∀ x, foldedSetIterable it X.env x = pure x) :
    PS X (.For tgx it body [] pos) (rdS X.K fun fr m => (fI fr m).bind fun r => loopF (fun d fr m => (bindT tg d fr).bind fun fr1 => f fr1 m) (gdW r.1) r.1.1 fr r.2) := by
  refine ps_weak (ps_for hp hc hi hg hb hs) fun D σ H h => ?_
  obtain ⟨mu, fr, m, q, F, S, e, h⟩ := h
  obtain ⟨r, e1, e2⟩ := Option.bind_eq_some_iff.mp e
  refine ⟨mu, fr, m, r.1, r.2, F, S, e1, fun J H1 mu1 N1 S1 wk => ?_⟩
  refine ⟨fun i n σ' H' => n = r.1.1.length - i ∧ ∃ mu2 fr2 m2, Nxt mu1 H1 mu2 H' ∧ FrR X.K mu2 H' σ' fr2 ∧ SR X.K mu2 m2 H' ∧ loopF (fun d fr m => (bindT tg d fr).bind fun fr1 => f fr1 m) (gdW r.1) (r.1.1.drop i) fr2 m2 = some q,
    ⟨_, rfl, mu1, fr, r.2, Nxt.refl S1, F.nxt N1 S.notup, S1, e2⟩, ?_⟩
  rintro i n σ' H' ⟨rfl, mu2, fr2, m2, N2, F2, S2, e5⟩
  have w := wk mu2 m2 H' N2 S2 (loopF_gd e5) i
  by_cases hi : i < r.1.1.length
  · obtain ⟨d, hd⟩ : ∃ d, r.1.1[i]? = some d := ⟨r.1.1[i], List.getElem?_eq_getElem hi⟩
    obtain ⟨go, yl⟩ := w.2 d hd
    have ed : r.1.1.drop i = d :: r.1.1.drop (i + 1) := by
      obtain ⟨_, e6⟩ := List.getElem?_eq_some_iff.mp hd
      rw [List.drop_eq_getElem_cons hi, e6]
    rw [ed] at e5
    obtain ⟨_, e6⟩ := ite_some2 (show (if gdW r.1 m2 = true then _ else none) = _ from e5)
    obtain ⟨t, e7, e8⟩ := Option.bind_eq_some_iff.mp e6
    obtain ⟨fr1, e9, e10⟩ := Option.bind_eq_some_iff.mp e7
    refine .inr ⟨go, fun σ3 H3 => ∃ mu3 fr3 m3, Nxt mu1 H1 mu3 H3 ∧ FrR X.K mu3 H3 σ3 fr3 ∧ SR X.K mu3 m3 H3 ∧ loopF (fun d fr m => (bindT tg d fr).bind fun fr1 => f fr1 m) (gdW r.1) (r.1.1.drop (i + 1)) fr3 m3 = some q,
      fun σ3 H3 h3 => ⟨_, by omega, rfl, h3⟩, fun x H3 y => ?_⟩
    obtain ⟨N3, S3, R3⟩ := yl x H3 y
    refine ⟨mu2, m2, fr2, d, fr1, F2.nxt N3 S2.notup, S3, R3, e9, fun σ4 F4 _ => ?_⟩
    refine ⟨mu2, fr1, m2, t, F4, S3, e10, fun H5 mu5 N5 S5 => ?_⟩
    have N15 := (N2.trans N3).trans N5
    obtain ⟨fl, fr5, m5⟩ := t
    cases fl with
    | nx => exact fun σ5 F5 => ⟨mu5, fr5, m5, N15, F5, S5, e8⟩
    | cnt => exact fun σ5 F5 => ⟨mu5, fr5, m5, N15, F5, S5, e8⟩
    | brk =>
      cases e8
      exact fun σ5 F5 => h H5 mu5 (N1.trans N15) S5 σ5 F5
    | ret o =>
      cases e8
      exact fun v hv => h H5 mu5 (N1.trans N15) S5 v (hv.base ((N1.trans N2).trans N3).there)
  · have hn : r.1.1[i]? = none := List.getElem?_eq_none_iff.mpr (by omega)
    refine .inl ⟨w.1 hn, ?_⟩
    have ed : r.1.1.drop i = [] := List.drop_eq_nil_iff.mpr (by omega)
    rw [ed] at e5
    obtain ⟨_, e6⟩ := ite_some (show (if gdW r.1 m2 = true then some (Fl.nx, fr2, m2) else none) = _ from e5)
    subst e6
    exact h H' mu2 (N1.trans N2) S2 σ' F2
theorem rds_while {body : List Stmt} {N : Nat} (hp : PassesOwn (model X.prog X.w) X.A X.env X.xe) (hc : PT X a (rdT X.K (tst fc))) (hb : PSs X body (rdS X.K f)) :
    PS X (.While a body [] pos) (rdS X.K fun fr m => loopW (tst fc) f N fr m) := by
  refine ps_weak (ps_while hp hc hb) fun D σ H h => ?_
  obtain ⟨mu, fr, m, q, F, S, e, h⟩ := h
  refine ⟨fun n σ' H' => ∃ mu2 fr2 m2, Nxt mu H mu2 H' ∧ FrR X.K mu2 H' σ' fr2 ∧ SR X.K mu2 m2 H' ∧ loopW (tst fc) f n fr2 m2 = some q, ⟨N, mu, fr, m, Nxt.refl S, F, S, e⟩, ?_⟩
  rintro n σ' H' ⟨mu2, fr2, m2, N2, F2, S2, e5⟩
  cases n with
  | zero => cases e5
  | succ n =>
    obtain ⟨b, e6, e7⟩ := Option.bind_eq_some_iff.mp (show (tst fc fr2 m2).bind _ = some q from e5)
    refine ⟨mu2, fr2, m2, b.1, b.2, F2, S2, e6, fun H3 mu3 N3 S3 => ?_⟩
    have F3 := F2.nxt N3 S2.notup
    have N13 := N2.trans N3
    cases hb : b.1 with
    | true =>
      rw [hb, if_pos rfl] at e7
      show ite (true = true) _ _
      rw [if_pos rfl]
      obtain ⟨t, e8, e9⟩ := Option.bind_eq_some_iff.mp e7
      refine ⟨fun σ4 H4 => ∃ mu4 fr4 m4, Nxt mu H mu4 H4 ∧ FrR X.K mu4 H4 σ4 fr4 ∧ SR X.K mu4 m4 H4 ∧ loopW (tst fc) f n fr4 m4 = some q, fun σ4 H4 h4 => ⟨n, Nat.lt_succ_self n, h4⟩, ?_⟩
      refine ⟨mu3, fr2, b.2, t, F3, S3, e8, fun H5 mu5 N5 S5 => ?_⟩
      have N15 := N13.trans N5
      obtain ⟨fl, fr5, m5⟩ := t
      cases fl with
      | nx => exact fun σ5 F5 => ⟨mu5, fr5, m5, N15, F5, S5, e9⟩
      | cnt => exact fun σ5 F5 => ⟨mu5, fr5, m5, N15, F5, S5, e9⟩
      | brk =>
        cases e9
        exact fun σ5 F5 => h H5 mu5 N15 S5 σ5 F5
      | ret o =>
        cases e9
        exact fun v hv => h H5 mu5 N15 S5 v (hv.base N13.there)
    | false =>
      rw [hb, if_neg Bool.false_ne_true] at e7
      show ite (false = true) _ _
      rw [if_neg Bool.false_ne_true]
      cases e7
      exact h H3 mu3 N13 S3 σ' F3
end
end Nb

/-! Nb16: what changes the store -/
namespace Nb
open PySem PySem.Spec PyProof.Rows L2
section
variable {K : PySem.W.Frag} {mu : List Addr} {m m' : Mm} {H H0 : Hp} {o : Out} {v : V}
theorem updL_ok {f : List D → Option (List D)} (S : SR K mu m H) (h : OR K H0 mu H o v) (e : updL m o f = some m') :
    ∃ n a ds es vs, o = .val (.ref n) ∧ mu[n]? = some a ∧ v = .ref a ∧ H a = some (.lst vs) ∧ RepL K mu H ds vs ∧ f ds = some es ∧ m' = m.set n (.lst es) := by
  unfold updL at e
  split at e
  · rename_i n
    split at e
    · rename_i ds em
      obtain ⟨es, e1, e2⟩ := Option.map_eq_some_iff.mp e
      cases h with
      | ref hn =>
        obtain ⟨vs, h1, h2⟩ := S.at_ _ _ _ em hn
        exact ⟨n, _, ds, es, vs, rfl, hn, rfl, h1, h2, e1, e2.symm⟩
    · cases e
  · cases e
theorem lset_go (S : SR K mu m H) {n : Nat} {a : Addr} {es : List D} {vs : List V} (en : mu[n]? = some a) (r : RepL K mu H es vs) : Nxt mu H mu (upd H a (.lst vs)) ∧ SR K mu (m.set n (.lst es)) (upd H a (.lst vs)) := by
  have N := Nxt.write S en (ho := .lst vs) fun _ _ h => by cases h
  exact ⟨N, S.write en (fun _ _ h => by cases h) ⟨vs, upd_same, r.nxt N S.notup⟩⟩
theorem dset_go (S : SR K mu m H) {n : Nat} {a : Addr} {es : List (Key × D)} {vs : List (Key × V)} (en : mu[n]? = some a) (r : RepKV K mu H es vs) : Nxt mu H mu (upd H a (.dK vs)) ∧ SR K mu (m.set n (.dct es)) (upd H a (.dK vs)) := by
  have N := Nxt.write S en (ho := .dK vs) fun _ _ h => by cases h
  exact ⟨N, S.write en (fun _ _ h => by cases h) ⟨vs, upd_same, r.nxt N S.notup⟩⟩
end
section
variable {g : Gv} {X : Cx} {c : Sc} {pos apos p : Pos} {o e i : Expr} {fo fe fi : Fr → Mm → Option (Out × Mm)}
theorem rev_rep {K : PySem.W.Frag} {mu : List Addr} {H : Hp} : ∀ {ds : List D} {vs : List V}, RepL K mu H ds vs → RepL K mu H ds.reverse vs.reverse
  | _, _, .nil => .nil
  | _, _, .cons h t => by
    rw [List.reverse_cons, List.reverse_cons]
    exact (rev_rep t).append (.cons h .nil)
theorem ty_lst {K : PySem.W.Frag} {mu : List Addr} {m : Mm} {H H0 : Hp} {o : Out} {v : V} {ds : List D} (S : SR K mu m H) (h : OR K H0 mu H o v) (e : lstO m o = some ds) : tyV K "list" v H := by
  obtain ⟨a, vs, rfl, h1, h2⟩ := lstO_ok S h e
  exact .inl ⟨rfl, vs, .inl (.inl h1)⟩
theorem ty_dct {K : PySem.W.Frag} {mu : List Addr} {m : Mm} {H H0 : Hp} {o : Out} {v : V} {ds : List (Key × D)} (S : SR K mu m H) (h : OR K H0 mu H o v) (e : dctO m o = some ds) : tyV K "dict" v H := by
  obtain ⟨n, a, vs, e1, hn, rfl, h1, h2⟩ := dctO_ok S h e
  exact .inr (.inr (.inl ⟨rfl, .inl ⟨vs, h1⟩⟩))
abbrev appF (fo fe : Fr → Mm → Option (Out × Mm)) : Fr → Mm → RS := fun fr m => (fo fr m).bind fun r => (lstO r.2 r.1).bind fun _ => (fe fr r.2).bind fun q => (updL (stow q.1 q.2).2 r.1 fun ds => if ds.length < sizeLine then some (ds ++ [(stow q.1 q.2).1]) else none).map fun m' => (.nx, fr, m')
theorem rds_app (hr : okR o = true) (hh : okH e = true) (hl : (apos.endLine == pos.line) = true) (ho : PE X o (rd X.K fo)) (he : PE X e (rd X.K fe)) :
    PS X (.Expr (.Call (.Attribute o "append" apos) [e] [] pos) p) (rdS X.K (appF fo fe)) := by
  have e1 : starEach [e] X.env = [(false, eval e X.env)] := star_cons hh
  refine ps_weak (ps_expr (pe_bm PySem.F.plainAttrs_list PySem.F.slot_list_append PySem.F.type_list_append (mt_append : MtR X "list.append" rAppend) ho (pa_cons he pa_nil e1) (base_plain hr) (one_few hh) hl e1 rfl) rfl) fun D σ H h => ?_
  obtain ⟨mu, fr, m, q, F, S, ev, h⟩ := h
  obtain ⟨r, v1, ev⟩ := Option.bind_eq_some_iff.mp ev
  obtain ⟨d0, v0, ev⟩ := Option.bind_eq_some_iff.mp ev
  obtain ⟨t, v2, ev⟩ := Option.bind_eq_some_iff.mp ev
  obtain ⟨m', v3, ev⟩ := Option.map_eq_some_iff.mp ev
  subst ev
  refine rd_go F S (show fo fr m = some (r.1, r.2) from v1) fun x H1 mu1 N1 S1 O1 => ⟨ty_lst S1 O1 v0, ?_⟩
  refine rd_go (F.nxt N1 S.notup) S1 (show fe fr r.2 = some (t.1, t.2) from v2) fun y H2 mu2 N2 S2 O2 => ?_
  obtain ⟨mu3, hp, N3, S3, R3⟩ := stow_ok S2 N2 O2
  obtain ⟨n, a, ds, es, vs, e1, e2, e3, e4, e5, e6, e7⟩ := updL_ok S3 (O1.nxt N3 S1.notup) v3
  obtain ⟨hz, e8⟩ := ite_some e6
  subst e8 e7 e3
  have hl := e5.length
  refine ⟨a, vs, y, rfl, rfl, e4, by omega, ?_⟩
  obtain ⟨N4, S4⟩ := lset_go S3 e2 (e5.append (.cons R3 .nil))
  exact h _ mu3 ((N1.trans N3).trans N4) S4 σ (F.nxt ((N1.trans N3).trans N4) S.notup)
/-- xs.extend(ys), ys a list or a tuple -/
theorem mt_extA : MtR X "list.extend" (fun x vs H Q => ∃ l b xs zs, x = .ref l ∧ vs = [.ref b] ∧ H l = some (.lst xs) ∧ (H b = some (.lst zs) ∨ FT X.K H b zs) ∧ xs.length + zs.length ≤ sizeLine ∧ Q .non (upd H l (.lst (xs ++ zs)))) := by
  intro pins s σ H x vs v us Q I rx rv h
  obtain ⟨l, b, xs, zs, rfl, rfl, hH, hB, hz, q⟩ := h
  rcases hB with hB | hB
  · exact mt_extend pins s σ H (.ref l) [.ref b] v us Q I rx rv ⟨l, b, xs, zs, rfl, rfl, hH, hB, hz, q⟩
  cases rx
  obtain ⟨u, rfl, ru⟩ := rv.one
  cases ru
  obtain ⟨z, its, n, r, hl, e⟩ := I.lstM hH
  obtain ⟨its2, n2, e2, r2, z2⟩ := ft_phys I hB
  have hl2 : zs.length = its2.size := r2.length.trans Array.length_toList
  have hsz : its.toArray.size + its2.size ≤ sizeLine := by rw [List.size_toArray]; omega
  have hlong : ¬ (!its.toArray.isEmpty && Builtin.List.listTooLong (its.toArray.size + its2.size)) = true := by
    rw [notLongL hsz, Bool.and_false]
    exact Bool.false_ne_true
  refine call_meets F.slot_list_extend ⟨_, e, rfl⟩ F.entry_list_extend (F.args_list_extend_2 _ _)
    (AutoSeq1.list_extend_list_tuple_0 l its.toArray n b its2 n2 hlong (by rw [List.size_toArray]; omega) (by omega)) ⟨e, e2, ?_⟩
  refine ⟨.non, _, I.lset (its' := its ++ its2.toList) hH e (by simp) (r.append r2) ?_, rfl, q⟩
  rw [List.length_append]
  omega
theorem extO_ok {K : PySem.W.Frag} {mu : List Addr} {m : Mm} {H H0 : Hp} {o : Out} {v : V} {ds : List D} (S : SR K mu m H) (h : OR K H0 mu H o v) (e : extO m o = some ds) : ∃ a vs, v = .ref a ∧ (H a = some (.lst vs) ∨ FT K H a vs) ∧ RepL K mu H ds vs := by
  unfold extO at e
  split at e
  · cases e
    cases h with
    | tup h1 h2 => exact ⟨_, _, rfl, .inr h1, h2⟩
  · obtain ⟨a, vs, e1, h1, h2⟩ := lstO_ok S h e
    exact ⟨a, vs, e1, .inl h1, h2⟩
theorem rds_ext (hr : okR o = true) (hh : okH e = true) (hl : (apos.endLine == pos.line) = true) (ho : PE X o (rd X.K fo)) (he : PE X e (rd X.K fe)) :
    PS X (.Expr (.Call (.Attribute o "extend" apos) [e] [] pos) p) (rdS X.K fun fr m => (fo fr m).bind fun r => (lstO r.2 r.1).bind fun _ => (fe fr r.2).bind fun q => (extO q.2 q.1).bind fun es => (updL q.2 r.1 fun ds => if ds.length + es.length ≤ sizeLine then some (ds ++ es) else none).map fun m' => (.nx, fr, m')) := by
  have e1 : starEach [e] X.env = [(false, eval e X.env)] := star_cons hh
  refine ps_weak (ps_expr (pe_bm PySem.F.plainAttrs_list PySem.F.slot_list_extend PySem.F.type_list_extend mt_extA ho (pa_cons he pa_nil e1) (base_plain hr) (one_few hh) hl e1 rfl) rfl) fun D σ H h => ?_
  obtain ⟨mu, fr, m, q, F, S, ev, h⟩ := h
  obtain ⟨r, v1, ev⟩ := Option.bind_eq_some_iff.mp ev
  obtain ⟨d0, v0, ev⟩ := Option.bind_eq_some_iff.mp ev
  obtain ⟨t, v2, ev⟩ := Option.bind_eq_some_iff.mp ev
  obtain ⟨zs, v3, ev⟩ := Option.bind_eq_some_iff.mp ev
  obtain ⟨m', v4, ev⟩ := Option.map_eq_some_iff.mp ev
  subst ev
  refine rd_go F S (show fo fr m = some (r.1, r.2) from v1) fun x H1 mu1 N1 S1 O1 => ⟨ty_lst S1 O1 v0, ?_⟩
  refine rd_go (F.nxt N1 S.notup) S1 (show fe fr r.2 = some (t.1, t.2) from v2) fun y H2 mu2 N2 S2 O2 => ?_
  obtain ⟨b, us, rfl, hb, rb⟩ := extO_ok S2 O2 v3
  obtain ⟨n, a, ds, es, vs, e1, e2, e3, e4, e5, e6, e7⟩ := updL_ok S2 (O1.nxt N2 S1.notup) v4
  obtain ⟨hz, e8⟩ := ite_some e6
  subst e8 e7 e3
  have hl := e5.length
  have hl2 := rb.length
  refine ⟨a, b, vs, us, rfl, rfl, e4, hb, by omega, ?_⟩
  obtain ⟨N4, S4⟩ := lset_go S2 e2 (e5.append rb)
  exact h _ mu2 ((N1.trans N2).trans N4) S4 σ (F.nxt ((N1.trans N2).trans N4) S.notup)
theorem rds_mrev (hr : okR o = true) (hl : (apos.endLine == pos.line) = true) (ho : PE X o (rd X.K fo)) :
    PS X (.Expr (.Call (.Attribute o "reverse" apos) [] [] pos) p) (rdS X.K fun fr m => (fo fr m).bind fun r => (updL r.2 r.1 fun ds => some ds.reverse).map fun m' => (.nx, fr, m')) := by
  refine ps_weak (ps_expr (pe_bm0 PySem.F.plainAttrs_list PySem.F.slot_list_reverse PySem.F.type_list_reverse (mt_reverse : MtR X "list.reverse" rReverse) ho (base_plain hr) hl) rfl) fun D σ H h => ?_
  obtain ⟨mu, fr, m, q, F, S, ev, h⟩ := h
  obtain ⟨r, v1, ev⟩ := Option.bind_eq_some_iff.mp ev
  obtain ⟨m', v4, ev⟩ := Option.map_eq_some_iff.mp ev
  subst ev
  refine rd_go F S (show fo fr m = some (r.1, r.2) from v1) fun x H1 mu1 N1 S1 O1 => ?_
  obtain ⟨n, a, ds, es, vs, e1, e2, e3, e4, e5, e6, e7⟩ := updL_ok S1 O1 v4
  cases e6
  subst e7 e3
  refine ⟨.inl ⟨rfl, vs, .inl (.inl e4)⟩, a, vs, rfl, rfl, e4, ?_⟩
  obtain ⟨N4, S4⟩ := lset_go S1 e2 (rev_rep e5)
  exact h _ mu1 (N1.trans N4) S4 σ (F.nxt (N1.trans N4) S.notup)
theorem rds_clr (hr : okR o = true) (hl : (apos.endLine == pos.line) = true) (ho : PE X o (rd X.K fo)) :
    PS X (.Expr (.Call (.Attribute o "clear" apos) [] [] pos) p) (rdS X.K fun fr m => (fo fr m).bind fun r => (updL r.2 r.1 fun _ => some []).map fun m' => (.nx, fr, m')) := by
  refine ps_weak (ps_expr (pe_bm0 PySem.F.plainAttrs_list PySem.F.slot_list_clear PySem.F.type_list_clear (mt_clear : MtR X "list.clear" rClear) ho (base_plain hr) hl) rfl) fun D σ H h => ?_
  obtain ⟨mu, fr, m, q, F, S, ev, h⟩ := h
  obtain ⟨r, v1, ev⟩ := Option.bind_eq_some_iff.mp ev
  obtain ⟨m', v4, ev⟩ := Option.map_eq_some_iff.mp ev
  subst ev
  refine rd_go F S (show fo fr m = some (r.1, r.2) from v1) fun x H1 mu1 N1 S1 O1 => ?_
  obtain ⟨n, a, ds, es, vs, e1, e2, e3, e4, e5, e6, e7⟩ := updL_ok S1 O1 v4
  cases e6
  subst e7 e3
  refine ⟨.inl ⟨rfl, vs, .inl (.inl e4)⟩, a, vs, rfl, rfl, e4, ?_⟩
  obtain ⟨N4, S4⟩ := lset_go S1 e2 .nil
  exact h _ mu1 (N1.trans N4) S4 σ (F.nxt (N1.trans N4) S.notup)
theorem rds_ins (hr : okR o = true) (hh : okH i = true) (hh2 : okH e = true) (hl : (apos.endLine == pos.line) = true) (ho : PE X o (rd X.K fo)) (hi : PE X i (rd X.K fi)) (he : PE X e (rd X.K fe)) :
    PS X (.Expr (.Call (.Attribute o "insert" apos) [i, e] [] pos) p) (rdS X.K fun fr m => (fo fr m).bind fun r => (lstO r.2 r.1).bind fun _ => (fi fr r.2).bind fun ri => (fe fr ri.2).bind fun q => (bndO ri.1).bind fun j =>
    (updL (stow q.1 q.2).2 r.1 fun ds => if ds.length < sizeLine ∧ 0 ≤ j ∧ j < 2 ^ 63 then some (ds.take j.toNat ++ [(stow q.1 q.2).1] ++ ds.drop j.toNat) else none).map fun m' => (.nx, fr, m')) := by
  have e1 : starEach [i, e] X.env = (false, eval i X.env) :: starEach [e] X.env := star_cons hh
  have e2 : starEach [e] X.env = [(false, eval e X.env)] := star_cons hh2
  refine ps_weak (ps_expr (pe_bm PySem.F.plainAttrs_list PySem.F.slot_list_insert PySem.F.type_list_insert mt_insert ho (pa_cons hi (pa_cons he pa_nil e2) e1) (base_plain hr) (two_few hh hh2) hl e1 (by rw [e2]; rfl)) rfl) fun D σ H h => ?_
  obtain ⟨mu, fr, m, q, F, S, ev, h⟩ := h
  obtain ⟨r, v1, ev⟩ := Option.bind_eq_some_iff.mp ev
  obtain ⟨d0, v0, ev⟩ := Option.bind_eq_some_iff.mp ev
  obtain ⟨ri, v2, ev⟩ := Option.bind_eq_some_iff.mp ev
  obtain ⟨t, v3, ev⟩ := Option.bind_eq_some_iff.mp ev
  obtain ⟨j, v5, ev⟩ := Option.bind_eq_some_iff.mp ev
  obtain ⟨m', v4, ev⟩ := Option.map_eq_some_iff.mp ev
  subst ev
  refine rd_go F S (show fo fr m = some (r.1, r.2) from v1) fun x H1 mu1 N1 S1 O1 => ⟨ty_lst S1 O1 v0, ?_⟩
  refine rd_go (F.nxt N1 S.notup) S1 (show fi fr r.2 = some (ri.1, ri.2) from v2) fun y0 H2 mu2 N2 S2 O2 => ?_
  refine rd_go (F.nxt (N1.trans N2) S.notup) S2 (show fe fr ri.2 = some (t.1, t.2) from v3) fun y H3 mu3 N3 S3 O3 => ?_
  obtain ⟨mu4, hp, N4, S4, R4⟩ := stow_ok S3 N3 O3
  have N24 := N2.trans N4
  obtain ⟨n, a, ds, es, vs, e1, e2, e3, e4, e5, e6, e7⟩ := updL_ok S4 (O1.nxt N24 S1.notup) v4
  obtain ⟨⟨hz, hj, hj2⟩, e8⟩ := ite_some e6
  subst e8 e7 e3
  rw [bndO_eq v5] at O2
  cases O2
  have hl := e5.length
  refine ⟨a, vs, j, y, rfl, rfl, e4, by omega, hj, hj2, ?_⟩
  obtain ⟨N5, S5⟩ := lset_go S4 e2 (((e5.take j.toNat).append (.cons R4 .nil)).append (e5.drop j.toNat))
  exact h _ mu4 ((N1.trans N24).trans N5) S5 σ (F.nxt ((N1.trans N24).trans N5) S.notup)
/-- o[i] = v, by the store -/
def rPut (K : PySem.W.Frag) : TSet := fun o i v H Q => ∃ mu m ro ri d m' H0, SR K mu m H ∧ OR K H0 mu H ro o ∧ OR K H0 mu H ri i ∧ Rep K mu H d v ∧ putO m ro ri d = some m' ∧ ∀ H', Nxt mu H mu H' → SR K mu m' H' → Q H'
theorem set_O (hu : X.A.units + 1 < cLine) : PSet X (rPut X.K) := by
  intro pins s σ H o i v ov iv u Q I ro ri rv h
  obtain ⟨mu, m, o1, i1, d, m', H0, S, O1, O2, R, e, h⟩ := h
  unfold putO at e
  split at e
  · rename_i n
    cases O1 with
    | ref hn =>
    rename_i a
    split at e
    · rename_i kvs em
      obtain ⟨vs, h1, h2⟩ := S.at_ _ _ _ em hn
      split at e
      · rename_i k
        obtain ⟨key, e1, e2⟩ := Option.bind_eq_some_iff.mp e
        obtain ⟨hz, e3⟩ := ite_some e2
        subst e3
        have ey := key_or O2 e1
        subst ey
        obtain ⟨N4, S4⟩ := dset_go S hn (kv_put R h2)
        exact set_dict hu pins s σ H (.ref a) (kV key) v ov iv u Q I ro ri rv ⟨a, _, rfl, DPut.k h1 (by have := kv_len h2; omega), h _ N4 S4⟩
      · cases e
    · rename_i ds em
      obtain ⟨vs, h1, h2⟩ := S.at_ _ _ _ em hn
      obtain ⟨j, e1, e2⟩ := Option.bind_eq_some_iff.mp e
      obtain ⟨k, e3, e4⟩ := Option.map_eq_some_iff.mp e2
      subst e4
      rw [bndO_eq e1] at O2
      cases O2
      obtain ⟨N4, S4⟩ := lset_go S hn (h2.set k R)
      exact set_list pins s σ H (.ref a) (.int j) v ov iv u Q I ro ri rv ⟨a, vs, j, k, rfl, rfl, h1, by rw [← h2.length]; exact e3, h _ N4 S4⟩
    · cases e
  · cases e
abbrev subF (fo fi fe : Fr → Mm → Option (Out × Mm)) : Fr → Mm → RS := fun fr m => (fe fr m).bind fun r => (fo fr (stow r.1 r.2).2).bind fun ro => (fi fr ro.2).bind fun ri => (putO ri.2 ro.1 ri.1 (stow r.1 r.2).1).map fun m' => (.nx, fr, m')
theorem rds_sub {pos p : Pos} (hu : X.A.units + 1 < cLine) (hx : ∀ v, assign (.Subscript o i p) X.env v = (do
      let ov ← holding [v] (eval o X.env)
      let iv ← holding [v, ov] (eval i X.env)
      standAt p
      holding [v, ov, iv] (setItem ov iv v)
      release [v, ov, iv] [])) (hs : swapsWithSole [.Subscript o i p] e pos.line X.env = pure false) (hw : swappedStores [.Subscript o i p] e X.env = pure none) (ho : PE X o (rd X.K fo)) (hi : PE X i (rd X.K fi)) (he : PE X e (rd X.K fe)) :
    PS X (.Assign [.Subscript o i p] e pos) (rdS X.K (subF fo fi fe)) := by
  refine ps_weak (ps_asg he (pg_sub ho hi (set_O hu) hx) hs hw) fun D σ H h => ?_
  obtain ⟨mu, fr, m, q, F, S, ev, h⟩ := h
  obtain ⟨r, v1, ev⟩ := Option.bind_eq_some_iff.mp ev
  obtain ⟨ro, v2, ev⟩ := Option.bind_eq_some_iff.mp ev
  obtain ⟨ri, v3, ev⟩ := Option.bind_eq_some_iff.mp ev
  obtain ⟨m', v4, ev⟩ := Option.map_eq_some_iff.mp ev
  subst ev
  refine rd_go F S (show fe fr m = some (r.1, r.2) from v1) fun x H1 mu1 N1 S1 O1 => ?_
  obtain ⟨mu2, hp, N2, S2, R2⟩ := stow_ok S1 N1 O1
  refine rd_go (F.nxt N2 S.notup) S2 (show fo fr _ = some (ro.1, ro.2) from v2) fun y H3 mu3 N3 S3 O3 => ?_
  refine rd_go (F.nxt (N2.trans N3) S.notup) S3 (show fi fr ro.2 = some (ri.1, ri.2) from v3) fun z H4 mu4 N4 S4 O4 => ?_
  have O3' := O3.nxt N4 S3.notup
  have O4' := O4.base (fun b hb => N3.there b hb)
  refine ⟨mu4, ri.2, ro.1, ri.1, _, m', _, S4, O3', O4', R2.nxt (N3.trans N4) S2.notup, v4, fun H' N' S' => ?_⟩
  have N := ((N2.trans N3).trans N4).trans N'
  exact h H' mu4 N S' σ (F.nxt N S.notup)
end
end Nb

/-! Nb17: the check of a text's statements, and what it is worth -/
namespace Nb
open PySem PySem.Spec PyProof.Rows L2
/-- no display of a comprehension -/
def noCp : Expr → Bool
  | .ListComp _ _ _ _ => false
  | .SetComp _ _ _ _ => false
  | .DictComp _ _ _ _ _ => false
  | _ => true
theorem sw_no {a : Expr} {t : Option Expr} {l : Nat} {env : Env} (h : noCp a = true) : swapsWith a t l env = pure false := by
  cases a <;> first | rfl | cases h
theorem sw_tup {a : Expr} {es : List Expr} {k : Nat} {p : Pos} {l : Nat} {env : Env} : swapsWithSole [.Tuple es k p] a l env = pure false := by
  cases a <;> rfl
theorem sw_sub {a o i : Expr} {p : Pos} {l : Nat} {env : Env} : swapsWithSole [.Subscript o i p] a l env = pure false := by
  cases a <;> rfl
def noTup : Expr → Bool
  | .Tuple _ _ _ => false
  | _ => true
theorem ss_no {a : Expr} {es : List Expr} {k : Nat} {p : Pos} {env : Env} (h : noTup a = true) : swappedStores [.Tuple es k p] a env = pure none := by
  cases a <;> first | rfl | cases h
theorem ss_sub {a o i : Expr} {p : Pos} {env : Env} : swappedStores [.Subscript o i p] a env = pure none := by
  cases a <;> rfl
theorem asg_sub {o i : Expr} {p : Pos} {env : Env} (h : okH i = true) (v : Value) : assign (.Subscript o i p) env v = (do
      let ov ← holding [v] (eval o env)
      let iv ← holding [v, ov] (eval i env)
      standAt p
      holding [v, ov, iv] (setItem ov iv v)
      release [v, ov, iv] []) := by
  cases i <;> first | rfl | cases h
/-- x = [..], the new list stored within -/
def swN (c : Sc) (x : Str) (px : Pos) (a : Expr) : Bool := noCp a || match comp1 a with
  | some q => locP c x && (px.line == q.line) && !(q.scope.names.any fun (n, k) => n == x && (k == .local || k == .cell))
  | none => false
where locP (c : Sc) (x : Str) : Bool := match c.sc.lookup x with
  | some .local => true
  | _ => false
def oneS : List Expr → Option Expr
  | [e] => some e
  | _ => none
theorem oneS_eq {es : List Expr} {e : Expr} (h : oneS es = some e) : es = [e] := one_eq h
mutual
def chkS : S → Sc → Stmt → Bool
  | .asg tg e, c, .Assign [t] a _ => match t with
    | .Name x px => chkT tg c (.Name x px) && swN c x px a && chkE e c a
    | .Tuple es k p => chkT tg c (.Tuple es k p) && noTup a && chkE e c a
    | _ => false
  | .sub o i e, c, .Assign [t] a _ => match t with
    | .Subscript ox ix _ => okH ix && chkE o c ox && chkE i c ix && chkE e c a
    | _ => false
  | .exp e, c, .Expr a _ => noCp a && chkE e c a
  | .app o e, c, .Expr a _ => match methN a with
    | some q => decide (q.2.1 = "append") && okR q.1 && chkE o c q.1 && (match one? q.2.2 with
      | some x => okH x && chkE e c x
      | none => false)
    | none => false
  | .ext o e, c, .Expr a _ => match methN a with
    | some q => decide (q.2.1 = "extend") && okR q.1 && chkE o c q.1 && (match one? q.2.2 with
      | some x => okH x && chkE e c x
      | none => false)
    | none => false
  | .mrev o, c, .Expr a _ => match methN a with
    | some q => decide (q.2.1 = "reverse") && okR q.1 && chkE o c q.1 && q.2.2.isEmpty
    | none => false
  | .clr o, c, .Expr a _ => match methN a with
    | some q => decide (q.2.1 = "clear") && okR q.1 && chkE o c q.1 && q.2.2.isEmpty
    | none => false
  | .ins o i e, c, .Expr a _ => match methN a with
    | some q => decide (q.2.1 = "insert") && okR q.1 && chkE o c q.1 && (match two? q.2.2 with
      | some x => okH x.1 && okH x.2 && chkE i c x.1 && chkE e c x.2
      | none => false)
    | none => false
  | .ret e, c, .Return (some a) _ => chkE e c a
  | .retn, _, .Return none _ => true
  | .ife d a b, c, .If t xs ys _ => chkE d c t && chkSs a c xs && chkSs b c ys
  | .for_ tg it body, c, .For t x xs [] _ => okH x && chkI it c tg t x && chkT tg c t && chkSs body c xs
  | .whl d body, c, .While t xs [] _ => chkE d c t && chkSs body c xs
  | .pass, _, .Pass _ => true
  | .brk, _, .Break _ => true
  | .cnt, _, .Continue _ => true
  | .raise, _, _ => true
  | _, _, _ => false
def chkSs : List S → Sc → List Stmt → Bool
  | [], _, [] => true
  | s :: ss, c, x :: xs => chkS s c x && chkSs ss c xs
  | _, _, _ => false
end
section
variable {g : Gv}
theorem meth_q {a : Expr} {q : Expr × Str × List Expr} {nm : Str} (h : methN a = some q) (e : q.2.1 = nm) : ∃ apos pos, a = .Call (.Attribute q.1 nm apos) q.2.2 [] pos ∧ (apos.endLine == pos.line) = true := by
  subst e
  exact methN_eq h
theorem ps_eq {X : Cx} {st : Stmt} {f f' : Fr → Mm → RS} (h : PS X st (rdS X.K f)) (e : f = f') : PS X st (rdS X.K f') := e ▸ h
theorem rds_setLc {X : Cx} {i : Nat} {y : Str} {py : Pos} {elt tgx it : Expr} {ifs : List Expr} {scope : Scope} {own : List (Str × Nat)} {pos spos : Pos} {tg : Tg} {fI : Fr → Mm → Option (Wk × Mm)} {fC : Fr → Mm → Option (Bool × Mm)} {fE : Fr → Mm → Option (Out × Mm)}
    (hc : X.calm = true) (hN : X.N.Nodup) (hy : X.N[i]? = some y) (hyl : X.env.scope.names.lookup y = some .local)
    (hsw : swapsWith (.ListComp elt [⟨tgx, it, ifs, 0⟩] scope pos) (some (.Name y py)) spos.line X.env = pure true) (hi : PI X tgx it (rdI X.K tg fI)) (ok : BlkOk X.N X.env.scope scope own) (hsl : ∀ i ∈ slT tg, i ∈ own.map (·.2))
    (hg : ∀ (s : Shared) (H : Hp) (C : Addr) (cl : List (Str × Addr)) (fp : List Addr), PG (X.blk s H scope (compEnvC scope cl C X.env) fp) tgx (rdG X.K tg))
    (ht : ∀ (s : Shared) (H : Hp) (C : Addr) (cl : List (Str × Addr)) (fp : List Addr), PTs (X.blk s H scope (compEnvC scope cl C X.env) fp) ifs (rdT X.K fC))
    (he : ∀ (s : Shared) (H : Hp) (C : Addr) (cl : List (Str × Addr)) (fp : List Addr), PE (X.blk s H scope (compEnvC scope cl C X.env) fp) elt (rd X.K fE)) (hs : ∀ x, foldedSetIterable it X.env x = pure x) :
    PS X (.Assign [.Name y py] (.ListComp elt [⟨tgx, it, ifs, 0⟩] scope pos) spos) (rdS X.K (asgF (.n i) fun fr m => (fI fr m).bind fun r => (loopC (cmpB tg (own.map (·.2)) fC fE fr) (gdW r.1) r.1.1 [] r.2).map fun q => (.tmp q.1, q.2))) := by
  refine ps_weak (ps_setLc hc hN hy hyl hsw hi ok hg ht he hs) fun D σ H h => ?_
  obtain ⟨mu, fr, m, p, F, S, ev, h⟩ := h
  obtain ⟨r, e1, e2⟩ := Option.bind_eq_some_iff.mp ev
  obtain ⟨fr', e3, e4⟩ := Option.map_eq_some_iff.mp e2
  subst e4
  have e3 : some (fr.set i (some _)) = some fr' := e3
  cases e3
  refine lc_go hsl (K := X.K) ?_
  refine ⟨mu, fr, m, r.1, r.2, F, S, e1, fun v H1 mu1 N1 S1 O1 => ?_⟩
  obtain ⟨mu2, hp, N2, S2, R2⟩ := stow_ok S1 N1 O1
  exact h H1 mu2 N2 S2 _ ((F.nxt N2 S.notup).set R2)
theorem sndAsgC {X : Cx} {c : Sc} {e : E} {tg : Tg} {x : Str} {px pos : Pos} {a : Expr} {q : CompP} (ok : Ok g X c) (hq : comp1 a = some q) (hl : swN.locP c x = true) (hp : (px.line == q.line) = true) (hn : (q.scope.names.any fun (n, k) => n == x && (k == .local || k == .cell)) = false)
    (ht : chkT tg c (.Name x px) = true) (he : chkE e c a = true) : PS X (.Assign [.Name x px] a pos) (rdS X.K (evS g (.asg tg e))) := by
  obtain ⟨cpos, ea, hline⟩ := comp1_eq hq
  cases tg with
  | t ts => simp [chkT] at ht
  | n i =>
  simp only [chkT, Bool.and_eq_true, decide_eq_true_eq] at ht
  obtain ⟨⟨h1, h2⟩, h3⟩ := ht
  have hx : X.env.scope.names.lookup x = some .local := by
    rw [ok.names]
    unfold swN.locP at hl
    split at hl
    · assumption
    · cases hl
  cases e with
  | comp elt tg2 it cs own =>
    unfold chkE at he
    simp only [hq, Bool.and_eq_true] at he
    obtain ⟨⟨⟨⟨⟨⟨⟨g1, g2⟩, g3⟩, g4⟩, g5⟩, g6⟩, g7⟩, g8⟩ := he
    have hb := blkOk_by g1
    have hb' : BlkOk X.N X.env.scope q.scope (ownN c.N own) := by
      rw [ok.hN]
      exact blk_sc ok.names.symm hb
    have hs : ∀ i ∈ slT tg2, i ∈ (ownN c.N own).map (·.2) := fun i hi => by
      rw [ownN_snd]
      have := List.all_eq_true.mp g2 i hi
      simpa using this
    rw [ea]
    have r := rds_setLc (py := px) (pos := cpos) (spos := pos) ok.calm ok.nd (by rw [ok.hN]; exact h1) hx (sw_true ok.kind hx (by rw [← hline]; exact hp) hn) (sndI g it c tg2 q.tg q.it X ok g5) hb' hs (fun s H C cl fp => sndT tg2 _ q.tg _ (ok.blk hb g3 s H C cl fp) g6)
        (fun s H C cl fp => sndC g cs _ q.ifs _ (ok.blk hb g3 s H C cl fp) g7) (fun s H C cl fp => (sndE g elt _ q.elt _ (ok.blk hb g3 s H C cl fp) g8).1) (fold_plain g4)
    rw [ownN_snd] at r
    exact ps_eq r rfl
  | _ => 
    subst ea
    simp [chkE, comp1, call1, call2, methN] at he
abbrev Pso (X : Cx) : Prop := PassesOwn (model X.prog X.w) X.A X.env X.xe
mutual
theorem sndS : ∀ (s : S) (c : Sc) (st : Stmt) (X : Cx), Ok g X c → Pso X → chkS s c st = true → PS X st (rdS X.K (evS g s))
  | .asg tg e, c, st, X, ok, hp, h => by
    cases st with
    | Assign ts a pos =>
      cases ts with
      | nil => simp [chkS] at h
      | cons t ts =>
      cases ts with
      | cons _ _ => simp [chkS] at h
      | nil =>
      cases t with
      | Name x px =>
        simp only [chkS, Bool.and_eq_true] at h
        obtain ⟨⟨h1, h2⟩, h3⟩ := h
        unfold swN at h2
        rw [Bool.or_eq_true] at h2
        rcases h2 with h2 | h2
        · cases tg with
          | t ts => simp [chkT] at h1
          | n i =>
            simp only [chkT, Bool.and_eq_true, decide_eq_true_eq] at h1
            obtain ⟨⟨g1, g2⟩, g3⟩ := h1
            exact ps_eq (rds_set ok (by rw [ok.hN]; exact g1) (ok.loc g2) (ok.st x g3) (sndE g e c a X ok h3).1 (sw_no h2)) rfl
        · split at h2
          · rename_i q hq
            simp only [Bool.and_eq_true, Bool.not_eq_true'] at h2
            obtain ⟨⟨g1, g2⟩, g3⟩ := h2
            exact sndAsgC ok hq g1 g2 g3 h1 h3
          · cases h2
      | Tuple es k p =>
        simp only [chkS, Bool.and_eq_true] at h
        obtain ⟨⟨h1, h2⟩, h3⟩ := h
        exact ps_eq (rds_asgT (sndT tg c _ X ok h1) (sndE g e c a X ok h3).1 sw_tup (ss_no h2)) rfl
      | _ => simp [chkS] at h
    | _ => simp [chkS] at h
  | .sub o i e, c, st, X, ok, hp, h => by
    cases st with
    | Assign ts a pos =>
      cases ts with
      | nil => simp [chkS] at h
      | cons t ts =>
      cases ts with
      | cons _ _ => simp [chkS] at h
      | nil =>
      cases t with
      | Subscript ox ix p =>
        simp only [chkS, Bool.and_eq_true] at h
        obtain ⟨⟨⟨h1, h2⟩, h3⟩, h4⟩ := h
        have hu := ok.units
        exact ps_eq (rds_sub (by omega) (asg_sub h1) sw_sub ss_sub (sndE g o c ox X ok h2).1 (sndE g i c ix X ok h3).1 (sndE g e c a X ok h4).1) rfl
      | _ => simp [chkS] at h
    | _ => simp [chkS] at h
  | .exp e, c, st, X, ok, hp, h => by
    cases st with
    | Expr a pos =>
      simp only [chkS, Bool.and_eq_true] at h
      exact ps_eq (rds_exp (sndE g e c a X ok h.2).1 (sw_no h.1)) rfl
    | _ => simp [chkS] at h
  | .app o e, c, st, X, ok, hp, h => by
    cases st with
    | Expr a pos =>
      unfold chkS at h
      cases hq : methN a with
      | none => simp [hq] at h
      | some q =>
        simp only [hq, Bool.and_eq_true, decide_eq_true_eq] at h
        obtain ⟨⟨⟨h1, h2⟩, h3⟩, h4⟩ := h
        obtain ⟨apos, p, rfl, hl⟩ := meth_q hq h1
        cases he : one? q.2.2 with
        | none => simp [he] at h4
        | some x =>
          simp only [he, Bool.and_eq_true] at h4
          rw [one_eq he]
          exact ps_eq (rds_app h2 h4.1 hl (sndE g o c _ X ok h3).1 (sndE g e c _ X ok h4.2).1) rfl
    | _ => simp [chkS] at h
  | .ext o e, c, st, X, ok, hp, h => by
    cases st with
    | Expr a pos =>
      unfold chkS at h
      cases hq : methN a with
      | none => simp [hq] at h
      | some q =>
        simp only [hq, Bool.and_eq_true, decide_eq_true_eq] at h
        obtain ⟨⟨⟨h1, h2⟩, h3⟩, h4⟩ := h
        obtain ⟨apos, p, rfl, hl⟩ := meth_q hq h1
        cases he : one? q.2.2 with
        | none => simp [he] at h4
        | some x =>
          simp only [he, Bool.and_eq_true] at h4
          rw [one_eq he]
          exact ps_eq (rds_ext h2 h4.1 hl (sndE g o c _ X ok h3).1 (sndE g e c _ X ok h4.2).1) rfl
    | _ => simp [chkS] at h
  | .mrev o, c, st, X, ok, hp, h => by
    cases st with
    | Expr a pos =>
      unfold chkS at h
      cases hq : methN a with
      | none => simp [hq] at h
      | some q =>
        simp only [hq, Bool.and_eq_true, decide_eq_true_eq] at h
        obtain ⟨⟨⟨h1, h2⟩, h3⟩, h4⟩ := h
        obtain ⟨apos, p, rfl, hl⟩ := meth_q hq h1
        rw [List.isEmpty_iff.mp h4]
        exact ps_eq (rds_mrev h2 hl (sndE g o c _ X ok h3).1) rfl
    | _ => simp [chkS] at h
  | .clr o, c, st, X, ok, hp, h => by
    cases st with
    | Expr a pos =>
      unfold chkS at h
      cases hq : methN a with
      | none => simp [hq] at h
      | some q =>
        simp only [hq, Bool.and_eq_true, decide_eq_true_eq] at h
        obtain ⟨⟨⟨h1, h2⟩, h3⟩, h4⟩ := h
        obtain ⟨apos, p, rfl, hl⟩ := meth_q hq h1
        rw [List.isEmpty_iff.mp h4]
        exact ps_eq (rds_clr h2 hl (sndE g o c _ X ok h3).1) rfl
    | _ => simp [chkS] at h
  | .ins o i e, c, st, X, ok, hp, h => by
    cases st with
    | Expr a pos =>
      unfold chkS at h
      cases hq : methN a with
      | none => simp [hq] at h
      | some q =>
        simp only [hq, Bool.and_eq_true, decide_eq_true_eq] at h
        obtain ⟨⟨⟨h1, h2⟩, h3⟩, h4⟩ := h
        obtain ⟨apos, p, rfl, hl⟩ := meth_q hq h1
        cases he : two? q.2.2 with
        | none => simp [he] at h4
        | some x =>
          simp only [he, Bool.and_eq_true] at h4
          obtain ⟨⟨⟨g1, g2⟩, g3⟩, g4⟩ := h4
          rw [two_eq he]
          exact ps_eq (rds_ins h2 g1 g2 hl (sndE g o c _ X ok h3).1 (sndE g i c _ X ok g3).1 (sndE g e c _ X ok g4).1) rfl
    | _ => simp [chkS] at h
  | .ret e, c, st, X, ok, hp, h => by
    cases st with
    | Return a pos =>
      cases a with
      | none => simp [chkS] at h
      | some a =>
        simp only [chkS] at h
        exact ps_eq (rds_ret (sndE g e c a X ok h).1) rfl
    | _ => simp [chkS] at h
  | .retn, c, st, X, ok, hp, h => by
    cases st with
    | Return a pos =>
      cases a with
      | none => exact ps_eq rds_retn rfl
      | some a => simp [chkS] at h
    | _ => simp [chkS] at h
  | .ife d a b, c, st, X, ok, hp, h => by
    cases st with
    | If t xs ys pos =>
      simp only [chkS, Bool.and_eq_true] at h
      obtain ⟨⟨h1, h2⟩, h3⟩ := h
      exact ps_eq (rds_if (sndE g d c t X ok h1).2 (sndSs a c xs X ok hp h2) (sndSs b c ys X ok hp h3)) rfl
    | _ => simp [chkS] at h
  | .for_ tg it body, c, st, X, ok, hp, h => by
    cases st with
    | For t x xs els pos =>
      cases els with
      | cons _ _ => simp [chkS] at h
      | nil =>
        simp only [chkS, Bool.and_eq_true] at h
        obtain ⟨⟨⟨h1, h2⟩, h3⟩, h4⟩ := h
        exact ps_eq (rds_for hp ok.calm (sndI g it c tg t x X ok h2) (sndT tg c t X ok h3) (sndSs body c xs X ok hp h4) (fold_plain h1)) rfl
    | _ => simp [chkS] at h
  | .whl d body, c, st, X, ok, hp, h => by
    cases st with
    | While t xs els pos =>
      cases els with
      | cons _ _ => simp [chkS] at h
      | nil =>
        simp only [chkS, Bool.and_eq_true] at h
        exact ps_eq (rds_while hp (sndE g d c t X ok h.1).2 (sndSs body c xs X ok hp h.2)) rfl
    | _ => simp [chkS] at h
  | .pass, c, st, X, ok, hp, h => by
    cases st with
    | Pass pos => exact ps_eq rds_pass rfl
    | _ => simp [chkS] at h
  | .brk, c, st, X, ok, hp, h => by
    cases st with
    | Break pos => exact ps_eq rds_brk rfl
    | _ => simp [chkS] at h
  | .cnt, c, st, X, ok, hp, h => by
    cases st with
    | Continue pos => exact ps_eq rds_cnt rfl
    | _ => simp [chkS] at h
  | .raise, c, st, X, ok, hp, h => ps_eq rds_raise rfl
theorem sndSs : ∀ (ss : List S) (c : Sc) (sts : List Stmt) (X : Cx), Ok g X c → Pso X → chkSs ss c sts = true → PSs X sts (rdS X.K (evSs g ss))
  | [], c, sts, X, ok, hp, h => by
    cases sts with
    | nil => exact rds_nil
    | cons _ _ => simp [chkSs] at h
  | s :: ss, c, sts, X, ok, hp, h => by
    cases sts with
    | nil => simp [chkSs] at h
    | cons x xs =>
      simp only [chkSs, Bool.and_eq_true] at h
      exact rds_cons (sndS s c x X ok hp h.1) (sndSs ss c xs X ok hp h.2)
end
end
end Nb

/-! Nb18: a def of the text -/
namespace Nb
open PySem PySem.Spec PyProof.Rows L2
/-- what a def does -/
def runF (g : Gv) (n : Nat) (body : List S) : Fn := fun ds m =>
  (evSs g body (ds.map some ++ List.replicate (n - ds.length) none) m).bind fun q => match q.1 with
    | .nx => some (.val .non, q.2.2)
    | .ret o => some (o, q.2.2)
    | _ => none
/-- what the module holds, for defs of level k -/
structure Md (P : Program) (w : World) (K : PySem.W.Frag) (mg : Str → Option Value) (base : Heap) (g : Gv) (k : Nat) : Prop where
  fns : ∀ (x : Str) (n : Nat) (F : Fn), g.phi x = some (n, F) → ∃ j f fd ps, j ≤ k ∧ mg x = some (.ref f) ∧ PySem.W.keepIn K (.ref f) = true ∧ Binds K fd ps [] ∧ FnG P w K mg base CX0 j f fd ps (spF K n F)
  cons : ∀ (x : Str) (d : D), g.gam x = some d → ∃ u v, mg x = some u ∧ RelV v u ∧ ∀ mu H, Rep K mu H d v
  blt : ∀ x ∈ bltNames, mg x = none
section
variable {P : Program} {w : World} {K : PySem.W.Frag} {mg : Str → Option Value} {base : Heap} {g : Gv} {k : Nat}
theorem Md.up {j : Nat} (M : Md P w K mg base g j) (h : j ≤ k) : Md P w K mg base g k :=
  ⟨fun x n F e => let ⟨i, f, fd, ps, h1, h2⟩ := M.fns x n F e; ⟨i, f, fd, ps, Nat.le_trans h1 h, h2⟩, M.cons, M.blt⟩
theorem start_fr {N : List Str} {mu : List Addr} {H : Hp} {ds : List D} {vs : List V} (h : RepL K mu H ds vs) : FrR K mu H (L2.start N vs) (ds.map some ++ List.replicate (N.length - ds.length) none) := by
  have hl := h.length
  refine ⟨by unfold L2.start; simp [hl], fun i d e => ?_⟩
  unfold L2.start
  by_cases hi : i < ds.length
  · rw [List.getElem?_append_left (by rw [List.length_map]; exact hi), List.getElem?_map] at e
    obtain ⟨d', e1, e2⟩ := Option.map_eq_some_iff.mp e
    cases e2
    obtain ⟨v, e3, e4⟩ := h.get e1
    exact ⟨v, by rw [List.getElem?_append_left (by rw [List.length_map, ← hl]; exact hi), List.getElem?_map, e3]; rfl, e4⟩
  · rw [List.getElem?_append_right (by rw [List.length_map]; omega)] at e
    have := List.getElem?_eq_some_iff.mp e
    obtain ⟨h1, h2⟩ := this
    rw [List.getElem_replicate] at h2
    cases h2
theorem def_G {x qual : Str} {params : Arguments} {body : List Stmt} {scope : Scope} {f : Addr} {fd : FuncData} {N ps : List Str} {ss : List S} (M : Md P w K mg base g k) (F : FunD K x qual params body scope [] [] f fd) (S : FnScope N ps scope) (chk : chkSs ss ⟨N, scope.names, N⟩ body = true) :
    FnG P w K mg base CX0 (k + 1) f fd ps (spF K ps.length (runF g N.length ss)) := by
  refine fnG_of F S (fun vs H Q E h => ?_) fun cdv A outer s H vs Q E hr hg h => ?_
  · obtain ⟨mu, m, ds, out, m', _, r, hn, _⟩ := h
    rw [← r.length, hn]
  · obtain ⟨mu, m, ds, out, m', S1, r, hn, e, q⟩ := h
    refine ⟨rdS K (evSs g ss), PSs.nox (sndSs ss ⟨N, scope.names, N⟩ body (cxOf CX0 P w K mg base N qual scope f cdv A outer s H E).nox ?_ PassesOwn.never chk), ?_⟩
    · refine ⟨rfl, S.nd, rfl, S.kind, rfl, fun _ _ => .inl rfl, ?_, hg, fun x n F e => ?_, M.cons, M.blt⟩
      · have := hr.un
        show (A.deeper (envOfC qual scope s.heap.objs.size f cdv)).units + 100 < cLine
        omega
      · obtain ⟨j, f, fd, ps, h1, h2⟩ := M.fns x n F e
        exact ⟨j, f, fd, ps, hr.mono h1, h2⟩
    · obtain ⟨t, e1, e2⟩ := Option.bind_eq_some_iff.mp e
      refine ⟨mu, _, m, t, start_fr r, S1, e1, fun H' mu' N' S' => ?_⟩
      obtain ⟨fl, fr', m1⟩ := t
      cases fl with
      | nx =>
        cases e2
        exact fun σ' _ => q .non H' mu' N' S' .non
      | ret o =>
        cases e2
        exact fun v hv => q v H' mu' N' S' hv
      | brk => cases e2
      | cnt => cases e2
theorem FnG.never {f : Addr} {fd : FuncData} {ps : List Str} {n : Nat} : FnG P w K mg base CX0 k f fd ps (spF K n fun _ _ => none) := by
  refine ⟨fun vs H Q E h => ?_, fun A outer s H ar us vs Q E _ _ _ _ h => ?_⟩
  · obtain ⟨mu, m, ds, out, m', _, _, _, e, _⟩ := h
    cases e
  · obtain ⟨mu, m, ds, out, m', _, _, _, e, _⟩ := h
    cases e
end
/-- a def that calls itself, so many calls deep -/
def recF (g : Fn → Gv) (n : Nat) (body : List S) : Nat → Fn
  | 0 => fun _ _ => none
  | k + 1 => runF (g (recF g n body k)) n body
end Nb

/-! Nb19: the law's call -/
namespace Nb
open PySem PySem.Spec PyProof.Rows L2
theorem ints_rep {K : PySem.W.Frag} {mu : List Addr} {H : Hp} : ∀ ns : List Int, RepL K mu H (ns.map D.int) (ns.map V.int)
  | [] => .nil
  | i :: ns => .cons (.int i) (ints_rep ns)
section
variable {P : Program} {w : World} {K : PySem.W.Frag} {mg mb : Str → Option Value} {k : Nat} {fa a : Addr} {fd : FuncData} {x : Str} {s : Shared} {vs : List Value} {ns : List Int} {F : Fn}
/-- what the walk starts from: the script alone may be tracked, and it stands for ever -/
theorem first_heap (KX : K.In s.heap) (ha : s.heap.get? a = some { cls := .type "list", data := .seq vs.toArray }) (hi : IntsAre vs ns) (hl : ns.length ≤ sizeLine) :
    ∃ T : Hp, (∀ b u, T b = some u → b = a ∧ K.lookup a = none ∧ ∃ o, u = .frz o (.lst (ns.map V.int))) ∧ SqF K T a (ns.map V.int) ∧ HOk P w T s.heap := by
  have rv := vals_ints hi
  have hlen := hi.length
  cases hk : K.lookup a with
  | some o =>
    have e := (KX a o hk).symm.trans ha
    cases e
    exact ⟨fun _ => none, (fun b u z => nomatch (show (none : Option HO) = some u from z)), .inr (.inr ⟨_, vs.toArray, _, hk, rfl, rfl, rfl, (by rw [List.size_toArray, hlen]; exact hl), (by simpa using rv)⟩), (fun b u z => nomatch (show (none : Option HO) = some u from z))⟩
  | none =>
    have self : (fun b : Addr => if b = a then some (HO.frz { cls := .type "list", data := .seq vs.toArray } (.lst (ns.map V.int))) else none) a = some (HO.frz { cls := .type "list", data := .seq vs.toArray } (.lst (ns.map V.int))) := if_pos rfl
    have only : ∀ (b : Addr) (u : HO), (if b = a then some (HO.frz { cls := .type "list", data := .seq vs.toArray } (.lst (ns.map V.int))) else none) = some u → b = a ∧ HO.frz { cls := .type "list", data := .seq vs.toArray } (.lst (ns.map V.int)) = u := fun b u z => by
      by_cases hb : b = a
      · rw [if_pos hb] at z
        exact ⟨hb, Option.some.inj z⟩
      · rw [if_neg hb] at z
        cases z
    refine ⟨fun b : Addr => if b = a then some (HO.frz { cls := .type "list", data := .seq vs.toArray } (.lst (ns.map V.int))) else none, fun b u z => ?_, .inl ⟨_, self⟩, fun b u z => ?_⟩
    · obtain ⟨h1, h2⟩ := only b u z
      exact ⟨h1, rfl, _, h2.symm⟩
    · obtain ⟨h1, h2⟩ := only b u z
      subst h1 h2
      exact ⟨ha, by rw [List.length_map]; exact hl, vs, _, rv, ha⟩
theorem law_G (KX : K.In s.heap) (hns : s.heap.Ns mainGlobals mg) (hb : s.heap.Ns builtinsNs mb) (hbb : ∀ y : Str, y ≠ "__name__" → mb y = bootBuiltins y) (hlim : s.heap.NoLimit) (hgen : s.gens = #[])
    (ha : s.heap.get? a = some { cls := .type "list", data := .seq vs.toArray }) (hi : IntsAre vs ns) (hl : ns.length ≤ sizeLine) (hr : Room k callerA)
    (G : ∀ base : Heap, K.In base → base.Ns mainGlobals mg → FnG P w K mg base CX0 k fa fd [x] (spF K 1 F)) (hbind : ∀ (s : Shared) (u : Value), BindsTo s fd ⟨[u], []⟩ [(x, u)])
    (hF : ∃ m', F [.frz (ns.map D.int)] [] = some (.val (.bl true), m')) :
    codeAny (model P w) callerA (.call (.ref fa) ⟨[.ref a], []⟩) (fun r s' => r = .ok (.ret (.bool true)) ∧ OldK s.heap s'.heap ∧ s'.os = s.os ∧ AllBare s'.gens) s := by
  obtain ⟨m', hF⟩ := hF
  obtain ⟨T, tO, tS, tOk⟩ := first_heap (P := P) (w := w) KX ha hi hl
  have clear : ∀ {b : Addr} {o : Obj}, s.heap.get? b = some o → (b = a → False) → (hidT s.heap T).get? b = some o := fun {b o} e n => by
    refine hidT_get e ?_
    cases q : T b with
    | none => rfl
    | some u => exact (n (tO b u q).1).elim
  have nsT : ∀ {b : Addr} {mm : Str → Option Value}, s.heap.Ns b mm → (hidT s.heap T).Ns b mm := fun {b mm} z => by
    obtain ⟨o, es, ep, e, d, r⟩ := z
    refine ⟨o, es, ep, clear e fun hba => ?_, d, r⟩
    subst hba
    rw [ha] at e
    cases e
    cases d
  have kT : K.In (hidT s.heap T) := fun b o e => by
    refine hidT_get (KX b o e) ?_
    cases q : T b with
    | none => rfl
    | some u =>
      obtain ⟨h1, h2, _⟩ := tO b u q
      subst h1
      rw [h2] at e
      cases e
  obtain ⟨mc, l1, l2⟩ := hlim
  have e0 : Env0 P w K mg (hidT s.heap T) callerA [] s T :=
    { frames := rfl, mod := ⟨kT, nsT hns, ⟨mb, nsT hb, hbb⟩, mc, nsT l1, l2⟩, bs := fun b o e => of_hidT e, bsz := Nat.le_of_eq (hidT_size _ _), funs := trivial, frf := (fun b z => nomatch z), hok := tOk, bare := .of_eq hgen }
  have sp : spF K 1 F [.ref a] T (fun v _ => v = .bl true) (fun _ _ _ => False) := by
    refine ⟨[], [], [.frz (ns.map D.int)], _, m', ⟨rfl, List.nodup_nil, fun n o b e _ => nomatch e⟩, .cons (.frz tS (ints_rep ns)) .nil, rfl, hF, fun v H' mu' _ _ O => ?_⟩
    cases O
    rfl
  refine codeAny_mono ((G _ kT (nsT hns)).go callerA [] s T ⟨[.ref a], []⟩ [.ref a] [.ref a] _ _ ⟨hr, rfl⟩ e0 (hbind s (.ref a)) (.cons rfl .nil) sp) fun r s' z => ?_
  match r, z with
  | .error e, z => exact (show False from z).elim
  | .ok .next, z => exact (show False from z).elim
  | .ok .brk, z => exact (show False from z).elim
  | .ok .cont, z => exact (show False from z).elim
  | .ok (.ret u), z =>
    obtain ⟨v, H', os, bare, un, ok', rv, hv⟩ := z
    have hv : v = .bl true := hv
    subst hv
    have hu : u = Value.bool true := rv
    subst hu
    refine ⟨rfl, OldK.of_keep fun b o e => ?_, os, bare⟩
    cases q : T b with
    | none => exact un.keep b o e q (fun z => nomatch z) (fun z => nomatch z)
    | some t =>
      obtain ⟨_, _, ob, ht⟩ := tO b t q
      subst ht
      have e1 := (tOk b _ q).1
      have e2 := (ok' b _ (un.frzs b ob _ q)).1
      rw [e] at e1
      cases e1
      exact e2
end
/-- a law, walked -/
theorem walk_G {l : PySem.W.OpenLaw} {n k : Nat} {q : Program} {loose : List Str} {XP : (Str → Option Value) → Heap → Prop} {YP : World → Heap → Prop} {d : DefRec} {x : Str} (hn : l.most = some n) (hz : n ≤ sizeLine) (hdf : d.params.defaults = []) (hr : Room k callerA)
    (G : ∀ (w : World) (mg : Str → Option Value) (fa : Addr) (h : Heap), YP w h → h.Ns mainGlobals mg → mg d.name = some (.ref fa) →
      ∃ (K : PySem.W.Frag) (fd : FuncData) (F : Fn), K.In h ∧ (∀ (s : Shared) (u : Value), BindsTo s fd ⟨[u], []⟩ [(x, u)]) ∧ (∀ ns : List Int, ns.length ≤ n → ∃ m', F [.frz (ns.map D.int)] [] = some (.val (.bl true), m')) ∧
        ∀ base : Heap, K.In base → base.Ns mainGlobals mg → FnG l.prog w K mg base CX0 k fa fd [x] (spF K 1 F)) :
    PySem.W.WalkO q loose XP YP l.row.toRowW d [] (fun f vs => PySem.call f vs) := by
  refine Att.attach_call hn hdf fun w s0 s mg mb fa o pm cd doc a vs ns g Y _ _ _ hmg hobj hi hle hgen => ?_
  obtain ⟨K, fd, F, KX, hb, hF, hG⟩ := G w mg fa _ Y g.T.g hmg
  exact law_G KX g.T.g g.T.b g.T.builtins g.T.nolimit hgen hobj hi (Nat.le_trans hle hz) hr hG hb (hF ns hle)
end Nb

/-! Nb20: what a head tells -/
namespace Nb
open PySem PySem.Spec PyProof.Rows L2
def gv (fs : List (Str × Nat × Fn)) (cs : List (Str × D)) : Gv := ⟨fun x => fs.lookup x, fun x => cs.lookup x⟩
def bltFa : List He.Fa := bltNames.map .free
theorem blt_of {K : PySem.W.Frag} {h : Heap} {mg : Str → Option Value} {fx : List He.Fa} {fn : List He.DefD} (X : K.In h) (G : h.Ns mainGlobals mg) (c : He.SaysD (bltFa ++ fx) fn K) : ∀ x ∈ bltNames, mg x = none := by
  intro x hx
  obtain ⟨i, hi, e⟩ := List.mem_iff_getElem.mp hx
  refine He.free_ok X G (c.fact i (f := .free x) ?_)
  have hl : i < bltFa.length := by
    unfold bltFa
    rw [List.length_map]
    exact hi
  rw [List.getElem?_append_left hl]
  unfold bltFa
  rw [List.getElem?_map, List.getElem?_eq_getElem hi, e]
  rfl
/-- the module's constants -/
def ConsL (K : PySem.W.Frag) (mg : Str → Option Value) : List (Str × D) → Prop
  | [] => True
  | p :: ps => (∃ u v, mg p.1 = some u ∧ RelV v u ∧ ∀ mu H, Rep K mu H p.2 v) ∧ ConsL K mg ps
theorem ConsL.of {K : PySem.W.Frag} {mg : Str → Option Value} : ∀ {cs : List (Str × D)}, ConsL K mg cs → ∀ (x : Str) (d : D), cs.lookup x = some d → ∃ u v, mg x = some u ∧ RelV v u ∧ ∀ mu H, Rep K mu H d v
  | [], _, x, d, h => by cases h
  | (y, e) :: ps, c, x, d, h => by
    rw [List.lookup_cons] at h
    cases hxy : (x == y) with
    | true =>
      rw [hxy] at h
      cases h
      have : x = y := by simpa using hxy
      rw [this]
      exact c.1
    | false =>
      rw [hxy] at h
      exact ConsL.of c.2 x d h
section
variable {P : Program} {w : World} {K : PySem.W.Frag} {mg : Str → Option Value} {base : Heap} {cs : List (Str × D)} {fs : List (Str × Nat × Fn)} {k : Nat}
theorem Md.init (hc : ConsL K mg cs) (hb : ∀ x ∈ bltNames, mg x = none) : Md P w K mg base (gv [] cs) 0 := ⟨(fun _ _ _ e => nomatch e), hc.of, hb⟩
theorem Md.add {x : Str} {n j : Nat} {F : Fn} {f : Addr} {fd : FuncData} {ps : List Str} (M : Md P w K mg base (gv fs cs) k) (hg : mg x = some (.ref f)) (hk : PySem.W.keepIn K (.ref f) = true) (hb : Binds K fd ps []) (G : FnG P w K mg base CX0 j f fd ps (spF K n F)) (hj : j ≤ k) :
    Md P w K mg base (gv ((x, n, F) :: fs) cs) k := by
  refine ⟨fun y n' F' e => ?_, M.cons, M.blt⟩
  have e : ((x, n, F) :: fs).lookup y = some (n', F') := e
  rw [List.lookup_cons] at e
  cases hxy : (y == x) with
  | true =>
    rw [hxy] at e
    cases e
    have : y = x := by simpa using hxy
    rw [this]
    exact ⟨j, f, fd, ps, hj, hg, hk, hb, G⟩
  | false =>
    rw [hxy] at e
    exact M.fns y n' F' e
theorem rec_G {x qual : Str} {params : Arguments} {body : List Stmt} {scope : Scope} {f : Addr} {fd : FuncData} {N ps : List Str} {ss : List S} (M : Md P w K mg base (gv fs cs) k) (hg : mg x = some (.ref f)) (hk : PySem.W.keepIn K (.ref f) = true) (hb : Binds K fd ps [])
    (F : FunD K x qual params body scope [] [] f fd) (S : FnScope N ps scope) (chk : chkSs ss ⟨N, scope.names, N⟩ body = true) : ∀ j, FnG P w K mg base CX0 (k + j) f fd ps (spF K ps.length (recF (fun F => gv ((x, ps.length, F) :: fs) cs) N.length ss j))
  | 0 => FnG.never
  | j + 1 => def_G ((M.up (Nat.le_add_right k j)).add hg hk hb (rec_G M hg hk hb F S chk j) (Nat.le_refl _)) F S chk
end
/-! ### constants -/
mutual
def cstB (K : PySem.W.Frag) : D → Value → Bool
  | .non, .none => true
  | .bl b, .bool c => decide (b = c)
  | .int i, .int j _ => decide (i = j)
  | .str x, .str y _ => decide (x = y)
  | .tup ds, .ref a => match K.lookup a with
    | some ⟨.type c, none, .seq its _, sl⟩ => decide (c = "tuple") && sl.isEmpty && decide (its.size ≤ sizeLine) && cstL K ds its.toList
    | _ => false
  | _, _ => false
def cstL (K : PySem.W.Frag) : List D → List Value → Bool
  | [], [] => true
  | d :: ds, v :: vs => cstB K d v && cstL K ds vs
  | _, _ => false
end
mutual
theorem cstB_ok {K : PySem.W.Frag} : ∀ {d : D} {u : Value}, cstB K d u = true → ∃ v, RelV v u ∧ ∀ mu H, Rep K mu H d v
  | .non, u, h => by
    cases u <;> simp [cstB] at h
    exact ⟨.non, rfl, fun _ _ => .non⟩
  | .bl b, u, h => by
    cases u <;> simp [cstB] at h
    subst h
    exact ⟨.bl _, rfl, fun _ _ => .bl _⟩
  | .int b, u, h => by
    cases u <;> simp [cstB] at h
    subst h
    exact ⟨.int _, ⟨_, rfl⟩, fun _ _ => .int _⟩
  | .str b, u, h => by
    cases u <;> simp [cstB] at h
    subst h
    exact ⟨.str _, ⟨_, rfl⟩, fun _ _ => .str _⟩
  | .tup ds, u, h => by
    cases u with
    | ref a =>
      unfold cstB at h
      split at h
      · rename_i c its n sl e
        simp only [Bool.and_eq_true, decide_eq_true_eq] at h
        obtain ⟨⟨⟨h1, h2⟩, h3⟩, h4⟩ := h
        obtain ⟨vs, r, rep⟩ := cstL_ok h4
        subst h1
        have h2 := Array.isEmpty_iff.mp h2
        subst h2
        exact ⟨.ref a, rfl, fun mu H => .tup (.inr ⟨its, n, e, h3, r⟩) (rep mu H)⟩
      · cases h
    | _ => simp [cstB] at h
  | .frz _, u, h => by simp [cstB] at h
  | .ref _, u, h => by simp [cstB] at h
theorem cstL_ok {K : PySem.W.Frag} : ∀ {ds : List D} {us : List Value}, cstL K ds us = true → ∃ vs, Vals vs us ∧ ∀ mu H, RepL K mu H ds vs
  | [], us, h => by
    cases us with
    | nil => exact ⟨[], .nil, fun _ _ => .nil⟩
    | cons _ _ => simp [cstL] at h
  | d :: ds, us, h => by
    cases us with
    | nil => simp [cstL] at h
    | cons u us =>
      simp only [cstL, Bool.and_eq_true] at h
      obtain ⟨v, r1, r2⟩ := cstB_ok h.1
      obtain ⟨vs, q1, q2⟩ := cstL_ok h.2
      exact ⟨v :: vs, .cons r1 q1, fun mu H => .cons (r2 mu H) (q2 mu H)⟩
end
def cstsB (cs : List (Str × D)) (K : PySem.W.Frag) : Bool := cs.all fun p => match PySem.W.nsIn K mainGlobals p.1 with
  | some (some u) => cstB K p.2 u
  | _ => false
theorem consL_of {K : PySem.W.Frag} {h : Heap} {mg : Str → Option Value} (X : K.In h) (G : h.Ns mainGlobals mg) : ∀ {cs : List (Str × D)}, cstsB cs K = true → ConsL K mg cs
  | [], _ => trivial
  | p :: ps, c => by
    unfold cstsB at c
    rw [List.all_cons, Bool.and_eq_true] at c
    refine ⟨?_, consL_of X G c.2⟩
    have c1 := c.1
    split at c1
    · rename_i u e
      obtain ⟨v, r1, r2⟩ := cstB_ok c1
      exact ⟨u, v, PySem.W.mg_of X G e, r1, r2⟩
    · cases c1
/-! ### the head's word: facts, defs, constants -/
abbrev AlN : Type := He.AlD × Bool
def obsN (n : Nat) (fa : List He.Fa) (fn : List He.DefD) (ex : PySem.W.Frag → Bool) (g : Addr → Option Obj) : AlN := (He.obsD fa fn (He.frG g (He.asD g n)), ex (He.frG g (He.asD g n)))
def hookN (n : Nat) (fa : List He.Fa) (fn : List He.DefD) (ex : PySem.W.Frag → Bool) : PySem.W.Hook where
  α := AlN
  obs := fun s => obsN n fa fn ex s.heap.get?
  val := fun _ => (He.valD fn, true)
  says := fun _ h => ∃ K : PySem.W.Frag, K.In h ∧ He.SaysD fa fn K ∧ ex K = true
  of := fun _ _ e => ⟨_, He.frG_in, congrArg (fun z : AlN => z.1) e, congrArg (fun z : AlN => z.2) e⟩
  keeps := fun _ _ _ h k => by
    obtain ⟨K, h1, h2⟩ := h
    exact ⟨K, PySem.W.Frag.In.keeps h1 k, h2⟩
theorem obsN_eq {n : Nat} {fa : List He.Fa} {fn : List He.DefD} {ex : PySem.W.Frag → Bool} {g : Addr → Option Obj} {s : Shared} (h : ∀ a, g a = s.heap.get? a) : obsN n fa fn ex g = (hookN n fa fn ex).obs s := by
  have e : g = s.heap.get? := funext h
  rw [e] <;> rfl
end Nb

/-! Nb21: runs in plain Lean -/
namespace Nb
open PySem PySem.Spec L2
section
variable {m : Mm} {n : Nat} {ds : List D}
theorem atI_0 {a : D} {l : List D} : atI (a :: l) 0 = some a := by
  unfold atI ixN
  rw [if_pos (by decide), if_pos (by rw [List.length_cons]; omega)]
  rfl
theorem atI_1 {a b : D} {l : List D} : atI (a :: b :: l) 1 = some b := by
  unfold atI ixN
  rw [if_pos (by decide), if_pos (by simp only [List.length_cons]; omega)]
  rfl
theorem atI_2 {a b c : D} {l : List D} : atI (a :: b :: c :: l) 2 = some c := by
  unfold atI ixN
  rw [if_pos (by decide), if_pos (by simp only [List.length_cons]; omega)]
  rfl
theorem atI_3 {a b c d : D} {l : List D} : atI (a :: b :: c :: d :: l) 3 = some d := by
  unfold atI ixN
  rw [if_pos (by decide), if_pos (by simp only [List.length_cons]; omega)]
  rfl
theorem atI_nat {α : Type} {l : List α} {k : Nat} : atI l (k : Int) = l[k]? := by
  unfold atI ixN
  rw [if_pos (Int.natCast_nonneg k)]
  by_cases h : k < l.length
  · rw [if_pos (by omega)]
    rfl
  · rw [if_neg (by omega), List.getElem?_eq_none_iff.mpr (by omega)]
    rfl
theorem atI_lt {α : Type} {l : List α} {i : Int} (h0 : 0 ≤ i) (h1 : i < l.length) : ∃ x, atI l i = some x ∧ x ∈ l ∧ l[i.toNat]? = some x := by
  obtain ⟨k, rfl⟩ := Int.eq_ofNat_of_zero_le h0
  rw [atI_nat]
  have hk : k < l.length := by omega
  rw [Int.toNat_natCast]
  exact ⟨l[k], List.getElem?_eq_getElem hk, List.getElem_mem hk, List.getElem?_eq_getElem hk⟩
theorem ix_lst {i : Int} (h : m[n]? = some (.lst ds)) : ixO m (.val (.ref n)) (.val (.int i)) = atI ds i := by
  unfold ixO dctO
  simp only [h, bndO, strO, seqO, Option.bind_some]
theorem ix_tup {i : Int} : ixO m (.val (.tup ds)) (.val (.int i)) = atI ds i := rfl
theorem ix_frz {i : Int} : ixO m (.val (.frz ds)) (.val (.int i)) = atI ds i := rfl
theorem ix_tmp {i : Int} : ixO m (.tmp ds) (.val (.int i)) = atI ds i := rfl
theorem ix_dic {kvs : List (Key × D)} {d : D} (h : m[n]? = some (.dct kvs)) : ixO m (.val (.ref n)) (.val d) = (keyD d).bind fun k => kvGet k kvs := by
  unfold ixO dctO
  simp only [h]
theorem len_lst (h : m[n]? = some (.lst ds)) : lenO m (.val (.ref n)) = some ds.length := by
  unfold lenO dctO
  simp only [h, strO, seqO, Option.map_some]
theorem len_tup : lenO m (.val (.tup ds)) = some ds.length := rfl
theorem len_frz : lenO m (.val (.frz ds)) = some ds.length := rfl
theorem len_tmp : lenO m (.tmp ds) = some ds.length := rfl
theorem len_dct {kvs : List (Key × D)} (h : m[n]? = some (.dct kvs)) : lenO m (.val (.ref n)) = some kvs.length := by
  unfold lenO dctO
  simp only [h]
theorem put_lst {i : Int} {d : D} (h : m[n]? = some (.lst ds)) : putO m (.val (.ref n)) (.val (.int i)) d = (ixN ds.length i).map fun k => m.set n (.lst (ds.set k d)) := by
  unfold putO
  simp only [h, bndO, Option.bind_some]
theorem put_dct {kvs : List (Key × D)} {k d : D} (h : m[n]? = some (.dct kvs)) : putO m (.val (.ref n)) (.val k) d = (keyD k).bind fun k => if kvs.length < sizeLine then some (m.set n (.dct (kvPut k d kvs))) else none := by
  unfold putO
  simp only [h]
theorem ixN_0 {l : Nat} : ixN (l + 1) 0 = some 0 := by
  unfold ixN
  rw [if_pos (by decide), if_pos (by omega)]
  rfl
theorem ixN_1 {l : Nat} : ixN (l + 1 + 1) 1 = some 1 := by
  unfold ixN
  rw [if_pos (by decide), if_pos (by omega)]
  rfl
theorem ixN_2 {l : Nat} : ixN (l + 1 + 1 + 1) 2 = some 2 := by
  unfold ixN
  rw [if_pos (by decide), if_pos (by omega)]
  rfl
theorem upd_lst {f : List D → Option (List D)} (h : m[n]? = some (.lst ds)) : updL m (.val (.ref n)) f = (f ds).map fun es => m.set n (.lst es) := by
  unfold updL
  simp only [h]
theorem lst_ref (h : m[n]? = some (.lst ds)) : lstO m (.val (.ref n)) = some ds := by
  unfold lstO
  simp only [h]
theorem seq_ref (h : m[n]? = some (.lst ds)) : seqO m (.val (.ref n)) = some ds := by
  unfold seqO
  simp only [h]
theorem dct_ref {kvs : List (Key × D)} (h : m[n]? = some (.dct kvs)) : dctO m (.val (.ref n)) = some kvs := by
  unfold dctO
  simp only [h]
theorem dct_lst (h : m[n]? = some (.lst ds)) : dctO m (.val (.ref n)) = none := by
  unfold dctO
  simp only [h]
theorem wk_ref (h : m[n]? = some (.lst ds)) : wkO m (.val (.ref n)) = some (ds, some n) := by
  unfold wkO
  simp only [h]
theorem get_set {a : MO} (h : n < m.length) : (m.set n a)[n]? = some a := by
  rw [List.getElem?_set_self h]
theorem get_new {a : MO} : (m ++ [a])[m.length]? = some a := by
  rw [List.getElem?_append_right (Nat.le_refl _), Nat.sub_self]
  rfl
theorem get_old {a : List MO} {o : MO} (h : m[n]? = some o) : (m ++ a)[n]? = some o := by
  rw [List.getElem?_append_left (List.getElem?_eq_some_iff.mp h).1]
  exact h
theorem lt_of_get {o : MO} (h : m[n]? = some o) : n < m.length := (List.getElem?_eq_some_iff.mp h).1
theorem stow_val {d : D} : stow (.val d) m = (d, m) := rfl
theorem stow_tmp : stow (.tmp ds) m = (.ref m.length, m ++ [.lst ds]) := rfl
theorem cmp_int {o : COp} {i j : Int} : cmpO m o (.val (.int i)) (.val (.int j)) = match o with
    | .eq => some (decide (i = j))
    | .ne => some (!decide (i = j))
    | .lt => some (decide (i < j))
    | .le => some (!decide (j < i))
    | .gt => some (decide (j < i))
    | .ge => some (!decide (i < j))
    | .is => none
    | .isn => none
    | .isin => none
    | .notin => none := by
  cases o <;> rfl
theorem bop_int {o : BOp} {i j : Int} : bopO m o (.val (.int i)) (.val (.int j)) = (bopI o i j).map fun k => .val (.int k) := rfl
end
def s_draw : List S := [
  .ife (.cmp .gt (.ix (.var 0) (.int 2)) (.int 0)) [
    .asg (.n 5) (.bop .mod (.ix (.var 0) (.int 2)) (.var 1)), 
    .sub (.var 0) (.int 2) (.bop .fdiv (.ix (.var 0) (.int 2)) (.var 1)), 
    .ret (.var 5)] [], 
  .asg (.n 2) (.ix (.var 0) (.int 1)), 
  .sub (.var 0) (.int 1) (.bop .add (.var 2) (.int 1)), 
  .asg (.n 3) (.int 0), 
  .ife (.cmp .gt (.blt .len (.ix (.var 0) (.int 0))) (.int 0)) [
    .asg (.n 3) (.ix (.ix (.var 0) (.int 0)) (.bop .mod (.var 2) (.blt .len (.ix (.var 0) (.int 0)))))] [], 
  .ife (.and [.cmp .ge (.var 3) (.bop .pow (.int 10) (.int 18)), .cmp .lt (.var 2) (.blt .len (.ix (.var 0) (.int 0)))]) [
    .sub (.var 0) (.int 2) (.bop .fdiv (.var 3) (.var 1)), 
    .ret (.bop .mod (.var 3) (.var 1))] [], 
  .asg (.n 4) (.bop .mod (.bop .mul (.bop .add (.bop .add (.bop .mod (.var 3) (.int 999331)) (.bop .mul (.bop .mul (.int 29) (.var 2)) (.var 2))) (.int 11)) (.int 40692)) (.int 999961)), 
  .ret (.bop .mod (.bop .mod (.bop .mul (.bop .mod (.bop .add (.bop .mul (.var 4) (.int 48271)) (.bop .mul (.var 2) (.int 6271))) (.int 999953)) (.int 16807)) (.int 524287)) (.var 1))]
/-- a draw -/
theorem draw {g : Gv} {m : Mm} {n k : Nat} {ns : List Int} {spot rest many : Int} {tl : List D} (h : m[n]? = some (.lst (.ref k :: .int spot :: .int rest :: tl))) (hk : m[k]? = some (.lst (ns.map D.int))) (hn : n ≠ k)
    (h0 : 0 < many) (h1 : many < 1000000) (s0 : 0 ≤ spot) (s1 : spot < 2 ^ 62) :
    ∃ r spot' rest', runF g 6 s_draw [.ref n, .int many] m = some (.val (.int r), m.set n (.lst (.ref k :: .int spot' :: .int rest' :: tl))) ∧ 0 ≤ r ∧ r < many ∧ spot ≤ spot' ∧ spot' ≤ spot + 1 := by
  have hl := lt_of_get h
  have c1 : 0 < many ∧ many < 1073741824 := ⟨h0, by omega⟩
  have md : ∀ i : Int, 0 ≤ i % many ∧ i % many < many := fun i => ⟨Int.emod_nonneg _ (by omega), Int.emod_lt_of_pos _ h0⟩
  unfold runF s_draw
  by_cases hr : 0 < rest
  · refine ⟨rest % many, spot, rest / many, ?_, (md _).1, (md _).2, Int.le_refl _, by omega⟩
    simp only [evSs, evS, evE, evA, evAnd, evOr, evP, evI, tst, bindT, bindTs, stow_val, stow_tmp, truO, bltO, bop_int, bopI, cmp_int, ix_tup, ix_frz, ix_tmp, len_tup, len_frz, len_tmp, atI_0, atI_1, atI_2, atI_3, ixN_0, ixN_1, ixN_2, Option.bind_some, Option.map_some, Option.bind_none, Option.map_none, List.getElem?_cons_zero, List.getElem?_cons_succ, List.set_cons_zero, List.set_cons_succ, List.length_cons, List.length_nil, List.length_map, if_true, if_false, decide_true, decide_false, Bool.not_true, Bool.not_false, Bool.false_eq_true, reduceIte, List.map_cons, List.map_nil, List.cons_append, List.nil_append, List.replicate, Nat.sub_self, Nat.reduceSub, Nat.reduceAdd, Int.reduceAdd, Int.reducePow, Int.reduceToNat, Int.reduceLE, Int.reduceLT, Nat.reduceLT, Nat.reduceLeDiff, Nat.reducePow, Int.reduceSub, Int.reduceMul, Int.reduceEq, Nat.reduceEqDiff, and_self, true_and, and_true, or_true, true_or, Int.reduceNeg, ix_lst h, hr, h0, c1, put_lst h]
  · have hm : ∀ x : MO, (m.set n x)[n]? = some x := fun x => get_set hl
    have hk' : ∀ x : MO, (m.set n x)[k]? = some (.lst (ns.map D.int)) := fun x => by
      rw [List.getElem?_set_ne hn]
      exact hk
    have cS : -18446744073709551616 < spot ∧ spot < 18446744073709551616 := ⟨by omega, by omega⟩
    have n10 : Int.natAbs 10 = 10 := rfl
    have p10 : ((10 : Int) ^ (18 : Nat)) = 1000000000000000000 := by decide
    by_cases hL : (0 : Int) < (ns.length : Int)
    · obtain ⟨x, hx, hx2, _⟩ := atI_lt (l := ns.map D.int) (i := spot % (ns.length : Int)) (Int.emod_nonneg _ (by omega)) (by rw [List.length_map]; exact Int.emod_lt_of_pos _ hL)
      obtain ⟨c, _, rfl⟩ := List.mem_map.mp hx2
      by_cases hc : c < 1000000000000000000
      · apply Exists.intro; refine ⟨spot + 1, rest, ?_, ?_, ?_, by omega, Int.le_refl _⟩
        · simp only [evSs, evS, evE, evA, evAnd, evOr, evP, evI, tst, bindT, bindTs, stow_val, stow_tmp, truO, bltO, bop_int, bopI, cmp_int, ix_tup, ix_frz, ix_tmp, len_tup, len_frz, len_tmp, atI_0, atI_1, atI_2, atI_3, ixN_0, ixN_1, ixN_2, Option.bind_some, Option.map_some, Option.bind_none, Option.map_none, List.getElem?_cons_zero, List.getElem?_cons_succ, List.set_cons_zero, List.set_cons_succ, List.length_cons, List.length_nil, List.length_map, if_true, if_false, decide_true, decide_false, Bool.not_true, Bool.not_false, Bool.false_eq_true, reduceIte, List.map_cons, List.map_nil, List.cons_append, List.nil_append, List.replicate, Nat.sub_self, Nat.reduceSub, Nat.reduceAdd, Int.reduceAdd, Int.reducePow, Int.reduceToNat, Int.reduceLE, Int.reduceLT, Nat.reduceLT, Nat.reduceLeDiff, Nat.reducePow, Int.reduceSub, Int.reduceMul, Int.reduceEq, Nat.reduceEqDiff, and_self, true_and, and_true, or_true, true_or, Int.reduceNeg, ix_lst h, hr, h0, c1, put_lst h, ix_lst (hm _), ix_lst (hk' _), len_lst (hk' _), hL, hx, cS, n10, p10, hc]
          rfl
        · exact (md _).1
        · exact (md _).2
      · by_cases hs : spot < (ns.length : Int)
        · apply Exists.intro; refine ⟨spot + 1, c / many, ?_, ?_, ?_, by omega, Int.le_refl _⟩
          · simp only [evSs, evS, evE, evA, evAnd, evOr, evP, evI, tst, bindT, bindTs, stow_val, stow_tmp, truO, bltO, bop_int, bopI, cmp_int, ix_tup, ix_frz, ix_tmp, len_tup, len_frz, len_tmp, atI_0, atI_1, atI_2, atI_3, ixN_0, ixN_1, ixN_2, Option.bind_some, Option.map_some, Option.bind_none, Option.map_none, List.getElem?_cons_zero, List.getElem?_cons_succ, List.set_cons_zero, List.set_cons_succ, List.length_cons, List.length_nil, List.length_map, if_true, if_false, decide_true, decide_false, Bool.not_true, Bool.not_false, Bool.false_eq_true, reduceIte, List.map_cons, List.map_nil, List.cons_append, List.nil_append, List.replicate, Nat.sub_self, Nat.reduceSub, Nat.reduceAdd, Int.reduceAdd, Int.reducePow, Int.reduceToNat, Int.reduceLE, Int.reduceLT, Nat.reduceLT, Nat.reduceLeDiff, Nat.reducePow, Int.reduceSub, Int.reduceMul, Int.reduceEq, Nat.reduceEqDiff, and_self, true_and, and_true, or_true, true_or, Int.reduceNeg, ix_lst h, hr, h0, c1, put_lst h, ix_lst (hm _), ix_lst (hk' _), len_lst (hk' _), hL, hx, cS, n10, p10, hc, hs, put_lst (hm _), List.set_set]
            rfl
          · exact (md _).1
          · exact (md _).2
        · apply Exists.intro; refine ⟨spot + 1, rest, ?_, ?_, ?_, by omega, Int.le_refl _⟩
          · simp only [evSs, evS, evE, evA, evAnd, evOr, evP, evI, tst, bindT, bindTs, stow_val, stow_tmp, truO, bltO, bop_int, bopI, cmp_int, ix_tup, ix_frz, ix_tmp, len_tup, len_frz, len_tmp, atI_0, atI_1, atI_2, atI_3, ixN_0, ixN_1, ixN_2, Option.bind_some, Option.map_some, Option.bind_none, Option.map_none, List.getElem?_cons_zero, List.getElem?_cons_succ, List.set_cons_zero, List.set_cons_succ, List.length_cons, List.length_nil, List.length_map, if_true, if_false, decide_true, decide_false, Bool.not_true, Bool.not_false, Bool.false_eq_true, reduceIte, List.map_cons, List.map_nil, List.cons_append, List.nil_append, List.replicate, Nat.sub_self, Nat.reduceSub, Nat.reduceAdd, Int.reduceAdd, Int.reducePow, Int.reduceToNat, Int.reduceLE, Int.reduceLT, Nat.reduceLT, Nat.reduceLeDiff, Nat.reducePow, Int.reduceSub, Int.reduceMul, Int.reduceEq, Nat.reduceEqDiff, and_self, true_and, and_true, or_true, true_or, Int.reduceNeg, ix_lst h, hr, h0, c1, put_lst h, ix_lst (hm _), ix_lst (hk' _), len_lst (hk' _), hL, hx, cS, n10, p10, hc, hs]
            rfl
          · exact (md _).1
          · exact (md _).2
    · apply Exists.intro; refine ⟨spot + 1, rest, ?_, ?_, ?_, by omega, Int.le_refl _⟩
      · simp only [evSs, evS, evE, evA, evAnd, evOr, evP, evI, tst, bindT, bindTs, stow_val, stow_tmp, truO, bltO, bop_int, bopI, cmp_int, ix_tup, ix_frz, ix_tmp, len_tup, len_frz, len_tmp, atI_0, atI_1, atI_2, atI_3, ixN_0, ixN_1, ixN_2, Option.bind_some, Option.map_some, Option.bind_none, Option.map_none, List.getElem?_cons_zero, List.getElem?_cons_succ, List.set_cons_zero, List.set_cons_succ, List.length_cons, List.length_nil, List.length_map, if_true, if_false, decide_true, decide_false, Bool.not_true, Bool.not_false, Bool.false_eq_true, reduceIte, List.map_cons, List.map_nil, List.cons_append, List.nil_append, List.replicate, Nat.sub_self, Nat.reduceSub, Nat.reduceAdd, Int.reduceAdd, Int.reducePow, Int.reduceToNat, Int.reduceLE, Int.reduceLT, Nat.reduceLT, Nat.reduceLeDiff, Nat.reducePow, Int.reduceSub, Int.reduceMul, Int.reduceEq, Nat.reduceEqDiff, and_self, true_and, and_true, or_true, true_or, Int.reduceNeg, ix_lst h, hr, h0, c1, put_lst h, ix_lst (hm _), ix_lst (hk' _), len_lst (hk' _), hL, cS, n10, p10]
        rfl
      · exact (md _).1
      · exact (md _).2
end Nb

/-! Nb22: plain data; loops -/
namespace Nb
open PySem PySem.Spec L2
mutual
def szD : D → Nat
  | .non => 5
  | .bl _ => 5
  | .int _ => 1921
  | .str x => 10 * x.length + 2
  | .tup ds => szDs ds + 4
  | .frz ds => szDs ds + 4
  | .ref _ => 0
def szDs : List D → Nat
  | [] => 0
  | d :: ds => szD d + 2 + szDs ds
end
mutual
/-- no reference, no int of many digits, texts of signs -/
def okD : D → Bool
  | .non => true
  | .bl _ => true
  | .int i => decide (i.natAbs.log2 < 1920)
  | .str x => PyData.strOk x
  | .tup ds => okDs ds
  | .frz ds => okDs ds
  | .ref _ => false
def okDs : List D → Bool
  | [] => true
  | d :: ds => okD d && okDs ds
end
mutual
def dpD : D → Nat
  | .tup ds => dpDs ds + 1
  | .frz ds => dpDs ds + 1
  | _ => 0
def dpDs : List D → Nat
  | [] => 0
  | d :: ds => max (dpD d) (dpDs ds)
end
mutual
def pdD : D → PyData
  | .non => .none
  | .bl b => .bool b
  | .int i => .int i
  | .str x => .str x
  | .tup ds => .tuple (pdDs ds)
  | .frz ds => .list (pdDs ds)
  | .ref _ => .none
def pdDs : List D → List PyData
  | [] => []
  | d :: ds => pdD d :: pdDs ds
end
mutual
theorem pd_dp (r : Nat → Option PyData) : ∀ d : D, okD d = true → dp r d = some (pdD d)
  | .non, _ => rfl
  | .bl _, _ => rfl
  | .int _, _ => rfl
  | .str _, _ => rfl
  | .tup ds, h => by
    simp only [okD] at h
    simp only [dp, pd_dps r ds h, pdD, Option.map_some]
  | .frz ds, h => by
    simp only [okD] at h
    simp only [dp, pd_dps r ds h, pdD, Option.map_some]
  | .ref _, h => by cases h
theorem pd_dps (r : Nat → Option PyData) : ∀ ds : List D, okDs ds = true → dps r ds = some (pdDs ds)
  | [], _ => rfl
  | d :: ds, h => by
    simp only [okDs, Bool.and_eq_true] at h
    simp only [dps, pd_dp r d h.1, pd_dps r ds h.2, pdDs, Option.map_some, Option.bind_some]
end
mutual
theorem pd_lay : ∀ d : D, okD d = true → (pdD d).canLay0 = true ∧ (pdD d).depth = dpD d ∧ (pdD d).showable = true ∧ (pdD d).hasDict = false
  | .non, _ => ⟨rfl, rfl, rfl, rfl⟩
  | .bl _, _ => ⟨rfl, rfl, rfl, rfl⟩
  | .int i, h => ⟨rfl, rfl, by simpa only [okD, pdD, PyData.showable] using h, rfl⟩
  | .str x, h => ⟨by simpa only [okD, pdD, PyData.canLay0] using h, rfl, rfl, rfl⟩
  | .tup ds, h => by
    simp only [okD] at h
    obtain ⟨h1, h2, h3, h4⟩ := pd_lays ds h
    exact ⟨by simpa only [pdD, PyData.canLay0] using h1, by simpa only [pdD, PyData.depth, dpD, Nat.add_right_cancel_iff] using h2, by simpa only [pdD, PyData.showable] using h3, by simpa only [pdD, PyData.hasDict] using h4⟩
  | .frz ds, h => by
    simp only [okD] at h
    obtain ⟨h1, h2, h3, h4⟩ := pd_lays ds h
    exact ⟨by simpa only [pdD, PyData.canLay0] using h1, by simpa only [pdD, PyData.depth, dpD, Nat.add_right_cancel_iff] using h2, by simpa only [pdD, PyData.showable] using h3, by simpa only [pdD, PyData.hasDict] using h4⟩
  | .ref _, h => by cases h
theorem pd_lays : ∀ ds : List D, okDs ds = true → PyData.canLayAll0 (pdDs ds) = true ∧ PyData.depthAll (pdDs ds) = dpDs ds ∧ PyData.showableAll (pdDs ds) = true ∧ PyData.hasDictAll (pdDs ds) = false
  | [], _ => ⟨rfl, rfl, rfl, rfl⟩
  | d :: ds, h => by
    simp only [okDs, Bool.and_eq_true] at h
    obtain ⟨h1, h2, h3, h4⟩ := pd_lay d h.1
    obtain ⟨g1, g2, g3, g4⟩ := pd_lays ds h.2
    simp only [pdDs, PyData.canLayAll0, PyData.depthAll, PyData.showableAll, PyData.hasDictAll, dpDs, h1, h2, h3, h4, g1, g2, g3, g4, Bool.and_self, Bool.or_self]
    exact ⟨trivial, trivial, trivial, trivial⟩
end
theorem join_le {ts : List Str} : (Str.join ", " ts).length ≤ (ts.map fun t => t.length + 2).sum := by
  induction ts with
  | nil => exact Nat.le_refl _
  | cons t r ih =>
    cases r with
    | nil =>
      show t.length ≤ _
      simp only [List.map_cons, List.sum_cons]
      omega
    | cons u r =>
      show (t ++ ", " ++ Str.join ", " (u :: r)).length ≤ _
      have e : ((", " : String) : Str).length = 2 := rfl
      rw [strLen_append, strLen_append, e, List.map_cons, List.sum_cons]
      omega
theorem from_le : ∀ (ts : List Str) (k : Nat) (acc : Str), (textFrom k acc ts).length ≤ acc.length + (ts.map fun t => t.length + 2).sum
  | [], k, acc => by
    show acc.length ≤ _
    omega
  | t :: r, k, acc => by
    have h := from_le r (k + 1) (acc ++ (if k > 0 then ", " else "" : String) ++ t)
    have e : ((acc ++ (if k > 0 then ", " else "" : String) ++ t : Str)).length ≤ acc.length + (t.length + 2) := by
      rw [strLen_append, strLen_append]
      have : ((((if k > 0 then ", " else "" : String)) : Str)).length ≤ 2 := by split <;> decide
      omega
    show (textFrom (k + 1) (acc ++ (if k > 0 then ", " else "" : String) ++ t) r).length ≤ _
    rw [List.map_cons, List.sum_cons]
    omega
mutual
theorem pd_len : ∀ d : D, okD d = true → (pdD d).shown.length ≤ szD d
  | .non, _ => by decide
  | .bl true, _ => by decide
  | .bl false, _ => by decide
  | .int i, h => by
    simp only [okD, decide_eq_true_eq] at h
    exact PyProof.Rows.int_text_len_1921 h
  | .str x, h => by
    simp only [okD] at h
    refine StrLaws.reprText_len x fun c hc => ?_
    have := (Array.all_eq_true_iff_forall_mem.mp h) c (Array.mem_toList_iff.mp hc)
    have := of_decide_eq_true this
    have e : (16 : Nat) ^ 8 = 4294967296 := by decide
    omega
  | .tup ds, h => by
    simp only [okD] at h
    have := pd_lens ds h
    show (tupleText (PyData.shownAll (pdDs ds))).length ≤ szDs ds + 4
    unfold tupleText
    rw [strLen_append, strLen_append]
    have j := join_le (ts := PyData.shownAll (pdDs ds))
    have e1 : ((("(" : String) : Str)).length = 1 := rfl
    have e3 : ((((if (PyData.shownAll (pdDs ds)).length == 1 then ",)" else ")" : String)) : Str)).length ≤ 2 := by split <;> decide
    omega
  | .frz ds, h => by
    simp only [okD] at h
    have := pd_lens ds h
    show (textFrom 0 "[" (PyData.shownAll (pdDs ds)) ++ "]" : Str).length ≤ szDs ds + 4
    rw [strLen_append]
    have j := from_le (PyData.shownAll (pdDs ds)) 0 "["
    have e1 : ((("[" : String) : Str)).length = 1 := rfl
    have e2 : ((("]" : String) : Str)).length = 1 := rfl
    omega
  | .ref _, h => by cases h
theorem pd_lens : ∀ ds : List D, okDs ds = true → ((PyData.shownAll (pdDs ds)).map fun t => t.length + 2).sum ≤ szDs ds
  | [], _ => Nat.le_refl _
  | d :: ds, h => by
    simp only [okDs, Bool.and_eq_true] at h
    have h1 := pd_len d h.1
    have h2 := pd_lens ds h.2
    show (((pdD d).shown :: PyData.shownAll (pdDs ds)).map fun t => t.length + 2).sum ≤ szD d + 2 + szDs ds
    rw [List.map_cons, List.sum_cons]
    omega
end
theorem repr_val {m : Mm} {d : D} (h : okD d = true) (h1 : dpD d ≤ 64) (h2 : szD d ≤ sizeLine) : reprO m (.val d) = some (pdD d).shown := by
  obtain ⟨g1, g2, g3, g4⟩ := pd_lay d h
  have g5 := pd_len d h
  unfold reprO toP
  simp only [pd_dp _ d h, Option.bind_some, g3, g4, g2, h1, Bool.not_false, Bool.and_true, decide_true, Bool.true_and]
  rw [if_pos]
  exact decide_eq_true (Nat.le_trans g5 h2)
theorem okDs_iff {ds : List D} : okDs ds = true ↔ ∀ d ∈ ds, okD d = true := by
  induction ds with
  | nil => simp [okDs]
  | cons d ds ih => simp [okDs, ih]
theorem okDs_app {ds es : List D} : okDs (ds ++ es) = (okDs ds && okDs es) := by
  induction ds with
  | nil => simp [okDs]
  | cons d ds ih => simp [okDs, ih, Bool.and_assoc]
theorem shaped_val {d : D} (h : okD d = true) (h1 : dpD d ≤ 64) : SeqAt.shaped (pdD d) = true := by
  obtain ⟨g1, g2, _, _⟩ := pd_lay d h
  unfold SeqAt.shaped
  rw [g1, g2]
  exact decide_eq_true h1
/-- xs == [] -/
theorem eq_nil {m : Mm} {f : Nat} {ds : List D} (h : m[f]? = some (.lst ds)) (ho : okDs ds = true) (hd : dpDs ds < 64) : eqO m (.val (.ref f)) (.tmp []) = some ds.isEmpty := by
  obtain ⟨g1, g2, _, _⟩ := pd_lays ds ho
  have e1 : toP m (.val (.ref f)) = some (.list (pdDs ds)) := by
    show rp m 64 f = _
    show (match m[f]? with
      | some (.lst ds) => (dps (rp m 63) ds).map PyData.list
      | _ => none) = _
    rw [h]
    show (dps (rp m 63) ds).map PyData.list = _
    rw [pd_dps _ ds ho]
    rfl
  have e2 : SeqAt.shaped (.list (pdDs ds)) = true := by
    unfold SeqAt.shaped
    simp only [PyData.canLay0, PyData.depth, g1, g2, Bool.true_and]
    exact decide_eq_true (by omega)
  have e3 : SeqAt.shaped (.list []) = true := by decide
  show (match toP m (.val (.ref f)), toP m (.tmp []) with
    | some p, some q => if SeqAt.shaped p && SeqAt.shaped q then some (PyData.eqv p q) else none
    | _, _ => none) = _
  rw [e1]
  show (if SeqAt.shaped (.list (pdDs ds)) && SeqAt.shaped (.list []) then some (PyData.eqv (.list (pdDs ds)) (.list [])) else none) = _
  rw [e2, e3, Bool.and_self, if_pos rfl]
  cases ds <;> rfl
/-! ### dicts -/
theorem kvGet_nil {k : Key} : kvGet k [] = none := rfl
theorem kvGet_cons {k a : Key} {d : D} {r : List (Key × D)} : kvGet k ((a, d) :: r) = if a = k then some d else kvGet k r := by
  unfold kvGet
  by_cases h : a = k
  · rw [List.find?_cons_of_pos (by simpa using h), if_pos h]
    rfl
  · rw [List.find?_cons_of_neg (by simpa using h), if_neg h]
theorem kvGet_map {k k' : Key} {d : D} : ∀ {kvs : List (Key × D)}, kvGet k (kvs.map fun kv => if kv.1 = k' then (kv.1, d) else kv) = if k' = k then (kvGet k kvs).map (fun _ => d) else kvGet k kvs
  | [] => by
    rw [List.map_nil, kvGet_nil]
    split <;> rfl
  | (a, e) :: r => by
    have ih := kvGet_map (k := k) (k' := k') (d := d) (kvs := r)
    rw [List.map_cons]
    by_cases ha : a = k'
    · subst ha
      simp only [if_true, kvGet_cons, ih]
      by_cases hk : a = k
      · subst hk
        simp only [if_true, Option.map_some]
      · simp only [hk, if_false]
    · simp only [ha, if_false, kvGet_cons, ih]
      by_cases hk : k' = k
      · subst hk
        simp only [ha, if_false, if_true]
      · simp only [hk, if_false]
theorem kvGet_app {k a : Key} {d : D} : ∀ {kvs : List (Key × D)}, kvGet k (kvs ++ [(a, d)]) = match kvGet k kvs with
    | some e => some e
    | none => if a = k then some d else none
  | [] => by
    rw [List.nil_append, kvGet_cons, kvGet_nil]
  | (b, e) :: r => by
    rw [List.cons_append, kvGet_cons, kvGet_cons, kvGet_app]
    split <;> rfl
theorem kvGet_any {k : Key} : ∀ {kvs : List (Key × D)}, (kvs.any fun kv => decide (kv.1 = k)) = (kvGet k kvs).isSome
  | [] => rfl
  | (a, e) :: r => by
    rw [List.any_cons, kvGet_cons, kvGet_any]
    by_cases h : a = k
    · simp [h]
    · simp [h]
theorem kvGet_put {k k' : Key} {d : D} {kvs : List (Key × D)} : kvGet k (kvPut k' d kvs) = if k' = k then some d else kvGet k kvs := by
  unfold kvPut
  rw [kvGet_any]
  cases h : kvGet k' kvs with
  | none =>
    rw [if_neg (by simp), kvGet_app]
    by_cases hk : k' = k
    · subst hk
      rw [h]
    · rw [if_neg hk, if_neg hk]
      split <;> simp_all
  | some e =>
    rw [if_pos (by rfl), kvGet_map]
    by_cases hk : k' = k
    · subst hk
      rw [if_pos rfl, if_pos rfl, h]
      rfl
    · rw [if_neg hk, if_neg hk]
theorem kvGet_merge {k : Key} : ∀ {more kvs : List (Key × D)}, kvGet k (mergeD kvs more) = more.foldl (fun acc p => if p.1 = k then some p.2 else acc) (kvGet k kvs)
  | [], _ => rfl
  | (a, d) :: r, kvs => by
    show kvGet k (mergeD (kvPut a d kvs) r) = _
    rw [kvGet_merge, kvGet_put]
    rfl
/-! ### loops -/
theorem loopF_run {ff : D → Fr → Mm → Option (Fl × Fr × Mm)} {gd : Mm → Bool} (I : List D → Fr → Mm → Prop) (Q : Fl × Fr × Mm → Prop) (hg : ∀ ds fr m, I ds fr m → gd m = true)
    (step : ∀ d ds fr m, I (d :: ds) fr m → ∃ q, ff d fr m = some q ∧ match q.1 with
      | .nx => I ds q.2.1 q.2.2
      | .cnt => I ds q.2.1 q.2.2
      | .brk => Q (.nx, q.2)
      | .ret o => Q (.ret o, q.2))
    (done : ∀ fr m, I [] fr m → Q (.nx, fr, m)) : ∀ ds fr m, I ds fr m → ∃ q, loopF ff gd ds fr m = some q ∧ Q q
  | [], fr, m, h => ⟨_, if_pos (hg _ _ _ h), done _ _ h⟩
  | d :: ds, fr, m, h => by
    obtain ⟨q, e, hq⟩ := step d ds fr m h
    obtain ⟨fl, fr', m'⟩ := q
    have e2 : loopF ff gd (d :: ds) fr m = (ff d fr m).bind fun r => match r.1 with
      | .nx => loopF ff gd ds r.2.1 r.2.2
      | .cnt => loopF ff gd ds r.2.1 r.2.2
      | .brk => some (.nx, r.2)
      | .ret o => some (.ret o, r.2) := if_pos (hg _ _ _ h)
    rw [e2, e]
    cases fl with
    | nx => exact loopF_run I Q hg step done ds fr' m' hq
    | cnt => exact loopF_run I Q hg step done ds fr' m' hq
    | brk => exact ⟨_, rfl, hq⟩
    | ret o => exact ⟨_, rfl, hq⟩
theorem loopC_run {ff : D → Mm → Option (Option D × Mm)} {gd : Mm → Bool} (I : List D → List D → Mm → Prop) (hg : ∀ ds acc m, I ds acc m → gd m = true)
    (step : ∀ d ds acc m, I (d :: ds) acc m → ∃ q, ff d m = some q ∧ match q.1 with
      | none => I ds acc q.2
      | some y => acc.length < sizeLine ∧ I ds (acc ++ [y]) q.2) : ∀ ds acc m, I ds acc m → ∃ res m', loopC ff gd ds acc m = some (res, m') ∧ I [] res m'
  | [], acc, m, h => ⟨_, _, if_pos (hg _ _ _ h), h⟩
  | d :: ds, acc, m, h => by
    obtain ⟨q, e, hq⟩ := step d ds acc m h
    obtain ⟨y, m'⟩ := q
    have e2 : loopC ff gd (d :: ds) acc m = (ff d m).bind fun r => match r.1 with
      | none => loopC ff gd ds acc r.2
      | some y => if acc.length < sizeLine then loopC ff gd ds (acc ++ [y]) r.2 else none := if_pos (hg _ _ _ h)
    rw [e2, e]
    cases y with
    | none => exact loopC_run I hg step ds acc m' hq
    | some y =>
      obtain ⟨h1, h2⟩ := hq
      have e3 : (some ((some y : Option D), m')).bind (fun r => match r.1 with
        | none => loopC ff gd ds acc r.2
        | some y => if acc.length < sizeLine then loopC ff gd ds (acc ++ [y]) r.2 else none) = loopC ff gd ds (acc ++ [y]) m' := if_pos h1
      rw [e3]
      exact loopC_run I hg step ds _ m' h2
/-- a loop that runs to its end -/
theorem loopF_go {ff : D → Fr → Mm → Option (Fl × Fr × Mm)} {gd : Mm → Bool} (I : List D → Fr → Mm → Prop) (hg : ∀ ds fr m, I ds fr m → gd m = true)
    (step : ∀ d ds fr m, I (d :: ds) fr m → ∃ fr' m', ff d fr m = some (.nx, fr', m') ∧ I ds fr' m') {ds : List D} {fr : Fr} {m : Mm} (h : I ds fr m) : ∃ fr' m', loopF ff gd ds fr m = some (.nx, fr', m') ∧ I [] fr' m' := by
  obtain ⟨q, e, fr', m', rfl, i⟩ := loopF_run I (fun q => ∃ fr' m', q = (.nx, fr', m') ∧ I [] fr' m') hg (fun d ds fr m i => by
    obtain ⟨fr', m', e, i'⟩ := step d ds fr m i
    exact ⟨_, e, i'⟩) (fun fr m i => ⟨fr, m, rfl, i⟩) ds fr m h
  exact ⟨fr', m', e, i⟩
/-- a loop that may leave by return -/
theorem loopF_ret {ff : D → Fr → Mm → Option (Fl × Fr × Mm)} {gd : Mm → Bool} (I : List D → Fr → Mm → Prop) (Q : Fl × Fr × Mm → Prop) (hg : ∀ ds fr m, I ds fr m → gd m = true)
    (step : ∀ d ds fr m, I (d :: ds) fr m → (∃ fr' m', ff d fr m = some (.nx, fr', m') ∧ I ds fr' m') ∨ (∃ fr' m', ff d fr m = some (.cnt, fr', m') ∧ I ds fr' m') ∨ (∃ fr' m', ff d fr m = some (.brk, fr', m') ∧ Q (.nx, fr', m')) ∨ ∃ o fr' m', ff d fr m = some (.ret o, fr', m') ∧ Q (.ret o, fr', m'))
    (done : ∀ fr m, I [] fr m → Q (.nx, fr, m)) {ds : List D} {fr : Fr} {m : Mm} (h : I ds fr m) : ∃ q, loopF ff gd ds fr m = some q ∧ Q q := by
  refine loopF_run I Q hg (fun d ds fr m i => ?_) done ds fr m h
  rcases step d ds fr m i with ⟨fr', m', e, i'⟩ | ⟨fr', m', e, i'⟩ | ⟨fr', m', e, i'⟩ | ⟨o, fr', m', e, i'⟩
  · exact ⟨_, e, i'⟩
  · exact ⟨_, e, i'⟩
  · exact ⟨_, e, i'⟩
  · exact ⟨_, e, i'⟩
/-! ### the tape -/
/-- the store goes on: what it held stands, but for n -/
def Ex (n : Nat) (m m' : Mm) : Prop := m.length ≤ m'.length ∧ ∀ i, i < m.length → i ≠ n → m'[i]? = m[i]?
theorem Ex.refl {n : Nat} {m : Mm} : Ex n m m := ⟨Nat.le_refl _, fun _ _ _ => rfl⟩
theorem Ex.trans {n : Nat} {m m' m'' : Mm} (h : Ex n m m') (g : Ex n m' m'') : Ex n m m'' :=
  ⟨Nat.le_trans h.1 g.1, fun i h1 h2 => (g.2 i (Nat.lt_of_lt_of_le h1 h.1) h2).trans (h.2 i h1 h2)⟩
theorem Ex.set {n : Nat} {m : Mm} {a : MO} : Ex n m (m.set n a) := ⟨by rw [List.length_set]; exact Nat.le_refl _, fun i _ h => List.getElem?_set_ne (Ne.symm h)⟩
theorem Ex.app {n : Nat} {m a : Mm} : Ex n m (m ++ a) := ⟨by rw [List.length_append]; omega, fun i h _ => List.getElem?_append_left h⟩
theorem Ex.get {n i : Nat} {m m' : Mm} {o : MO} (h : Ex n m m') (e : m[i]? = some o) (hi : i ≠ n) : m'[i]? = some o := (h.2 i (lt_of_get e) hi).trans e
/-- the tape: the script, a budget of draws left -/
def Tp (ns : List Int) (tl : List D) (n b : Nat) (m : Mm) : Prop := ∃ k spot rest, n ≠ k ∧ m[n]? = some (.lst (.ref k :: .int spot :: .int rest :: tl)) ∧ m[k]? = some (.lst (ns.map D.int)) ∧ 0 ≤ spot ∧ spot + b < 2 ^ 61
theorem Tp.lt {ns : List Int} {tl : List D} {n b : Nat} {m : Mm} (h : Tp ns tl n b m) : n < m.length := by
  obtain ⟨k, spot, rest, _, h1, _⟩ := h
  exact lt_of_get h1
theorem Tp.less {ns : List Int} {tl : List D} {n b c : Nat} {m : Mm} (h : Tp ns tl n b m) (hc : c ≤ b) : Tp ns tl n c m := by
  obtain ⟨k, spot, rest, h0, h1, h2, h3, h4⟩ := h
  exact ⟨k, spot, rest, h0, h1, h2, h3, by omega⟩
/-- the tape beside changes elsewhere -/
theorem Tp.app {ns : List Int} {tl : List D} {n b : Nat} {m a : Mm} (h : Tp ns tl n b m) : Tp ns tl n b (m ++ a) := by
  obtain ⟨k, spot, rest, h0, h1, h2, h3, h4⟩ := h
  exact ⟨k, spot, rest, h0, get_old h1, get_old h2, h3, h4⟩
/-- another place, not the tape's own -/
def Off (n f : Nat) (m : Mm) : Prop := f ≠ n ∧ ∀ k spot rest tl, m[n]? = some (.lst (.ref k :: .int spot :: .int rest :: tl)) → f ≠ k
theorem Tp.set {ns : List Int} {tl : List D} {n b f : Nat} {m : Mm} {a : MO} (h : Tp ns tl n b m) (hf : Off n f m) : Tp ns tl n b (m.set f a) := by
  obtain ⟨k, spot, rest, h0, h1, h2, h3, h4⟩ := h
  exact ⟨k, spot, rest, h0, by rw [List.getElem?_set_ne hf.1]; exact h1, by rw [List.getElem?_set_ne (hf.2 _ _ _ _ h1)]; exact h2, h3, h4⟩
/-- a draw, by the tape -/
theorem draw_tp {g : Gv} {m : Mm} {n b : Nat} {ns : List Int} {tl : List D} {many : Int} (h : Tp ns tl n (b + 1) m) (h0 : 0 < many) (h1 : many < 1000000) :
    ∃ r m', runF g 6 s_draw [.ref n, .int many] m = some (.val (.int r), m') ∧ 0 ≤ r ∧ r < many ∧ Tp ns tl n b m' ∧ Ex n m m' ∧ m'.length = m.length ∧ ∀ f, Off n f m → Off n f m' := by
  obtain ⟨k, spot, rest, g0, g1, g2, g3, g4⟩ := h
  obtain ⟨r, spot', rest', e, e1, e2, e3, e4⟩ := draw (g := g) g1 g2 g0 h0 h1 g3 (by omega)
  have hl := lt_of_get g1
  refine ⟨r, _, e, e1, e2, ⟨k, spot', rest', g0, get_set hl, by rw [List.getElem?_set_ne g0]; exact g2, by omega, by omega⟩, Ex.set, List.length_set, fun f hf => ⟨hf.1, fun k' s' r' tl' e' => ?_⟩⟩
  rw [get_set hl] at e'
  cases e'
  exact hf.2 _ _ _ _ g1
/-! ### more for runs -/
def forB (g : Gv) (tg : Tg) (body : List S) : D → Fr → Mm → RS := fun d fr m => (bindT tg d fr).bind fun fr1 => evSs g body fr1 m
theorem evS_for {g : Gv} {tg : Tg} {it : It} {body : List S} {fr : Fr} {m : Mm} : evS g (.for_ tg it body) fr m = (evI g it fr m).bind fun r => loopF (forB g tg body) (gdW r.1) r.1.1 fr r.2 := rfl
def whlC (g : Gv) (d : E) : Fr → Mm → Option (Bool × Mm) := tst (evE g d)
def whlB (g : Gv) (body : List S) : Fr → Mm → RS := evSs g body
theorem evS_whl {g : Gv} {d : E} {body : List S} {fr : Fr} {m : Mm} : evS g (.whl d body) fr m = loopW (whlC g d) (whlB g body) 1000000 fr m := rfl
def cpB (g : Gv) (tg : Tg) (own : List Nat) (cs : List E) (elt : E) (fr : Fr) : D → Mm → Option (Option D × Mm) := fun d m => (bindT tg d (wipeF fr own)).bind fun fr1 => (evAnd g cs fr1 m).bind fun b =>
  if b.1 then (evE g elt fr1 b.2).map fun q => (some (stow q.1 q.2).1, (stow q.1 q.2).2) else some (none, b.2)
theorem evE_comp {g : Gv} {elt : E} {tg : Tg} {it : It} {cs : List E} {own : List Nat} {fr : Fr} {m : Mm} : evE g (.comp elt tg it cs own) fr m = (evI g it fr m).bind fun r => (loopC (cpB g tg own cs elt fr) (gdW r.1) r.1.1 [] r.2).map fun q => (.tmp q.1, q.2) := rfl
theorem bnd_int {i : Int} : bndO (.val (.int i)) = some i := rfl
theorem rng_len {a b : Int} : (rngD a b).length = (b - a).toNat := by
  unfold rngD
  rw [List.length_map, List.length_range]
theorem inR_of {i : Int} (h : -1000000 ≤ i) (h2 : i ≤ 1000000) : inR i = true := by
  unfold inR
  rw [Bool.and_eq_true, decide_eq_true_eq, decide_eq_true_eq]
  omega
theorem seq_tup {m : Mm} {ds : List D} : seqO m (.val (.tup ds)) = some ds := rfl
theorem seq_frz {m : Mm} {ds : List D} : seqO m (.val (.frz ds)) = some ds := rfl
theorem seq_tmp {m : Mm} {ds : List D} : seqO m (.tmp ds) = some ds := rfl
theorem add_tup {m : Mm} {xs ys : List D} : bopO m .add (.val (.tup xs)) (.val (.tup ys)) = if xs.length + ys.length ≤ sizeLine then some (.val (.tup (xs ++ ys))) else none := rfl
theorem add_str {m : Mm} {x y : Str} : bopO m .add (.val (.str x)) (.val (.str y)) = if x.length + y.length ≤ sizeLine then some (.val (.str (x ++ y))) else none := rfl
theorem szE : sizeLine = 16777216 := by decide
theorem cmp_str {m : Mm} {o : COp} {i j : Str} : cmpO m o (.val (.str i)) (.val (.str j)) = match o with
    | .eq => some (decide (i = j))
    | .ne => some (!decide (i = j))
    | .lt => some (decide (i.cps.toList < j.cps.toList))
    | .le => some (!decide (j.cps.toList < i.cps.toList))
    | .gt => some (decide (j.cps.toList < i.cps.toList))
    | .ge => some (!decide (i.cps.toList < j.cps.toList))
    | .is => none
    | .isn => none
    | .isin => some (!(Builtin.Str.occurrences j i 0 j.length 1).isEmpty)
    | .notin => some (!(!(Builtin.Str.occurrences j i 0 j.length 1).isEmpty)) := by
  cases o <;> rfl
theorem isi_ii : isiT "int" "int" = true := by decide
theorem isi_is : isiT "str" "int" = false := by decide
theorem isi_bi : isiT "int" "bool" = false := by decide
theorem isi_bs : isiT "str" "bool" = false := by decide
theorem isi_ib : isiT "bool" "int" = true := by decide
theorem isi_bb : isiT "bool" "bool" = true := by decide
theorem dec_self {a : Str} : decide (a = a) = true := decide_eq_true rfl
theorem set_end {m : Mm} {a b : MO} : (m ++ [a]).set m.length b = m ++ [b] := by
  rw [List.set_append_right _ _ (Nat.le_refl _), Nat.sub_self]
  rfl
/-- the tape goes on -/
structure Go (ns : List Int) (tl : List D) (n b : Nat) (m m' : Mm) : Prop where
  tp : Tp ns tl n b m'
  ex : Ex n m m'
  off : ∀ f, Off n f m → Off n f m'
section
variable {ns : List Int} {tl : List D} {n b c f : Nat} {m m' m'' : Mm}
theorem Go.trans (h : Go ns tl n b m m') (g : Go ns tl n c m' m'') : Go ns tl n c m m'' := ⟨g.tp, h.ex.trans g.ex, fun f hf => g.off f (h.off f hf)⟩
theorem Go.less (h : Go ns tl n b m m') (hc : c ≤ b) : Go ns tl n c m m' := ⟨h.tp.less hc, h.ex, h.off⟩
theorem Go.refl (h : Tp ns tl n b m) : Go ns tl n b m m := ⟨h, Ex.refl, fun _ h => h⟩
theorem Off.get {a b : Mm} (hf : Off n f a) (e : b[n]? = a[n]?) : Off n f b := ⟨hf.1, fun k s r t q => hf.2 k s r t (e.symm.trans q)⟩
theorem Off.new (h : Tp ns tl n b m) {a : MO} : Off n m.length (m ++ [a]) := by
  obtain ⟨k, spot, rest, h0, h1, h2, h3, h4⟩ := h
  have l1 := lt_of_get h1
  have l2 := lt_of_get h2
  refine ⟨by omega, fun k' s r t q => ?_⟩
  rw [get_old h1] at q
  cases q
  omega
theorem Go.app (h : Tp ns tl n b m) {a : List MO} : Go ns tl n b m (m ++ a) := ⟨h.app, Ex.app, fun f hf => hf.get (List.getElem?_append_left h.lt)⟩
/-- a place behind the base, changed -/
theorem Go.setNew (h : Go ns tl n b m m') (hf : Off n f m') (hl : m.length ≤ f) {a : MO} : Go ns tl n b m (m'.set f a) :=
  ⟨h.tp.set hf, ⟨by rw [List.length_set]; exact h.ex.1, fun i h1 h2 => (List.getElem?_set_ne (by omega)).trans (h.ex.2 i h1 h2)⟩, fun q hq => (h.off q hq).get (List.getElem?_set_ne hf.1)⟩
theorem Off.set (h : Off n f m) {a : MO} : Off n f (m.set f a) := h.get (List.getElem?_set_ne h.1)
theorem Go.draw {g : Gv} {many : Int} (h : Tp ns tl n (b + 1) m) (h0 : 0 < many) (h1 : many < 1000000) : ∃ r m', runF g 6 s_draw [.ref n, .int many] m = some (.val (.int r), m') ∧ 0 ≤ r ∧ r < many ∧ Go ns tl n b m m' := by
  obtain ⟨r, m', e, e1, e2, e3, e4, _, e5⟩ := draw_tp (g := g) h h0 h1
  exact ⟨r, m', e, e1, e2, e3, e4, e5⟩
end
end Nb

/-! Nb23: a run that meets nothing of the store stands behind any store -/
namespace Nb
open PySem PySem.Spec L2
mutual
def sh (k : Nat) : D → D
  | .tup ds => .tup (shL k ds)
  | .frz ds => .frz (shL k ds)
  | .ref n => .ref (n + k)
  | .non => .non
  | .bl b => .bl b
  | .int i => .int i
  | .str x => .str x
def shL (k : Nat) : List D → List D
  | [] => []
  | d :: ds => sh k d :: shL k ds
end
theorem shL_eq {k : Nat} : ∀ ds : List D, shL k ds = ds.map (sh k)
  | [] => rfl
  | d :: ds => by rw [shL, shL_eq ds, List.map_cons]
theorem sh_tup {k : Nat} {ds : List D} : sh k (.tup ds) = .tup (ds.map (sh k)) := by rw [sh, shL_eq]
theorem sh_frz {k : Nat} {ds : List D} : sh k (.frz ds) = .frz (ds.map (sh k)) := by rw [sh, shL_eq]
def shO (k : Nat) : Out → Out
  | .val d => .val (sh k d)
  | .tmp ds => .tmp (ds.map (sh k))
def shK (k : Nat) (kvs : List (Key × D)) : List (Key × D) := kvs.map fun p => (p.1, sh k p.2)
def shM (k : Nat) : MO → MO
  | .lst ds => .lst (ds.map (sh k))
  | .dct kvs => .dct (shK k kvs)
def shF (k : Nat) (fr : Fr) : Fr := fr.map (Option.map (sh k))
/-- the store behind another -/
def St (pre m : Mm) : Mm := pre ++ m.map (shM pre.length)
theorem ob {α β γ δ : Type} {x : Option α} {x' : Option β} {f : α → β} {g : α → Option γ} {g' : β → Option δ} {h : γ → δ} (e : x' = x.map f) (e2 : ∀ a, g' (f a) = (g a).map h) : x'.bind g' = (x.bind g).map h := by
  subst e
  cases x with
  | none => rfl
  | some a => exact e2 a
theorem om {α β γ δ : Type} {x : Option α} {x' : Option β} {f : α → β} {g : α → γ} {g' : β → δ} {h : γ → δ} (e : x' = x.map f) (e2 : ∀ a, g' (f a) = h (g a)) : x'.map g' = (x.map g).map h := by
  subst e
  cases x with
  | none => rfl
  | some a => exact congrArg some (e2 a)
section
variable {pre m : Mm}
theorem St_get (n : Nat) : (St pre m)[n + pre.length]? = (m[n]?).map (shM pre.length) := by
  unfold St
  rw [List.getElem?_append_right (by omega), Nat.add_sub_cancel, List.getElem?_map]
theorem St_len : (St pre m).length = m.length + pre.length := by
  unfold St
  rw [List.length_append, List.length_map, Nat.add_comm]
theorem St_app (a : MO) : St pre m ++ [shM pre.length a] = St pre (m ++ [a]) := by
  unfold St
  rw [List.append_assoc, List.map_append]
  rfl
theorem St_set {n : Nat} {a : MO} : (St pre m).set (n + pre.length) (shM pre.length a) = St pre (m.set n a) := by
  unfold St
  rw [List.set_append_right _ _ (by omega), Nat.add_sub_cancel, List.map_set]
theorem stow_sh (o : Out) : stow (shO pre.length o) (St pre m) = (sh pre.length (stow o m).1, St pre (stow o m).2) := by
  cases o with
  | val d => rfl
  | tmp ds =>
    show ((.ref (St pre m).length : D), St pre m ++ [shM pre.length (.lst ds)]) = (.ref (m.length + pre.length), St pre (m ++ [.lst ds]))
    rw [St_app, St_len]
theorem lst_sh (o : Out) : lstO (St pre m) (shO pre.length o) = (lstO m o).map (List.map (sh pre.length)) := by
  cases o with
  | tmp ds => rfl
  | val d =>
    cases d with
    | ref n =>
      show (match (St pre m)[n + pre.length]? with | some (.lst ds) => some ds | _ => none) = (match m[n]? with | some (.lst ds) => some ds | _ => none).map _
      rw [St_get]
      cases m[n]? with
      | none => rfl
      | some o => cases o <;> rfl
    | _ => rfl
theorem seq_sh (o : Out) : seqO (St pre m) (shO pre.length o) = (seqO m o).map (List.map (sh pre.length)) := by
  cases o with
  | tmp ds => rfl
  | val d =>
    cases d with
    | ref n =>
      show (match (St pre m)[n + pre.length]? with | some (.lst ds) => some ds | _ => none) = (match m[n]? with | some (.lst ds) => some ds | _ => none).map _
      rw [St_get]
      cases m[n]? with
      | none => rfl
      | some o => cases o <;> rfl
    | tup ds =>
      show seqO (St pre m) (.val (sh pre.length (.tup ds))) = _
      rw [sh_tup]
      rfl
    | frz ds =>
      show seqO (St pre m) (.val (sh pre.length (.frz ds))) = _
      rw [sh_frz]
      rfl
    | _ => rfl
theorem dct_sh (o : Out) : dctO (St pre m) (shO pre.length o) = (dctO m o).map (shK pre.length) := by
  cases o with
  | tmp ds => rfl
  | val d =>
    cases d with
    | ref n =>
      show (match (St pre m)[n + pre.length]? with | some (.dct ds) => some ds | _ => none) = (match m[n]? with | some (.dct ds) => some ds | _ => none).map _
      rw [St_get]
      cases m[n]? with
      | none => rfl
      | some o => cases o <;> rfl
    | _ => rfl
mutual
theorem dp_sh {r r' : Nat → Option PyData} {k : Nat} (h : ∀ n, r' (n + k) = r n) : ∀ d : D, dp r' (sh k d) = dp r d
  | .non => rfl
  | .bl _ => rfl
  | .int _ => rfl
  | .str _ => rfl
  | .tup ds => by
    rw [sh, dp, dp, dps_sh h ds]
  | .frz ds => by
    rw [sh, dp, dp, dps_sh h ds]
  | .ref n => h n
theorem dps_sh {r r' : Nat → Option PyData} {k : Nat} (h : ∀ n, r' (n + k) = r n) : ∀ ds : List D, dps r' (shL k ds) = dps r ds
  | [] => rfl
  | d :: ds => by
    rw [shL, dps, dps, dp_sh h d, dps_sh h ds]
end
theorem rp_sh : ∀ (f n : Nat), rp (St pre m) f (n + pre.length) = rp m f n
  | 0, _ => rfl
  | f + 1, n => by
    show (match (St pre m)[n + pre.length]? with | some (.lst ds) => (dps (rp (St pre m) f) ds).map PyData.list | _ => none) = (match m[n]? with | some (.lst ds) => (dps (rp m f) ds).map PyData.list | _ => none)
    rw [St_get]
    cases m[n]? with
    | none => rfl
    | some o =>
      cases o with
      | lst ds =>
        show (dps (rp (St pre m) f) (ds.map (sh pre.length))).map _ = _
        rw [← shL_eq, dps_sh (rp_sh f) ds]
      | dct _ => rfl
theorem toP_sh (o : Out) : toP (St pre m) (shO pre.length o) = toP m o := by
  cases o with
  | val d => exact dp_sh (rp_sh 64) d
  | tmp ds =>
    show (dps (rp (St pre m) 64) (ds.map (sh pre.length))).map _ = _
    rw [← shL_eq, dps_sh (rp_sh 64) ds]
    rfl
theorem key_sh (k : Nat) (d : D) : keyD (sh k d) = keyD d := by
  cases d <;> first | rfl | (rw [sh_tup] <;> rfl) | (rw [sh_frz] <;> rfl)
theorem kvGet_sh {k : Nat} {key : Key} : ∀ kvs : List (Key × D), kvGet key (shK k kvs) = (kvGet key kvs).map (sh k)
  | [] => rfl
  | (a, d) :: r => by
    show kvGet key ((a, sh k d) :: shK k r) = _
    rw [kvGet_cons, kvGet_cons, kvGet_sh r]
    split <;> rfl
theorem kvPut_sh {k : Nat} {key : Key} {d : D} {kvs : List (Key × D)} : kvPut key (sh k d) (shK k kvs) = shK k (kvPut key d kvs) := by
  unfold kvPut
  have e : ((shK k kvs).any fun kv => decide (kv.1 = key)) = kvs.any fun kv => decide (kv.1 = key) := by
    unfold shK
    rw [List.any_map]
    rfl
  rw [e]
  split
  · unfold shK
    rw [List.map_map, List.map_map]
    refine List.map_congr_left fun p _ => ?_
    show (if p.1 = key then (p.1, sh k d) else (p.1, sh k p.2)) = (fun p => (p.1, sh k p.2)) (if p.1 = key then (p.1, d) else p)
    split <;> rfl
  · unfold shK
    rw [List.map_append]
    rfl
theorem merge_sh {k : Nat} : ∀ (more kvs : List (Key × D)), mergeD (shK k kvs) (shK k more) = shK k (mergeD kvs more)
  | [], _ => rfl
  | (a, d) :: r, kvs => by
    show mergeD (kvPut a (sh k d) (shK k kvs)) (shK k r) = _
    rw [kvPut_sh, merge_sh r]
    rfl
/-- the single values -/
theorem eqS_sh (k : Nat) (a b : Out) : eqS (shO k a) (shO k b) = eqS a b := by
  cases a with
  | tmp _ => rfl
  | val d =>
    cases b with
    | tmp _ => cases d <;> first | rfl | (show eqS (.val (sh k _)) _ = _; first | rw [sh_tup] | rw [sh_frz]) <;> rfl
    | val e =>
      cases d <;> cases e <;> first | rfl | (show eqS (.val (sh k _)) (.val (sh k _)) = _; simp only [sh_tup, sh_frz, sh] <;> rfl)
theorem eq_sh (a b : Out) : eqO (St pre m) (shO pre.length a) (shO pre.length b) = eqO m a b := by
  unfold eqO
  rw [eqS_sh, toP_sh, toP_sh]
theorem str_sh (k : Nat) (a : Out) : strO (shO k a) = strO a := by
  cases a with
  | tmp _ => rfl
  | val d => cases d <;> first | rfl | (simp only [shO, sh_tup, sh_frz] <;> rfl)
theorem bnd_sh (k : Nat) (a : Out) : bndO (shO k a) = bndO a := by
  cases a with
  | tmp _ => rfl
  | val d => cases d <;> first | rfl | (simp only [shO, sh_tup, sh_frz] <;> rfl)
theorem ints_sh (k : Nat) (a b : Out) : intsO (shO k a) (shO k b) = intsO a b := by
  cases a with
  | tmp _ => rfl
  | val d =>
    cases b with
    | tmp _ => cases d <;> first | rfl | (simp only [shO, sh_tup, sh_frz] <;> rfl)
    | val e => cases d <;> cases e <;> first | rfl | (simp only [shO, sh_tup, sh_frz] <;> rfl)
theorem tru_sh (a : Out) : truO (St pre m) (shO pre.length a) = truO m a := by
  cases a with
  | tmp _ => rfl
  | val d => cases d <;> first | rfl | (simp only [shO, sh_tup, sh_frz] <;> rfl)
def inP : Option PyData → Option PyData → Option Bool
  | some p, some (.list qs) => if SeqAt.shaped p && SeqAt.shaped (.list qs) then some (qs.any fun z => PyData.eqv z p) else none
  | some p, some (.tuple qs) => if flatP p && qs.all flatP then some (qs.any fun z => PyData.eqv z p) else none
  | _, _ => none
theorem inO_eq (m : Mm) (a b : Out) : inO m a b = match dctO m b with
    | some kvs => (match a with
      | .val d => (keyD d).map fun k => (kvGet k kvs).isSome
      | .tmp _ => none)
    | none => match strO a, strO b with
      | some x, some y => some (!(Builtin.Str.occurrences y x 0 y.length 1).isEmpty)
      | _, _ => inP (toP m a) (toP m b) := by
  unfold inO inP
  cases dctO m b with
  | some kvs => cases a <;> rfl
  | none =>
    cases a with
    | tmp _ => rfl
    | val d =>
      cases b with
      | tmp _ => cases d <;> rfl
      | val e => cases d <;> cases e <;> rfl
theorem in_sh (a b : Out) : inO (St pre m) (shO pre.length a) (shO pre.length b) = inO m a b := by
  rw [inO_eq, inO_eq, dct_sh, str_sh, str_sh, toP_sh, toP_sh]
  cases dctO m b with
  | some kvs =>
    cases a with
    | tmp _ => rfl
    | val d =>
      show (keyD (sh pre.length d)).map _ = (keyD d).map _
      rw [key_sh]
      congr 1
      funext key
      rw [kvGet_sh, Option.isSome_map]
  | none => rfl
theorem lt_sh (k : Nat) (a b : Out) : ltO (shO k a) (shO k b) = ltO a b := by
  cases a with
  | tmp _ => rfl
  | val d =>
    cases b with
    | tmp _ => cases d <;> first | rfl | (simp only [shO, sh_tup, sh_frz] <;> rfl)
    | val e => cases d <;> cases e <;> first | rfl | (simp only [shO, sh_tup, sh_frz] <;> rfl)
theorem is_sh (k : Nat) (a b : Out) : isO (shO k a) (shO k b) = isO a b := by
  cases a with
  | tmp _ =>
    cases b with
    | tmp _ => rfl
    | val e => cases e <;> first | rfl | (simp only [shO, sh_tup, sh_frz] <;> rfl)
  | val d =>
    cases b with
    | tmp _ => cases d <;> first | rfl | (simp only [shO, sh_tup, sh_frz] <;> rfl)
    | val e => cases d <;> cases e <;> first | rfl | (simp only [shO, sh_tup, sh_frz] <;> rfl)
theorem cmp_sh (o : COp) (a b : Out) : cmpO (St pre m) o (shO pre.length a) (shO pre.length b) = cmpO m o a b := by
  cases o <;> simp only [cmpO, eq_sh, lt_sh, is_sh, in_sh]
def tupQ : Out → Option (List D)
  | .val (.tup ds) => some ds
  | _ => none
theorem tup_sh (k : Nat) (a : Out) : tupQ (shO k a) = (tupQ a).map (List.map (sh k)) := by
  cases a with
  | tmp _ => rfl
  | val d => cases d <;> first | rfl | (simp only [shO, sh_tup, sh_frz] <;> rfl)
def catP (f : List D → Out) : Option (List D) → Option (List D) → Option Out
  | some xs, some ys => if xs.length + ys.length ≤ sizeLine then some (f (xs ++ ys)) else none
  | _, _ => none
theorem cat_sh {f : List D → Out} {k : Nat} (h : ∀ xs, f (xs.map (sh k)) = shO k (f xs)) (xs ys : Option (List D)) : catP f (xs.map (List.map (sh k))) (ys.map (List.map (sh k))) = (catP f xs ys).map (shO k) := by
  cases xs with
  | none => rfl
  | some xs =>
    cases ys with
    | none => rfl
    | some ys =>
      show (if (xs.map (sh k)).length + (ys.map (sh k)).length ≤ sizeLine then some (f (xs.map (sh k) ++ ys.map (sh k))) else none) = (if xs.length + ys.length ≤ sizeLine then some (f (xs ++ ys)) else none).map (shO k)
      rw [List.length_map, List.length_map, ← List.map_append, h]
      split <;> rfl
theorem addO_eq (m : Mm) (a b : Out) : addO m a b = match strO a, strO b with
    | some x, some y => if x.length + y.length ≤ sizeLine then some (.val (.str (x ++ y))) else none
    | _, _ => match tupQ a, tupQ b with
      | some xs, some ys => catP (fun ds => .val (.tup ds)) (some xs) (some ys)
      | _, _ => catP .tmp (lstO m a) (lstO m b) := by
  unfold addO catP
  cases a with
  | tmp _ => rfl
  | val d =>
    cases b with
    | tmp _ => cases d <;> rfl
    | val e => cases d <;> cases e <;> rfl
theorem add_sh (a b : Out) : addO (St pre m) (shO pre.length a) (shO pre.length b) = (addO m a b).map (shO pre.length) := by
  have h1 := cat_sh (f := Out.tmp) (k := pre.length) (fun _ => rfl) (lstO m a) (lstO m b)
  rw [addO_eq, addO_eq, str_sh, str_sh, tup_sh, tup_sh, lst_sh, lst_sh, h1]
  have h2 : ∀ xs ys : List D, catP (fun ds => .val (.tup ds)) (some (xs.map (sh pre.length))) (some (ys.map (sh pre.length))) = (catP (fun ds => .val (.tup ds)) (some xs) (some ys)).map (shO pre.length) := fun xs ys => cat_sh (fun _ => by rw [shO, sh_tup]) (some xs) (some ys)
  cases strO a with
  | some x =>
    cases strO b with
    | some y =>
      show (if x.length + y.length ≤ sizeLine then some (Out.val (.str (x ++ y))) else none) = (if x.length + y.length ≤ sizeLine then some (Out.val (.str (x ++ y))) else none).map _
      split <;> rfl
    | none =>
      cases tupQ a <;> cases tupQ b <;> first | rfl | exact h2 _ _
  | none => cases tupQ a <;> cases tupQ b <;> first | rfl | exact h2 _ _
theorem bop_sh (o : BOp) (a b : Out) : bopO (St pre m) o (shO pre.length a) (shO pre.length b) = (bopO m o a b).map (shO pre.length) := by
  unfold bopO
  rw [ints_sh]
  cases intsO a b with
  | some p =>
    show (bopI o p.1 p.2).map _ = ((bopI o p.1 p.2).map _).map _
    cases bopI o p.1 p.2 <;> rfl
  | none =>
    cases o with
    | add => exact add_sh a b
    | _ => rfl
theorem at_sh {k : Nat} {ds : List D} {i : Int} : atI (ds.map (sh k)) i = (atI ds i).map (sh k) := by
  unfold atI
  rw [List.length_map]
  cases ixN ds.length i with
  | none => rfl
  | some j => exact List.getElem?_map ..
theorem ix_sh (a b : Out) : ixO (St pre m) (shO pre.length a) (shO pre.length b) = (ixO m a b).map (sh pre.length) := by
  unfold ixO
  rw [dct_sh, bnd_sh, str_sh, seq_sh]
  cases dctO m a with
  | some kvs =>
    cases b with
    | tmp _ => rfl
    | val d =>
      show (keyD (sh pre.length d)).bind _ = ((keyD d).bind _).map _
      rw [key_sh]
      cases keyD d with
      | none => rfl
      | some key => exact kvGet_sh kvs
  | none =>
    show (match bndO b with | none => none | some i => _) = _
    cases bndO b with
    | none => rfl
    | some i =>
      show (match strO a with | some z => _ | none => _) = _
      cases strO a with
      | some z =>
        show (if z.length ≤ sizeLine then (atI z.cps.toList i).map (fun c => D.str ⟨#[c]⟩) else none) = (if z.length ≤ sizeLine then (atI z.cps.toList i).map (fun c => D.str ⟨#[c]⟩) else none).map _
        split
        · cases atI z.cps.toList i <;> rfl
        · rfl
      | none =>
        show ((seqO m a).map (List.map (sh pre.length))).bind (fun ds => atI ds i) = ((seqO m a).bind fun ds => atI ds i).map _
        cases seqO m a with
        | none => rfl
        | some ds => exact at_sh
theorem cut_sh {k : Nat} {ds : List D} {lo hi : Option Int} : cutA (ds.map (sh k)) lo hi = (cutA ds lo hi).map (sh k) := by
  unfold cutA
  rw [List.length_map, List.map_take, List.map_drop]
theorem slcO_eq (m : Mm) (a : Out) (lo hi : Option Int) : slcO m a lo hi = match strO a with
    | some z => if z.length ≤ sizeLine then some (.val (.str (cutS z lo hi))) else none
    | none => match tupQ a with
      | some ds => some (.val (.tup (cutA ds lo hi)))
      | none => (seqO m a).map fun ds => .tmp (cutA ds lo hi) := by
  unfold slcO
  cases a with
  | tmp _ => rfl
  | val d => cases d <;> rfl
theorem slc_sh (a : Out) (lo hi : Option Int) : slcO (St pre m) (shO pre.length a) lo hi = (slcO m a lo hi).map (shO pre.length) := by
  rw [slcO_eq, slcO_eq, str_sh, tup_sh, seq_sh]
  cases strO a with
  | some z =>
    show (if z.length ≤ sizeLine then some (Out.val (.str (cutS z lo hi))) else none) = (if z.length ≤ sizeLine then some (Out.val (.str (cutS z lo hi))) else none).map _
    split <;> rfl
  | none =>
    cases tupQ a with
    | some ds =>
      show some (Out.val (.tup (cutA (ds.map (sh pre.length)) lo hi))) = some (Out.val (sh pre.length (.tup (cutA ds lo hi))))
      rw [cut_sh, sh_tup]
    | none =>
      cases seqO m a with
      | none => rfl
      | some ds =>
        show some (Out.tmp (cutA (ds.map (sh pre.length)) lo hi)) = some (Out.tmp ((cutA ds lo hi).map (sh pre.length)))
        rw [cut_sh]
theorem ty_sh (a : Out) : tyO (St pre m) (shO pre.length a) = tyO m a := by
  cases a with
  | tmp _ => rfl
  | val d =>
    cases d with
    | ref n =>
      show (match (St pre m)[n + pre.length]? with | some (.lst _) => some "list" | some (.dct _) => some "dict" | none => none) = (match m[n]? with | some (.lst _) => some "list" | some (.dct _) => some "dict" | none => none)
      rw [St_get]
      cases m[n]? with
      | none => rfl
      | some o => cases o <;> rfl
    | tup _ =>
      simp only [shO, sh_tup] <;> rfl
    | frz _ =>
      simp only [shO, sh_frz] <;> rfl
    | _ => rfl
theorem len_sh (a : Out) : lenO (St pre m) (shO pre.length a) = lenO m a := by
  unfold lenO
  rw [dct_sh, str_sh, seq_sh]
  cases dctO m a with
  | some kvs =>
    show some (shK pre.length kvs).length = some kvs.length
    unfold shK
    rw [List.length_map]
  | none =>
    cases strO a with
    | some z => rfl
    | none =>
      cases seqO m a with
      | none => rfl
      | some ds => exact congrArg some (List.length_map ..)
theorem bls_sh (k : Nat) : ∀ ds : List D, allBl (ds.map (sh k)) = allBl ds
  | [] => rfl
  | d :: ds => by
    rw [List.map_cons]
    cases d <;> first | rfl | (simp only [sh_tup, sh_frz] <;> rfl) | (simp only [sh, allBl, bls_sh k ds])
theorem strs_sh (k : Nat) : ∀ ds : List D, allStr (ds.map (sh k)) = allStr ds
  | [] => rfl
  | d :: ds => by
    rw [List.map_cons]
    cases d <;> first | rfl | (simp only [sh_tup, sh_frz] <;> rfl) | (simp only [sh, allStr, strs_sh k ds])
theorem intl_sh (k : Nat) : ∀ ds : List D, allInt (ds.map (sh k)) = allInt ds
  | [] => rfl
  | d :: ds => by
    rw [List.map_cons]
    cases d <;> first | rfl | (simp only [sh_tup, sh_frz] <;> rfl) | (simp only [sh, allInt, intl_sh k ds])
theorem keyS_sh (k : Nat) : ∀ kvs : List (Key × D), allKeyS (shK k kvs) = allKeyS kvs
  | [] => rfl
  | (.inl _, _) :: _ => rfl
  | (.inr x, d) :: r => by
    show (allKeyS (shK k r)).map _ = (allKeyS r).map _
    rw [keyS_sh k r]
theorem strv_sh (k : Nat) (xs : List Str) : (xs.map D.str).map (sh k) = xs.map D.str := by
  rw [List.map_map]
  exact List.map_congr_left fun _ _ => rfl
theorem intv_sh (k : Nat) (xs : List Int) : (xs.map D.int).map (sh k) = xs.map D.int := by
  rw [List.map_map]
  exact List.map_congr_left fun _ _ => rfl
theorem sorted_sh (a : Out) : sortedO (St pre m) (shO pre.length a) = (sortedO m a).map (List.map (sh pre.length)) := by
  unfold sortedO
  rw [dct_sh, lst_sh]
  cases dctO m a with
  | some kvs =>
    show (allKeyS (shK pre.length kvs)).bind _ = _
    rw [keyS_sh]
    show _ = ((allKeyS kvs).bind _).map _
    cases allKeyS kvs with
    | none => rfl
    | some ks =>
      show (if ks.length < 64 then some ((sortS ks).map D.str) else none) = (if ks.length < 64 then some ((sortS ks).map D.str) else none).map _
      split
      · rw [Option.map_some, strv_sh]
      · rfl
  | none =>
    cases lstO m a with
    | none => rfl
    | some ds =>
      show (match allStr (ds.map (sh pre.length)) with | some xs => if xs.length < 64 then some ((sortS xs).map D.str) else none | none => (allInt (ds.map (sh pre.length))).map fun ns => (sortI ns).map D.int) = (match allStr ds with | some xs => if xs.length < 64 then some ((sortS xs).map D.str) else none | none => (allInt ds).map fun ns => (sortI ns).map D.int).map _
      rw [strs_sh, intl_sh]
      cases allStr ds with
      | some xs =>
        show (if xs.length < 64 then some ((sortS xs).map D.str) else none) = (if xs.length < 64 then some ((sortS xs).map D.str) else none).map _
        split
        · rw [Option.map_some, strv_sh]
        · rfl
      | none =>
        cases allInt ds with
        | none => rfl
        | some ns => exact congrArg some (intv_sh _ _).symm
theorem repr_sh (a : Out) : reprO (St pre m) (shO pre.length a) = reprO m a := by
  unfold reprO
  rw [toP_sh]
theorem pairs_sh (k : Nat) : ∀ ds : List D, pairsD (ds.map (sh k)) = (pairsD ds).map (shK k)
  | [] => rfl
  | d :: ds => by
    have ih := pairs_sh k ds
    rw [List.map_cons]
    cases d with
    | tup es =>
      rw [sh_tup]
      match es with
      | [] => rfl
      | [_] => rfl
      | [x, y] =>
        show ((keyD (sh k x)).bind fun key => (pairsD (ds.map (sh k))).map fun ps => (key, sh k y) :: ps) = ((keyD x).bind fun key => (pairsD ds).map fun ps => (key, y) :: ps).map _
        rw [key_sh, ih]
        cases keyD x with
        | none => rfl
        | some key => cases pairsD ds <;> rfl
      | _ :: _ :: _ :: _ => rfl
    | frz _ =>
      rw [sh_frz]
      rfl
    | _ => rfl
/-- an outcome and its store -/
def shR (pre : Mm) (r : Out × Mm) : Out × Mm := (shO pre.length r.1, St pre r.2)
theorem keyv_sh (k : Nat) (key : Key) : sh k (keyV key) = keyV key := by cases key <;> rfl
theorem blt_sh (b : Blt) (a : Out) : bltO b (St pre m) (shO pre.length a) = (bltO b m a).map (shR pre) := by
  cases b with
  | len =>
    show (lenO (St pre m) (shO pre.length a)).map _ = _
    rw [len_sh]
    exact om Option.map_id'.symm fun _ => rfl
  | tuple =>
    refine om (seq_sh a) fun ds => ?_
    show (Out.val (.tup (ds.map (sh pre.length))), St pre m) = (Out.val (sh pre.length (.tup ds)), St pre m)
    rw [sh_tup]
  | list =>
    show (match dctO (St pre m) (shO pre.length a) with | some kvs => some (Out.tmp (kvs.map fun (p : Key × D) => keyV p.1), St pre m) | none => (seqO (St pre m) (shO pre.length a)).map fun ds => (Out.tmp ds, St pre m)) = (match dctO m a with | some kvs => some (Out.tmp (kvs.map fun (p : Key × D) => keyV p.1), m) | none => (seqO m a).map fun ds => (Out.tmp ds, m)).map _
    rw [dct_sh, seq_sh]
    cases dctO m a with
    | some kvs =>
      show some (Out.tmp ((shK pre.length kvs).map fun p => keyV p.1), St pre m) = some (Out.tmp ((kvs.map fun p => keyV p.1).map (sh pre.length)), St pre m)
      unfold shK
      rw [List.map_map, List.map_map]
      congr 3
      exact List.map_congr_left fun p _ => (keyv_sh _ _).symm
    | none => exact om rfl fun _ => rfl
  | all =>
    refine ob (lst_sh a) fun ds => ?_
    show (allBl (ds.map (sh pre.length))).map _ = _
    rw [bls_sh]
    exact om Option.map_id'.symm fun _ => rfl
  | any =>
    refine ob (lst_sh a) fun ds => ?_
    show (allBl (ds.map (sh pre.length))).map _ = _
    rw [bls_sh]
    exact om Option.map_id'.symm fun _ => rfl
  | dict =>
    refine ob (seq_sh a) fun ds => ?_
    refine om (pairs_sh _ ds) fun ps => ?_
    show (Out.val (.ref (St pre m).length), St pre m ++ [.dct (mergeD [] (shK pre.length ps))]) = (Out.val (.ref (m.length + pre.length)), St pre (m ++ [.dct (mergeD [] ps)]))
    rw [St_len, ← St_app, show (mergeD [] (shK pre.length ps)) = shK pre.length (mergeD [] ps) from merge_sh ps []]
    rfl
  | sorted => exact om (sorted_sh a) fun _ => rfl
  | repr =>
    show (reprO (St pre m) (shO pre.length a)).map _ = _
    rw [repr_sh]
    exact om Option.map_id'.symm fun _ => rfl
  | str =>
    show (match bndO (shO pre.length a) with | some i => if i.natAbs.log2 < 1920 then some (Out.val (.str (toString i)), St pre m) else none | none => none) = (match bndO a with | some i => if i.natAbs.log2 < 1920 then some (Out.val (.str (toString i)), m) else none | none => none).map _
    rw [bnd_sh]
    cases bndO a with
    | none => rfl
    | some i =>
      show (if i.natAbs.log2 < 1920 then some (Out.val (.str (toString i)), St pre m) else none) = (if i.natAbs.log2 < 1920 then some (Out.val (.str (toString i)), m) else none).map _
      split <;> rfl
  | min_ =>
    refine ob (lst_sh a) fun ds => ?_
    show (allStr (ds.map (sh pre.length))).bind _ = _
    rw [strs_sh]
    cases allStr ds with
    | none => rfl
    | some xs => exact om Option.map_id'.symm fun _ => rfl
  | int_ =>
    cases a with
    | tmp _ => rfl
    | val d => cases d <;> first | rfl | (simp only [shO, sh_tup, sh_frz] <;> rfl)
theorem ss_sh (a : Out) : ssO (St pre m) (shO pre.length a) = (ssO m a).map (List.map (sh pre.length)) := by
  refine ob (lst_sh a) fun ds => ?_
  show (allStr (ds.map (sh pre.length))).bind _ = _
  rw [strs_sh]
  cases allStr ds with
  | none => rfl
  | some xs =>
    show (if xs.length < 64 then some ((sortS (dedS xs)).map D.str) else none) = (if xs.length < 64 then some ((sortS (dedS xs)).map D.str) else none).map _
    split
    · show _ = some (((sortS (dedS xs)).map D.str).map (sh pre.length))
      rw [strv_sh]
    · rfl
theorem zipK_sh (k : Nat) : ∀ (ks : List Str) (ds : List D), List.zipWith (fun k d => ((Sum.inr k : Key), d)) ks (ds.map (sh k)) = shK k (List.zipWith (fun k d => ((Sum.inr k : Key), d)) ks ds)
  | [], _ => by simp [shK]
  | _ :: _, [] => by simp [shK]
  | x :: ks, d :: ds => by
    have ih := zipK_sh k ks ds
    unfold shK at *
    rw [List.map_cons, List.zipWith_cons_cons, List.zipWith_cons_cons, List.map_cons, ih]
theorem dsp_sh (ks : List Str) (n : Nat) (ds : List D) (m : Mm) : dspO ks (n + pre.length) (ds.map (sh pre.length)) (St pre m) = (dspO ks n ds m).map (shR pre) := by
  unfold dspO
  rw [St_get]
  cases e : m[n]? with
  | none => rfl
  | some o =>
    cases o with
    | lst _ => rfl
    | dct kvs =>
      cases kvs with
      | cons _ _ => rfl
      | nil =>
        show (if ks.length ≤ 15 then some (Out.val (.ref (n + pre.length)), (St pre m).set (n + pre.length) (.dct (mergeD [] (List.zipWith (fun k d => ((Sum.inr k : Key), d)) ks (ds.map (sh pre.length)))))) else none) = (if ks.length ≤ 15 then some (Out.val (.ref n), m.set n (.dct (mergeD [] (List.zipWith (fun k d => ((Sum.inr k : Key), d)) ks ds)))) else none).map _
        split
        · rw [zipK_sh, show (mergeD [] (shK pre.length (List.zipWith (fun k d => ((Sum.inr k : Key), d)) ks ds))) = shK pre.length (mergeD [] (List.zipWith (fun k d => ((Sum.inr k : Key), d)) ks ds)) from merge_sh _ []]
          show some (_, (St pre m).set (n + pre.length) (shM pre.length (.dct (mergeD [] (List.zipWith (fun k d => ((Sum.inr k : Key), d)) ks ds))))) = _
          rw [St_set]
          rfl
        · rfl
theorem mm_sh (k : Nat) (mx : Bool) (a b : Out) : mmO mx (shO k a) (shO k b) = (mmO mx a b).map (shO k) := by
  unfold mmO
  rw [ints_sh]
  cases intsO a b with
  | none => rfl
  | some p => rfl
theorem join_sh (z : Str) (a : Out) : joinO (St pre m) z (shO pre.length a) = joinO m z a := by
  unfold joinO
  rw [seq_sh]
  cases seqO m a with
  | none => rfl
  | some ds =>
    show (allStr (ds.map (sh pre.length))).bind _ = (allStr ds).bind _
    rw [strs_sh]
end
section
variable {pre : Mm}
mutual
theorem bind_sh (k : Nat) : ∀ (t : Tg) (d : D) (fr : Fr), bindT t (sh k d) (shF k fr) = (bindT t d fr).map (shF k)
  | .n i, d, fr => by
    show some ((fr.map (Option.map (sh k))).set i (some (sh k d))) = some ((fr.set i (some d)).map (Option.map (sh k)))
    rw [List.map_set]
    rfl
  | .t ts, d, fr => by
    cases d with
    | tup ds =>
      rw [sh_tup]
      exact binds_sh k ts ds fr
    | frz _ =>
      rw [sh_frz]
      rfl
    | _ => rfl
theorem binds_sh (k : Nat) : ∀ (ts : List Tg) (ds : List D) (fr : Fr), bindTs ts (ds.map (sh k)) (shF k fr) = (bindTs ts ds fr).map (shF k)
  | [], [], fr => rfl
  | [], _ :: _, fr => rfl
  | _ :: _, [], fr => rfl
  | t :: ts, d :: ds, fr => ob (bind_sh k t d fr) fun fr' => binds_sh k ts ds fr'
end
theorem wipe_sh (k : Nat) (fr : Fr) : ∀ vs : List Nat, wipeF (shF k fr) vs = shF k (wipeF fr vs)
  | [] => rfl
  | v :: vs => by
    show (wipeF (shF k fr) vs).set v none = ((wipeF fr vs).set v none).map (Option.map (sh k))
    rw [wipe_sh k fr vs, List.map_set]
    rfl
mutual
theorem beq_sh (k : Nat) : ∀ a b : D, D.beq (sh k a) (sh k b) = D.beq a b
  | .tup as, b => by
    cases b with
    | tup bs =>
      rw [sh, sh, D.beq, D.beq]
      exact beqL_sh k as bs
    | _ => rfl
  | .frz as, b => by
    cases b with
    | frz bs =>
      rw [sh, sh, D.beq, D.beq]
      exact beqL_sh k as bs
    | _ => rfl
  | .ref a, b => by
    cases b with
    | ref c =>
      show (a + k == c + k) = (a == c)
      by_cases h : a = c
      · subst h
        rw [beq_self_eq_true, beq_self_eq_true]
      · rw [beq_false_of_ne h, beq_false_of_ne (by omega)]
    | _ => rfl
  | .non, b => by cases b <;> rfl
  | .bl _, b => by cases b <;> rfl
  | .int _, b => by cases b <;> rfl
  | .str _, b => by cases b <;> rfl
theorem beqL_sh (k : Nat) : ∀ as bs : List D, D.beqL (shL k as) (shL k bs) = D.beqL as bs
  | [], [] => rfl
  | [], _ :: _ => rfl
  | _ :: _, [] => rfl
  | a :: as, b :: bs => by
    rw [shL, shL, D.beqL, D.beqL, beq_sh k a b, beqL_sh k as bs]
end
def shW (k : Nat) (w : Wk) : Wk := (w.1.map (sh k), w.2.map (· + k))
theorem gd_sh (w : Wk) (m : Mm) : gdW (shW pre.length w) (St pre m) = gdW w m := by
  obtain ⟨ds, o⟩ := w
  cases o with
  | none => rfl
  | some n =>
    show (match (St pre m)[n + pre.length]? with | some (.lst es) => D.beqL es (ds.map (sh pre.length)) | _ => false) = (match m[n]? with | some (.lst es) => D.beqL es ds | _ => false)
    rw [St_get]
    cases m[n]? with
    | none => rfl
    | some o =>
      cases o with
      | lst es =>
        show D.beqL (es.map (sh pre.length)) (ds.map (sh pre.length)) = _
        rw [← shL_eq, ← shL_eq, beqL_sh]
      | dct _ => rfl
theorem wk_sh (a : Out) (m : Mm) : wkO (St pre m) (shO pre.length a) = (wkO m a).map (shW pre.length) := by
  cases a with
  | tmp ds => rfl
  | val d =>
    cases d with
    | ref n =>
      show (match (St pre m)[n + pre.length]? with | some (.lst ds) => some (ds, some (n + pre.length)) | _ => none) = (match m[n]? with | some (.lst ds) => some (ds, some n) | _ => none).map _
      rw [St_get]
      cases m[n]? with
      | none => rfl
      | some o => cases o <;> rfl
    | tup ds =>
      simp only [shO, sh_tup] <;> rfl
    | frz ds =>
      simp only [shO, sh_frz] <;> rfl
    | str x =>
      show some ((x.cps.toList.map fun c => D.str ⟨#[c]⟩), none) = some ((x.cps.toList.map fun c => D.str ⟨#[c]⟩).map (sh pre.length), none)
      rw [List.map_map]
      rfl
    | _ => rfl
theorem fix_sh (k : Nat) (a : Out) : fixO (shO k a) = (fixO a).map (List.map (sh k)) := by
  cases a with
  | tmp ds => rfl
  | val d => cases d <;> first | rfl | (simp only [shO, sh_tup, sh_frz] <;> rfl)
theorem enum_sh (k : Nat) : ∀ (ds : List D) (i : Nat), enumD i (ds.map (sh k)) = (enumD i ds).map (sh k)
  | [], _ => rfl
  | d :: ds, i => by
    show .tup [.int i, sh k d] :: enumD (i + 1) (ds.map (sh k)) = sh k (.tup [.int i, d]) :: (enumD (i + 1) ds).map (sh k)
    rw [enum_sh k ds, sh_tup]
    rfl
theorem zipw_sh (k : Nat) : ∀ as bs : List D, List.zipWith (fun a b => D.tup [a, b]) (as.map (sh k)) (bs.map (sh k)) = (List.zipWith (fun a b => D.tup [a, b]) as bs).map (sh k)
  | [], _ => by simp
  | _ :: _, [] => by simp
  | a :: as, b :: bs => by
    show .tup [sh k a, sh k b] :: List.zipWith (fun a b => D.tup [a, b]) (as.map (sh k)) (bs.map (sh k)) = sh k (.tup [a, b]) :: (List.zipWith (fun a b => D.tup [a, b]) as bs).map (sh k)
    rw [zipw_sh k as bs, sh_tup]
    rfl
theorem zip_sh (k : Nat) (a b : Out) : zipO (shO k a) (shO k b) = (zipO a b).map (shW k) := by
  have z : ∀ as bs : List D, some (List.zipWith (fun a b => D.tup [a, b]) (as.map (sh k)) (bs.map (sh k)), (none : Option Nat)) = some ((List.zipWith (fun a b => D.tup [a, b]) as bs).map (sh k), none) := fun as bs => by rw [zipw_sh]
  cases a with
  | tmp as =>
    cases b with
    | tmp bs => exact z as bs
    | val e => cases e <;> first | rfl | (simp only [shO, sh_tup, sh_frz]; first | rfl | exact z _ _)
  | val d =>
    cases b with
    | tmp bs => cases d <;> first | rfl | (simp only [shO, sh_tup, sh_frz]; first | rfl | exact z _ _)
    | val e => cases d <;> cases e <;> first | rfl | (simp only [shO, sh_tup, sh_frz]; first | rfl | exact z _ _)
theorem rng_sh (k : Nat) (i j : Int) : (rngD i j).map (sh k) = rngD i j := by
  unfold rngD
  rw [List.map_map]
  rfl
/-! ### loops -/
theorem loopC_sh {f f' : D → Mm → Option (Option D × Mm)} {gd gd' : Mm → Bool} (hg : ∀ m, gd' (St pre m) = gd m) (hf : ∀ d m, f' (sh pre.length d) (St pre m) = (f d m).map fun r => (r.1.map (sh pre.length), St pre r.2)) :
    ∀ (ds acc : List D) (m : Mm), loopC f' gd' (ds.map (sh pre.length)) (acc.map (sh pre.length)) (St pre m) = (loopC f gd ds acc m).map fun r => (r.1.map (sh pre.length), St pre r.2)
  | [], acc, m => by
    show (if gd' (St pre m) = true then some (acc.map (sh pre.length), St pre m) else none) = (if gd m = true then some (acc, m) else none).map _
    rw [hg]
    split <;> rfl
  | d :: ds, acc, m => by
    rw [List.map_cons, loopC, loopC, hg]
    split
    · refine ob (hf d m) fun r => ?_
      obtain ⟨y, m'⟩ := r
      cases y with
      | none => exact loopC_sh hg hf ds acc m'
      | some y =>
        show (if (acc.map (sh pre.length)).length < sizeLine then loopC f' gd' (ds.map (sh pre.length)) (acc.map (sh pre.length) ++ [sh pre.length y]) (St pre m') else none) = (if acc.length < sizeLine then loopC f gd ds (acc ++ [y]) m' else none).map _
        rw [List.length_map]
        split
        · have h := loopC_sh hg hf ds (acc ++ [y]) m'
          rw [List.map_append] at h
          exact h
        · rfl
    · rfl
def shFl (k : Nat) : Fl → Fl
  | .nx => .nx
  | .ret o => .ret (shO k o)
  | .brk => .brk
  | .cnt => .cnt
def shQ (pre : Mm) (q : Fl × Fr × Mm) : Fl × Fr × Mm := (shFl pre.length q.1, shF pre.length q.2.1, St pre q.2.2)
theorem loopF_sh {f f' : D → Fr → Mm → Option (Fl × Fr × Mm)} {gd gd' : Mm → Bool} (hg : ∀ m, gd' (St pre m) = gd m) (hf : ∀ d fr m, f' (sh pre.length d) (shF pre.length fr) (St pre m) = (f d fr m).map (shQ pre)) :
    ∀ (ds : List D) (fr : Fr) (m : Mm), loopF f' gd' (ds.map (sh pre.length)) (shF pre.length fr) (St pre m) = (loopF f gd ds fr m).map (shQ pre)
  | [], fr, m => by
    show (if gd' (St pre m) = true then some (Fl.nx, shF pre.length fr, St pre m) else none) = (if gd m = true then some (Fl.nx, fr, m) else none).map _
    rw [hg]
    split <;> rfl
  | d :: ds, fr, m => by
    rw [List.map_cons, loopF, loopF, hg]
    split
    · refine ob (hf d fr m) fun r => ?_
      obtain ⟨fl, fr', m'⟩ := r
      cases fl with
      | nx => exact loopF_sh hg hf ds fr' m'
      | cnt => exact loopF_sh hg hf ds fr' m'
      | brk => rfl
      | ret o => rfl
    · rfl
theorem loopW_sh {c c' : Fr → Mm → Option (Bool × Mm)} {f f' : Fr → Mm → Option (Fl × Fr × Mm)} (hc : ∀ fr m, c' (shF pre.length fr) (St pre m) = (c fr m).map fun r => (r.1, St pre r.2)) (hf : ∀ fr m, f' (shF pre.length fr) (St pre m) = (f fr m).map (shQ pre)) :
    ∀ (n : Nat) (fr : Fr) (m : Mm), loopW c' f' n (shF pre.length fr) (St pre m) = (loopW c f n fr m).map (shQ pre)
  | 0, fr, m => rfl
  | n + 1, fr, m => by
    rw [loopW, loopW]
    refine ob (hc fr m) fun b => ?_
    show (if b.1 = true then _ else _) = (if b.1 = true then _ else _ : Option _).map _
    split
    · refine ob (hf fr b.2) fun r => ?_
      obtain ⟨fl, fr', m'⟩ := r
      cases fl with
      | nx => exact loopW_sh hc hf n fr' m'
      | cnt => exact loopW_sh hc hf n fr' m'
      | brk => rfl
      | ret o => rfl
    · rfl
end
/-! ### the reading -/
/-- a def that heeds nothing but what it is given -/
def Loc (F : Fn) : Prop := ∀ (pre : Mm) (ds : List D) (m : Mm), F (ds.map (sh pre.length)) (St pre m) = (F ds m).map (shR pre)
structure LocG (g : Gv) : Prop where
  fns : ∀ (x : Str) (n : Nat) (F : Fn), g.phi x = some (n, F) → Loc F
  cons : ∀ (x : Str) (d : D), g.gam x = some d → ∀ k, sh k d = d
def shA (pre : Mm) (r : List D × Mm) : List D × Mm := (r.1.map (sh pre.length), St pre r.2)
def shB {α : Type} (pre : Mm) (r : α × Mm) : α × Mm := (r.1, St pre r.2)
section
variable {pre : Mm} {g : Gv}
mutual
theorem locE (hg : LocG g) : ∀ (e : E) (fr : Fr) (m : Mm), evE g e (shF pre.length fr) (St pre m) = (evE g e fr m).map (shR pre)
  | .var i, fr, m => by
    rw [evE, evE]
    refine ob (f := Option.map (sh pre.length)) (List.getElem?_map ..) fun o => ?_
    exact om rfl fun _ => rfl
  | .non, fr, m => rfl
  | .bl b, fr, m => rfl
  | .int i, fr, m => rfl
  | .str x, fr, m => rfl
  | .glb x, fr, m => by
    rw [evE, evE]
    cases h : g.gam x with
    | none => rfl
    | some d =>
      show some (Out.val d, St pre m) = some (Out.val (sh pre.length d), St pre m)
      rw [hg.cons x d h]
  | .tup es, fr, m => by
    rw [evE, evE]
    refine ob (locA hg es fr m) fun r => ?_
    show (if (r.1.map (sh pre.length)).length ≤ sizeLine then some (Out.val (.tup (r.1.map (sh pre.length))), St pre r.2) else none) = (if r.1.length ≤ sizeLine then some (Out.val (.tup r.1), r.2) else none).map _
    rw [List.length_map, ← sh_tup]
    split <;> rfl
  | .lst es, fr, m => by
    rw [evE, evE]
    refine ob (locA hg es fr m) fun r => ?_
    show (if (r.1.map (sh pre.length)).length ≤ sizeLine then some (Out.tmp (r.1.map (sh pre.length)), St pre r.2) else none) = (if r.1.length ≤ sizeLine then some (Out.tmp r.1, r.2) else none).map _
    rw [List.length_map]
    split <;> rfl
  | .dnew, fr, m => by
    show some (Out.val (.ref (St pre m).length), St pre m ++ [.dct []]) = some (Out.val (.ref (m.length + pre.length)), St pre (m ++ [.dct []]))
    rw [St_len, ← St_app]
    rfl
  | .bop o a b, fr, m => by
    rw [evE, evE]
    refine ob (locE hg a fr m) fun r => ?_
    refine ob (locE hg b fr r.2) fun q => ?_
    exact om (bop_sh o r.1 q.1) fun _ => rfl
  | .neg a, fr, m => by
    rw [evE, evE]
    refine ob (locE hg a fr m) fun r => ?_
    obtain ⟨o, m'⟩ := r
    cases o with
    | tmp _ => rfl
    | val d => cases d <;> first | rfl | (simp only [shR, shO, sh_tup, sh_frz] <;> rfl)
  | .cmp o a b, fr, m => by
    rw [evE, evE]
    refine ob (locE hg a fr m) fun r => ?_
    refine ob (locE hg b fr r.2) fun q => ?_
    show (cmpO (St pre q.2) o (shO pre.length r.1) (shO pre.length q.1)).map _ = _
    rw [cmp_sh]
    exact om Option.map_id'.symm fun _ => rfl
  | .chn o o' a b c, fr, m => by
    rw [evE, evE]
    refine ob (locE hg a fr m) fun r => ?_
    refine ob (locE hg b fr r.2) fun q => ?_
    show (cmpO (St pre q.2) o (shO pre.length r.1) (shO pre.length q.1)).bind _ = _
    rw [cmp_sh]
    refine ob Option.map_id'.symm fun z => ?_
    cases z with
    | false => rfl
    | true =>
      refine ob (locE hg c fr q.2) fun p => ?_
      show (cmpO (St pre p.2) o' (shO pre.length q.1) (shO pre.length p.1)).map _ = _
      rw [cmp_sh]
      exact om Option.map_id'.symm fun _ => rfl
  | .and es, fr, m => by
    rw [evE, evE]
    exact om (locAnd hg es fr m) fun _ => rfl
  | .or es, fr, m => by
    rw [evE, evE]
    exact om (locOr hg es fr m) fun _ => rfl
  | .not a, fr, m => by
    rw [evE, evE]
    refine ob (locE hg a fr m) fun r => ?_
    show (truO (St pre r.2) (shO pre.length r.1)).map _ = _
    rw [tru_sh]
    exact om Option.map_id'.symm fun _ => rfl
  | .ite c a b, fr, m => by
    rw [evE, evE]
    refine ob (locE hg c fr m) fun r => ?_
    show (truO (St pre r.2) (shO pre.length r.1)).bind _ = _
    rw [tru_sh]
    refine ob Option.map_id'.symm fun z => ?_
    cases z with
    | true => exact locE hg a fr r.2
    | false => exact locE hg b fr r.2
  | .ix a b, fr, m => by
    rw [evE, evE]
    refine ob (locE hg a fr m) fun r => ?_
    refine ob (locE hg b fr r.2) fun q => ?_
    exact om (ix_sh r.1 q.1) fun _ => rfl
  | .slc a lo hi, fr, m => by
    rw [evE, evE]
    refine ob (locE hg a fr m) fun r => ?_
    refine ob (locP hg lo fr r.2) fun q => ?_
    refine ob (locP hg hi fr q.2) fun p => ?_
    exact om (slc_sh r.1 q.1 p.1) fun _ => rfl
  | .call f es, fr, m => by
    rw [evE, evE]
    refine ob (locA hg es fr m) fun r => ?_
    cases h : g.phi f with
    | none => rfl
    | some F =>
      show (if F.1 = (r.1.map (sh pre.length)).length then F.2 (r.1.map (sh pre.length)) (St pre r.2) else none) = (if F.1 = r.1.length then F.2 r.1 r.2 else none).map _
      rw [List.length_map]
      split
      · exact hg.fns f F.1 F.2 h pre r.1 r.2
      · rfl
  | .blt b a, fr, m => by
    rw [evE, evE]
    exact ob (locE hg a fr m) fun r => blt_sh b r.1
  | .isi a t, fr, m => by
    rw [evE, evE]
    refine ob (locE hg a fr m) fun r => ?_
    show (tyO (St pre r.2) (shO pre.length r.1)).map _ = _
    rw [ty_sh]
    exact om Option.map_id'.symm fun _ => rfl
  | .get1 o a, fr, m => by
    rw [evE, evE]
    refine ob (locE hg o fr m) fun r => ?_
    refine ob (dct_sh r.1) fun _ => ?_
    refine ob (locE hg a fr r.2) fun q => ?_
    refine ob (dct_sh r.1) fun kvs => ?_
    obtain ⟨o1, m1⟩ := q
    cases o1 with
    | tmp _ => rfl
    | val d =>
      show (keyD (sh pre.length d)).map _ = _
      rw [key_sh]
      refine om Option.map_id'.symm fun key => ?_
      show (Out.val ((kvGet key (shK pre.length kvs)).getD .non), St pre m1) = (Out.val (sh pre.length ((kvGet key kvs).getD .non)), St pre m1)
      rw [kvGet_sh]
      cases kvGet key kvs <;> rfl
  | .get2 o a b, fr, m => by
    rw [evE, evE]
    refine ob (locE hg o fr m) fun r => ?_
    refine ob (dct_sh r.1) fun _ => ?_
    refine ob (locE hg a fr r.2) fun q => ?_
    refine ob (locE hg b fr q.2) fun p => ?_
    refine ob (dct_sh r.1) fun kvs => ?_
    obtain ⟨o1, m1⟩ := q
    obtain ⟨o2, m2⟩ := p
    cases o1 with
    | tmp _ => rfl
    | val d =>
      cases o2 with
      | tmp _ => rfl
      | val z =>
        show (keyD (sh pre.length d)).map _ = _
        rw [key_sh]
        refine om Option.map_id'.symm fun key => ?_
        show (Out.val ((kvGet key (shK pre.length kvs)).getD (sh pre.length z)), St pre m2) = (Out.val (sh pre.length ((kvGet key kvs).getD z)), St pre m2)
        rw [kvGet_sh]
        cases kvGet key kvs <;> rfl
  | .mm mx a b, fr, m => by
    rw [evE, evE]
    refine ob (locE hg a fr m) fun r => ?_
    refine ob (locE hg b fr r.2) fun q => ?_
    exact om (mm_sh pre.length mx r.1 q.1) fun _ => rfl
  | .join o a, fr, m => by
    rw [evE, evE]
    refine ob (locE hg o fr m) fun r => ?_
    show (strO (shO pre.length r.1)).bind _ = _
    rw [str_sh]
    refine ob Option.map_id'.symm fun z => ?_
    refine ob (locE hg a fr r.2) fun q => ?_
    show (joinO (St pre q.2) z (shO pre.length q.1)).map _ = _
    rw [join_sh]
    exact om Option.map_id'.symm fun _ => rfl
  | .dsp ks es, fr, m => by
    rw [evE, evE]
    have e : St pre m ++ [.dct []] = St pre (m ++ [.dct []]) := by
      rw [← St_app]
      rfl
    rw [e]
    refine ob (locA hg es fr (m ++ [.dct []])) fun r => ?_
    show dspO ks (St pre m).length (r.1.map (sh pre.length)) (St pre r.2) = _
    rw [St_len]
    exact dsp_sh ks m.length r.1 r.2
  | .ss a, fr, m => by
    rw [evE, evE]
    refine ob (locE hg a fr m) fun r => ?_
    exact om (ss_sh r.1) fun _ => rfl
  | .comp elt tg it cs own, fr, m => by
    rw [evE, evE]
    refine ob (locI hg it fr m) fun r => ?_
    refine om (f := fun q : List D × Mm => (q.1.map (sh pre.length), St pre q.2)) ?_ fun _ => rfl
    refine loopC_sh (gd_sh r.1) (fun d m' => ?_) r.1.1 [] r.2
    rw [wipe_sh]
    refine ob (bind_sh _ tg d _) fun fr1 => ?_
    refine ob (locAnd hg cs fr1 m') fun b => ?_
    show (if b.1 = true then _ else _) = (if b.1 = true then _ else _ : Option _).map _
    split
    · refine om (locE hg elt fr1 b.2) fun q => ?_
      show (some (stow (shO pre.length q.1) (St pre q.2)).1, (stow (shO pre.length q.1) (St pre q.2)).2) = _
      rw [stow_sh]
      rfl
    · rfl
theorem locA (hg : LocG g) : ∀ (es : List E) (fr : Fr) (m : Mm), evA g es (shF pre.length fr) (St pre m) = (evA g es fr m).map (shA pre)
  | [], fr, m => rfl
  | e :: es, fr, m => by
    rw [evA, evA]
    refine ob (locE hg e fr m) fun r => ?_
    show (evA g es (shF pre.length fr) (stow (shO pre.length r.1) (St pre r.2)).2).map (fun q => ((stow (shO pre.length r.1) (St pre r.2)).1 :: q.1, q.2)) = _
    rw [stow_sh]
    exact om (locA hg es fr _) fun _ => rfl
theorem locAnd (hg : LocG g) : ∀ (es : List E) (fr : Fr) (m : Mm), evAnd g es (shF pre.length fr) (St pre m) = (evAnd g es fr m).map (shB pre)
  | [], fr, m => rfl
  | e :: es, fr, m => by
    rw [evAnd, evAnd]
    refine ob (locE hg e fr m) fun r => ?_
    show (truO (St pre r.2) (shO pre.length r.1)).bind _ = _
    rw [tru_sh]
    refine ob Option.map_id'.symm fun z => ?_
    cases z with
    | true => exact locAnd hg es fr r.2
    | false => rfl
theorem locOr (hg : LocG g) : ∀ (es : List E) (fr : Fr) (m : Mm), evOr g es (shF pre.length fr) (St pre m) = (evOr g es fr m).map (shB pre)
  | [], fr, m => rfl
  | e :: es, fr, m => by
    rw [evOr, evOr]
    refine ob (locE hg e fr m) fun r => ?_
    show (truO (St pre r.2) (shO pre.length r.1)).bind _ = _
    rw [tru_sh]
    refine ob Option.map_id'.symm fun z => ?_
    cases z with
    | true => rfl
    | false => exact locOr hg es fr r.2
theorem locP (hg : LocG g) : ∀ (e : Option E) (fr : Fr) (m : Mm), evP g e (shF pre.length fr) (St pre m) = (evP g e fr m).map (shB pre)
  | none, fr, m => rfl
  | some e, fr, m => by
    rw [evP, evP]
    refine ob (locE hg e fr m) fun r => ?_
    show (bndO (shO pre.length r.1)).map _ = _
    rw [bnd_sh]
    exact om Option.map_id'.symm fun _ => rfl
theorem locI (hg : LocG g) : ∀ (it : It) (fr : Fr) (m : Mm), evI g it (shF pre.length fr) (St pre m) = (evI g it fr m).map fun r => (shW pre.length r.1, St pre r.2)
  | .e a, fr, m => by
    rw [evI, evI]
    refine ob (locE hg a fr m) fun r => ?_
    exact om (wk_sh r.1 r.2) fun _ => rfl
  | .rng1 a, fr, m => by
    rw [evI, evI]
    refine ob (locE hg a fr m) fun r => ?_
    show (bndO (shO pre.length r.1)).bind _ = _
    rw [bnd_sh]
    refine ob Option.map_id'.symm fun j => ?_
    show (if inR j = true then some ((rngD 0 j, none), St pre r.2) else none) = (if inR j = true then some ((rngD 0 j, none), r.2) else none).map _
    split
    · show _ = some (((rngD 0 j).map (sh pre.length), none), St pre r.2)
      rw [rng_sh]
    · rfl
  | .rng2 a b, fr, m => by
    rw [evI, evI]
    refine ob (locE hg a fr m) fun r => ?_
    refine ob (locE hg b fr r.2) fun q => ?_
    show (bndO (shO pre.length r.1)).bind _ = _
    rw [bnd_sh]
    refine ob Option.map_id'.symm fun i => ?_
    show (bndO (shO pre.length q.1)).bind _ = _
    rw [bnd_sh]
    refine ob Option.map_id'.symm fun j => ?_
    show (if (inR i && inR j) = true then some ((rngD i j, none), St pre q.2) else none) = (if (inR i && inR j) = true then some ((rngD i j, none), q.2) else none).map _
    split
    · show _ = some (((rngD i j).map (sh pre.length), none), St pre q.2)
      rw [rng_sh]
    · rfl
  | .enum a, fr, m => by
    rw [evI, evI]
    refine ob (locE hg a fr m) fun r => ?_
    refine om (fix_sh _ r.1) fun ds => ?_
    show ((enumD 0 (ds.map (sh pre.length)), none), St pre r.2) = (((enumD 0 ds).map (sh pre.length), none), St pre r.2)
    rw [enum_sh]
  | .zip a b, fr, m => by
    rw [evI, evI]
    refine ob (locE hg a fr m) fun r => ?_
    refine ob (locE hg b fr r.2) fun q => ?_
    exact om (zip_sh _ r.1 q.1) fun _ => rfl
  | .rev a, fr, m => by
    rw [evI, evI]
    refine ob (locE hg a fr m) fun r => ?_
    refine om (f := shW pre.length) ?_ fun _ => rfl
    unfold revO
    refine om (fix_sh _ r.1) fun ds => ?_
    show ((ds.map (sh pre.length)).reverse, none) = ((ds.reverse).map (sh pre.length), none)
    rw [List.map_reverse]
end
end
end Nb

/-! Nb24: .. statements, defs -/
namespace Nb
open PySem PySem.Spec L2
section
variable {pre : Mm} {g : Gv}
theorem upd_sh {f f' : List D → Option (List D)} (h : ∀ ds, f' (ds.map (sh pre.length)) = (f ds).map (List.map (sh pre.length))) (o : Out) (m : Mm) : updL (St pre m) (shO pre.length o) f' = (updL m o f).map (St pre) := by
  cases o with
  | tmp _ => rfl
  | val d =>
    cases d with
    | ref n =>
      show (match (St pre m)[n + pre.length]? with | some (.lst ds) => (f' ds).map fun es => (St pre m).set (n + pre.length) (.lst es) | _ => none) = (match m[n]? with | some (.lst ds) => (f ds).map fun es => m.set n (.lst es) | _ => none).map _
      rw [St_get]
      cases m[n]? with
      | none => rfl
      | some o =>
        cases o with
        | lst ds => exact om (h ds) fun es => St_set (a := .lst es)
        | dct _ => rfl
    | tup _ => simp only [shO, sh_tup] <;> rfl
    | frz _ => simp only [shO, sh_frz] <;> rfl
    | _ => rfl
theorem put_sh (a i : Out) (d : D) (m : Mm) : putO (St pre m) (shO pre.length a) (shO pre.length i) (sh pre.length d) = (putO m a i d).map (St pre) := by
  cases a with
  | tmp _ => rfl
  | val x =>
    cases x with
    | ref n =>
      show (match (St pre m)[n + pre.length]? with
        | some (.dct kvs) => (match shO pre.length i with
          | .val k => (keyD k).bind fun k => if kvs.length < sizeLine then some ((St pre m).set (n + pre.length) (.dct (kvPut k (sh pre.length d) kvs))) else none
          | .tmp _ => none)
        | some (.lst ds) => (bndO (shO pre.length i)).bind fun j => (ixN ds.length j).map fun k => (St pre m).set (n + pre.length) (.lst (ds.set k (sh pre.length d)))
        | none => none) = (match m[n]? with
        | some (.dct kvs) => (match i with
          | .val k => (keyD k).bind fun k => if kvs.length < sizeLine then some (m.set n (.dct (kvPut k d kvs))) else none
          | .tmp _ => none)
        | some (.lst ds) => (bndO i).bind fun j => (ixN ds.length j).map fun k => m.set n (.lst (ds.set k d))
        | none => none).map _
      rw [St_get]
      cases m[n]? with
      | none => rfl
      | some o =>
        cases o with
        | lst ds =>
          show (bndO (shO pre.length i)).bind (fun j => (ixN (ds.map (sh pre.length)).length j).map fun k => (St pre m).set (n + pre.length) (.lst ((ds.map (sh pre.length)).set k (sh pre.length d)))) = ((bndO i).bind fun j => (ixN ds.length j).map fun k => m.set n (.lst (ds.set k d))).map _
          rw [bnd_sh, List.length_map]
          refine ob Option.map_id'.symm fun j => ?_
          refine om Option.map_id'.symm fun k => ?_
          rw [← List.map_set]
          exact St_set (a := .lst (ds.set k d))
        | dct kvs =>
          cases i with
          | tmp _ => rfl
          | val k =>
            show (keyD (sh pre.length k)).bind (fun k => if (shK pre.length kvs).length < sizeLine then some ((St pre m).set (n + pre.length) (.dct (kvPut k (sh pre.length d) (shK pre.length kvs)))) else none) = ((keyD k).bind fun k => if kvs.length < sizeLine then some (m.set n (.dct (kvPut k d kvs))) else none).map _
            rw [key_sh]
            refine ob Option.map_id'.symm fun key => ?_
            have e : (shK pre.length kvs).length = kvs.length := List.length_map ..
            rw [e, kvPut_sh]
            split
            · exact congrArg some (St_set (a := .dct (kvPut key d kvs)))
            · rfl
    | tup _ => simp only [shO, sh_tup] <;> rfl
    | frz _ => simp only [shO, sh_frz] <;> rfl
    | _ => rfl
theorem ext_sh (o : Out) (m : Mm) : extO (St pre m) (shO pre.length o) = (extO m o).map (List.map (sh pre.length)) := by
  cases o with
  | tmp _ => rfl
  | val d =>
    cases d with
    | tup _ => simp only [shO, sh_tup] <;> rfl
    | ref n => exact lst_sh (.val (.ref n))
    | frz _ => simp only [shO, sh_frz] <;> rfl
    | _ => rfl
theorem tst_sh (hg : LocG g) (e : E) (fr : Fr) (m : Mm) : tst (evE g e) (shF pre.length fr) (St pre m) = (tst (evE g e) fr m).map fun r => (r.1, St pre r.2) := by
  unfold tst
  refine ob (locE hg e fr m) fun r => ?_
  show (truO (St pre r.2) (shO pre.length r.1)).map _ = _
  rw [tru_sh]
  exact om Option.map_id'.symm fun _ => rfl
mutual
theorem locS (hg : LocG g) : ∀ (s : S) (fr : Fr) (m : Mm), evS g s (shF pre.length fr) (St pre m) = (evS g s fr m).map (shQ pre)
  | .asg tg e, fr, m => by
    rw [evS, evS]
    refine ob (locE hg e fr m) fun r => ?_
    show (bindT tg (stow (shO pre.length r.1) (St pre r.2)).1 (shF pre.length fr)).map (fun fr' => (Fl.nx, fr', (stow (shO pre.length r.1) (St pre r.2)).2)) = _
    rw [stow_sh]
    exact om (bind_sh _ tg _ fr) fun _ => rfl
  | .sub o i e, fr, m => by
    rw [evS, evS]
    refine ob (locE hg e fr m) fun r => ?_
    show (evE g o (shF pre.length fr) (stow (shO pre.length r.1) (St pre r.2)).2).bind (fun ro => (evE g i (shF pre.length fr) ro.2).bind fun ri => (putO ri.2 ro.1 ri.1 (stow (shO pre.length r.1) (St pre r.2)).1).map fun m' => (Fl.nx, shF pre.length fr, m')) = _
    rw [stow_sh]
    refine ob (locE hg o fr _) fun ro => ?_
    refine ob (locE hg i fr ro.2) fun ri => ?_
    exact om (put_sh ro.1 ri.1 _ ri.2) fun _ => rfl
  | .exp e, fr, m => by
    rw [evS, evS]
    exact om (locE hg e fr m) fun _ => rfl
  | .app o e, fr, m => by
    rw [evS, evS]
    refine ob (locE hg o fr m) fun r => ?_
    refine ob (lst_sh r.1) fun _ => ?_
    refine ob (locE hg e fr r.2) fun q => ?_
    show (updL (stow (shO pre.length q.1) (St pre q.2)).2 (shO pre.length r.1) fun ds => if ds.length < sizeLine then some (ds ++ [(stow (shO pre.length q.1) (St pre q.2)).1]) else none).map _ = _
    rw [stow_sh]
    refine om (upd_sh (fun ds => ?_) r.1 _) fun _ => rfl
    show (if (ds.map (sh pre.length)).length < sizeLine then some (ds.map (sh pre.length) ++ [sh pre.length (stow q.1 q.2).1]) else none) = (if ds.length < sizeLine then some (ds ++ [(stow q.1 q.2).1]) else none).map _
    rw [List.length_map]
    split
    · rw [Option.map_some, List.map_append]
      rfl
    · rfl
  | .ext o e, fr, m => by
    rw [evS, evS]
    refine ob (locE hg o fr m) fun r => ?_
    refine ob (lst_sh r.1) fun _ => ?_
    refine ob (locE hg e fr r.2) fun q => ?_
    refine ob (ext_sh q.1 q.2) fun es => ?_
    refine om (upd_sh (fun ds => ?_) r.1 _) fun _ => rfl
    show (if (ds.map (sh pre.length)).length + (es.map (sh pre.length)).length ≤ sizeLine then some (ds.map (sh pre.length) ++ es.map (sh pre.length)) else none) = (if ds.length + es.length ≤ sizeLine then some (ds ++ es) else none).map _
    rw [List.length_map, List.length_map]
    split
    · rw [Option.map_some, List.map_append]
    · rfl
  | .mrev o, fr, m => by
    rw [evS, evS]
    refine ob (locE hg o fr m) fun r => ?_
    refine om (upd_sh (fun ds => ?_) r.1 r.2) fun _ => rfl
    rw [Option.map_some, List.map_reverse]
  | .clr o, fr, m => by
    rw [evS, evS]
    refine ob (locE hg o fr m) fun r => ?_
    exact om (upd_sh (fun ds => rfl) r.1 r.2) fun _ => rfl
  | .ins o i e, fr, m => by
    rw [evS, evS]
    refine ob (locE hg o fr m) fun r => ?_
    refine ob (lst_sh r.1) fun _ => ?_
    refine ob (locE hg i fr r.2) fun ri => ?_
    refine ob (locE hg e fr ri.2) fun q => ?_
    show (bndO (shO pre.length ri.1)).bind _ = _
    rw [bnd_sh]
    refine ob Option.map_id'.symm fun j => ?_
    show (updL (stow (shO pre.length q.1) (St pre q.2)).2 (shO pre.length r.1) fun ds => if ds.length < sizeLine ∧ 0 ≤ j ∧ j < 2 ^ 63 then some (ds.take j.toNat ++ [(stow (shO pre.length q.1) (St pre q.2)).1] ++ ds.drop j.toNat) else none).map _ = _
    rw [stow_sh]
    refine om (upd_sh (fun ds => ?_) r.1 _) fun _ => rfl
    show (if (ds.map (sh pre.length)).length < sizeLine ∧ 0 ≤ j ∧ j < 2 ^ 63 then some ((ds.map (sh pre.length)).take j.toNat ++ [sh pre.length (stow q.1 q.2).1] ++ (ds.map (sh pre.length)).drop j.toNat) else none) = (if ds.length < sizeLine ∧ 0 ≤ j ∧ j < 2 ^ 63 then some (ds.take j.toNat ++ [(stow q.1 q.2).1] ++ ds.drop j.toNat) else none).map _
    rw [List.length_map]
    split
    · rw [Option.map_some, List.map_append, List.map_append, List.map_take, List.map_drop]
      rfl
    · rfl
  | .ret e, fr, m => by
    rw [evS, evS]
    exact om (locE hg e fr m) fun _ => rfl
  | .retn, fr, m => rfl
  | .ife c a b, fr, m => by
    rw [evS, evS]
    refine ob (tst_sh hg c fr m) fun r => ?_
    show (if r.1 = true then _ else _) = (if r.1 = true then _ else _ : Option _).map _
    split
    · exact locSs hg a fr r.2
    · exact locSs hg b fr r.2
  | .for_ tg it body, fr, m => by
    rw [evS, evS]
    refine ob (locI hg it fr m) fun r => ?_
    exact loopF_sh (gd_sh r.1) (fun d fr m => ob (bind_sh _ tg d fr) fun fr1 => locSs hg body fr1 m) r.1.1 fr r.2
  | .whl c body, fr, m => by
    rw [evS, evS]
    exact loopW_sh (tst_sh hg c) (locSs hg body) _ fr m
  | .pass, fr, m => rfl
  | .brk, fr, m => rfl
  | .cnt, fr, m => rfl
  | .raise, fr, m => rfl
theorem locSs (hg : LocG g) : ∀ (ss : List S) (fr : Fr) (m : Mm), evSs g ss (shF pre.length fr) (St pre m) = (evSs g ss fr m).map (shQ pre)
  | [], fr, m => rfl
  | s :: ss, fr, m => by
    rw [evSs, evSs]
    refine ob (locS hg s fr m) fun q => ?_
    obtain ⟨fl, fr', m'⟩ := q
    cases fl with
    | nx => exact locSs hg ss fr' m'
    | ret o => rfl
    | brk => rfl
    | cnt => rfl
end
end
theorem loc_run {g : Gv} (hg : LocG g) (n : Nat) (body : List S) : Loc (runF g n body) := by
  intro pre ds m
  unfold runF
  have e : (ds.map (sh pre.length)).map some ++ List.replicate (n - (ds.map (sh pre.length)).length) none = shF pre.length (ds.map some ++ List.replicate (n - ds.length) none) := by
    unfold shF
    rw [List.length_map, List.map_append, List.map_map, List.map_map, List.map_replicate]
    rfl
  rw [e]
  refine ob (locSs hg body _ m) fun q => ?_
  obtain ⟨fl, fr', m'⟩ := q
  cases fl <;> rfl
theorem loc_none : Loc fun _ _ => none := fun _ _ _ => rfl
theorem loc_rec {g : Fn → Gv} (hg : ∀ F, Loc F → LocG (g F)) (n : Nat) (body : List S) : ∀ k, Loc (recF g n body k)
  | 0 => loc_none
  | k + 1 => loc_run (hg _ (loc_rec hg n body k)) n body
def LocL : List (Str × Nat × Fn) → Prop
  | [] => True
  | p :: ps => Loc p.2.2 ∧ LocL ps
theorem LocL.nil : LocL [] := trivial
theorem LocL.cons {x : Str} {n : Nat} {F : Fn} {ps : List (Str × Nat × Fn)} (h : Loc F) (t : LocL ps) : LocL ((x, n, F) :: ps) := And.intro h t
theorem LocL.of {fs : List (Str × Nat × Fn)} (h : LocL fs) : ∀ (x : Str) (n : Nat) (F : Fn), fs.lookup x = some (n, F) → Loc F := by
  induction fs with
  | nil => exact fun x n F e => nomatch e
  | cons p ps ih =>
    intro x n F e
    obtain ⟨y, q⟩ := p
    rw [List.lookup_cons] at e
    cases hx : (x == y) with
    | true =>
      rw [hx] at e
      cases e
      exact h.1
    | false =>
      rw [hx] at e
      exact ih h.2 x n F e
mutual
/-- no reference within -/
def nrD : D → Bool
  | .tup ds => nrL ds
  | .frz ds => nrL ds
  | .ref _ => false
  | _ => true
def nrL : List D → Bool
  | [] => true
  | d :: ds => nrD d && nrL ds
end
mutual
theorem nr_sh : ∀ (d : D), nrD d = true → ∀ k, sh k d = d
  | .non, _, k => rfl
  | .bl _, _, k => rfl
  | .int _, _, k => rfl
  | .str _, _, k => rfl
  | .tup ds, h, k => by
    rw [sh, nrL_sh ds (by simpa only [nrD] using h) k]
  | .frz ds, h, k => by
    rw [sh, nrL_sh ds (by simpa only [nrD] using h) k]
  | .ref _, h, k => by cases h
theorem nrL_sh : ∀ (ds : List D), nrL ds = true → ∀ k, shL k ds = ds
  | [], _, k => rfl
  | d :: ds, h, k => by
    simp only [nrL, Bool.and_eq_true] at h
    rw [shL, nr_sh d h.1 k, nrL_sh ds h.2 k]
end
mutual
theorem nr_ok : ∀ d : D, okD d = true → nrD d = true
  | .non, _ => rfl
  | .bl _, _ => rfl
  | .int _, _ => rfl
  | .str _, _ => rfl
  | .tup ds, h => by simpa only [nrD] using nr_oks ds (by simpa only [okD] using h)
  | .frz ds, h => by simpa only [nrD] using nr_oks ds (by simpa only [okD] using h)
  | .ref _, h => by cases h
theorem nr_oks : ∀ ds : List D, okDs ds = true → nrL ds = true
  | [], _ => rfl
  | d :: ds, h => by
    simp only [okDs, Bool.and_eq_true] at h
    rw [nrL, nr_ok d h.1, nr_oks ds h.2]
    rfl
end
theorem loc_gv {fs : List (Str × Nat × Fn)} {cs : List (Str × D)} (h : LocL fs) (hc : (cs.all fun p => nrD p.2) = true) : LocG (gv fs cs) := by
  refine ⟨h.of, fun x d e => ?_⟩
  have e : cs.lookup x = some d := e
  induction cs with
  | nil => cases e
  | cons p ps ih =>
    obtain ⟨y, q⟩ := p
    rw [List.all_cons, Bool.and_eq_true] at hc
    rw [List.lookup_cons] at e
    cases hx : (x == y) with
    | true =>
      rw [hx] at e
      cases e
      exact nr_sh _ hc.1
    | false =>
      rw [hx] at e
      exact ih hc.2 e e
/-- what a def tells of plain data, computed over no store -/
def pv (F : Fn) (ds : List D) : Option D := match F ds [] with
  | some (.val d, _) => if nrD d = true then some d else none
  | _ => none
theorem pv_run {F : Fn} (h : Loc F) {ds : List D} {d : D} (hd : nrL ds = true) (e : pv F ds = some d) (m : Mm) : ∃ a, F ds m = some (.val d, m ++ a) := by
  unfold pv at e
  split at e
  · rename_i d' m' e2
    obtain ⟨hn, e3⟩ := ite_some2 e
    cases e3
    have q := h m ds []
    rw [e2, ← shL_eq, nrL_sh ds hd] at q
    have q2 : F ds m = some (.val (sh m.length d), St m m') := by
      have : St m [] = m := by
        unfold St
        simp
      rw [this] at q
      exact q
    rw [nr_sh d hn] at q2
    exact ⟨_, q2⟩
  · cases e
/-- .. and lays nothing -/
def pz (F : Fn) (ds : List D) : Option D := match F ds [] with
  | some (.val d, []) => if nrD d = true then some d else none
  | _ => none
theorem pz_run {F : Fn} (h : Loc F) {ds : List D} {d : D} (hd : nrL ds = true) (e : pz F ds = some d) (m : Mm) : F ds m = some (.val d, m) := by
  unfold pz at e
  split at e
  · rename_i d' e2
    obtain ⟨hn, e3⟩ := ite_some2 e
    cases e3
    have q := h m ds []
    have z : St m [] = m := by
      unfold St
      simp
    rw [e2, ← shL_eq, nrL_sh ds hd, z] at q
    have q2 : F ds m = some (.val (sh m.length d), St m []) := q
    rw [nr_sh d hn, z] at q2
    exact q2
  · cases e
end Nb

/-! Nb25: more for plain runs -/
namespace Nb
open PySem PySem.Spec L2
theorem rng_nil {i j : Int} (h : j ≤ i) : rngD i j = [] := by
  unfold rngD
  rw [show (j - i).toNat = 0 by omega]
  rfl
theorem rng_cons {i j : Int} (h : i < j) : rngD i j = .int i :: rngD (i + 1) j := by
  unfold rngD
  obtain ⟨n, hn⟩ : ∃ n, (j - i).toNat = n + 1 := ⟨(j - i).toNat - 1, by omega⟩
  rw [hn, show (j - (i + 1)).toNat = n by omega, List.range_succ_eq_map, List.map_cons, List.map_map]
  have e : i + ((0 : Nat) : Int) = i := by omega
  rw [e]
  refine congrArg (D.int i :: ·) (List.map_congr_left fun k _ => ?_)
  show D.int (i + ((k + 1 : Nat) : Int)) = D.int (i + 1 + (k : Int))
  rw [show i + ((k + 1 : Nat) : Int) = i + 1 + (k : Int) by omega]
theorem at_app {α : Type} {pre suf : List α} {x : α} : atI (pre ++ x :: suf) (pre.length : Int) = some x := by
  rw [atI_nat, List.getElem?_append_right (Nat.le_refl _), Nat.sub_self]
  rfl
/-! two cells behind a store -/
theorem end2a {m : Mm} {a b : MO} : (m ++ [a, b])[m.length]? = some a := by
  rw [List.getElem?_append_right (Nat.le_refl _), Nat.sub_self]
  rfl
theorem end2b {m : Mm} {a b : MO} : (m ++ [a, b])[m.length + 1]? = some b := by
  rw [List.getElem?_append_right (by omega), Nat.add_sub_cancel_left]
  rfl
theorem end2s {m : Mm} {a b x : MO} : (m ++ [a, b]).set (m.length + 1) x = m ++ [a, x] := by
  rw [List.set_append_right _ _ (by omega), Nat.add_sub_cancel_left]
  rfl
theorem end2r {m : Mm} {a b x : MO} : (m ++ [a, b]).set m.length x = m ++ [x, b] := by
  rw [List.set_append_right _ _ (Nat.le_refl _), Nat.sub_self]
  rfl
theorem rngLen {g : Gv} {a : E} {fr : Fr} {m m' : Mm} {j : Int} (h : evE g a fr m = some (.val (.int j), m')) (hr : inR j = true) : evI g (.rng1 a) fr m = some ((rngD 0 j, none), m') := by
  rw [evI, h]
  show (if inR j = true then _ else _) = _
  rw [if_pos hr]
theorem wk_tmp {m : Mm} {ds : List D} : wkO m (.tmp ds) = some (ds, none) := rfl
theorem int_bl {m : Mm} {b : Bool} : bltO .int_ m (.val (.bl b)) = some (.val (.int (if b then 1 else 0)), m) := rfl
theorem zip_tt {as bs : List D} : zipO (.val (.tup as)) (.val (.tup bs)) = some (List.zipWith (fun a b => .tup [a, b]) as bs, none) := rfl
theorem cnt {l : List D} {lo hi : Int} (hq : ∀ d ∈ l, ∃ c, d = .int c ∧ lo ≤ c ∧ c ≤ hi) {r : Int} (r0 : 0 ≤ r) (r1 : r < l.length) : ∃ c, atI l r = some (.int c) ∧ lo ≤ c ∧ c ≤ hi := by
  obtain ⟨q, e, hm, _⟩ := atI_lt r0 r1
  obtain ⟨c, rfl, c0, c1⟩ := hq q hm
  exact ⟨c, e, c0, c1⟩
/-! texts in a list -/
theorem pdDs_strs : ∀ xs : List Str, pdDs (xs.map D.str) = xs.map PyData.str
  | [] => rfl
  | x :: xs => by rw [List.map_cons, pdDs, pdDs_strs xs, List.map_cons, pdD]
theorem okDs_strs : ∀ {xs : List Str}, (∀ x ∈ xs, PyData.strOk x = true) → okDs (xs.map D.str) = true ∧ dpDs (xs.map D.str) = 0
  | [], _ => ⟨rfl, rfl⟩
  | x :: xs, h => by
    obtain ⟨h1, h2⟩ := okDs_strs (xs := xs) fun y hy => h y (List.mem_cons_of_mem _ hy)
    simp only [List.map_cons, okDs, okD, dpDs, dpD, h x List.mem_cons_self, h1, h2]
    exact ⟨rfl, rfl⟩
theorem eqv_str {a b : Str} : PyData.eqv (.str a) (.str b) = decide (a = b) := by
  rw [PyData.eqv]
  by_cases h : a = b
  · subst h
    simp
  · simp [h]
theorem shaped_str {x : Str} (h : PyData.strOk x = true) : SeqAt.shaped (.str x) = true := by
  unfold SeqAt.shaped
  simp only [PyData.canLay0, PyData.depth, h, Bool.true_and]
  rfl
theorem any_strs {x : Str} : ∀ {xs : List Str}, ((xs.map PyData.str).any fun z => PyData.eqv z (.str x)) = decide (x ∈ xs)
  | [] => by simp
  | y :: ys => by
    rw [List.map_cons, List.any_cons, any_strs, eqv_str]
    by_cases h : y = x
    · subst h
      simp
    · have h' : ¬ x = y := fun e => h e.symm
      simp [h, h', List.mem_cons]
theorem in_strs {m : Mm} {n : Nat} {xs : List Str} {x : Str} (h : m[n]? = some (.lst (xs.map D.str))) (hx : PyData.strOk x = true) (ho : ∀ y ∈ xs, PyData.strOk y = true) : inO m (.val (.str x)) (.val (.ref n)) = some (decide (x ∈ xs)) := by
  obtain ⟨o1, o2⟩ := okDs_strs ho
  have e1 : toP m (.val (.ref n)) = some (.list (xs.map PyData.str)) := by
    show (match m[n]? with
      | some (.lst ds) => (dps (rp m 63) ds).map PyData.list
      | _ => none) = _
    rw [h]
    show (dps (rp m 63) (xs.map D.str)).map PyData.list = _
    rw [pd_dps _ _ o1, pdDs_strs]
    rfl
  have e2 : SeqAt.shaped (.list (xs.map PyData.str)) = true := by
    obtain ⟨g1, g2, _, _⟩ := pd_lays _ o1
    rw [pdDs_strs] at g1 g2
    unfold SeqAt.shaped
    simp only [PyData.canLay0, PyData.depth, g1, g2, o2, Bool.true_and]
    decide
  have e0 : dctO m (.val (.ref n)) = none := dct_lst h
  unfold inO
  rw [e0]
  show (match toP m (.val (.str x)), toP m (.val (.ref n)) with
      | some p, some (.list qs) => if SeqAt.shaped p && SeqAt.shaped (.list qs) then some (qs.any fun z => PyData.eqv z p) else none
      | some p, some (.tuple qs) => if flatP p && qs.all flatP then some (qs.any fun z => PyData.eqv z p) else none
      | _, _ => none) = _
  have e3 : toP m (.val (.str x)) = some (.str x) := rfl
  rw [e3, e1]
  show (if SeqAt.shaped (.str x) && SeqAt.shaped (.list (xs.map PyData.str)) then some ((xs.map PyData.str).any fun z => PyData.eqv z (.str x)) else none) = _
  rw [shaped_str hx, e2, any_strs]
  rfl
theorem in_dct {m : Mm} {n : Nat} {kvs : List (Key × D)} {d : D} (h : m[n]? = some (.dct kvs)) : inO m (.val d) (.val (.ref n)) = (keyD d).map fun k => (kvGet k kvs).isSome := by
  unfold inO
  rw [dct_ref h]
/-! dicts by texts -/
def strK (kvs : List (Key × D)) : Prop := ∀ p ∈ kvs, ∃ x, p.1 = Sum.inr x
def keysS (kvs : List (Key × D)) : List Str := kvs.map fun p => match p.1 with
  | .inr x => x
  | .inl _ => ""
theorem allKeyS_of : ∀ {kvs : List (Key × D)}, strK kvs → allKeyS kvs = some (keysS kvs)
  | [], _ => rfl
  | (k, d) :: r, h => by
    obtain ⟨x, hx⟩ := h _ List.mem_cons_self
    have hx : k = .inr x := hx
    subst hx
    show (allKeyS r).map (fun xs => x :: xs) = _
    rw [allKeyS_of fun p hp => h p (List.mem_cons_of_mem _ hp)]
    rfl
theorem keysS_len {kvs : List (Key × D)} : (keysS kvs).length = kvs.length := List.length_map ..
theorem sorted_dct {m : Mm} {n : Nat} {kvs : List (Key × D)} (h : m[n]? = some (.dct kvs)) (hk : strK kvs) (hl : kvs.length < 64) : sortedO m (.val (.ref n)) = some ((sortS (keysS kvs)).map .str) := by
  unfold sortedO
  rw [dct_ref h]
  show (allKeyS kvs).bind _ = _
  rw [allKeyS_of hk]
  show (if (keysS kvs).length < 64 then _ else _) = _
  rw [if_pos (by rw [keysS_len]; exact hl)]
theorem kvGet_mem {k : Key} {v : D} : ∀ {kvs : List (Key × D)}, kvGet k kvs = some v → (k, v) ∈ kvs
  | [], h => by cases h
  | (a, d) :: r, h => by
    rw [kvGet_cons] at h
    by_cases e : a = k
    · rw [if_pos e] at h
      cases h
      rw [e]
      exact List.mem_cons_self
    · rw [if_neg e] at h
      exact List.mem_cons_of_mem _ (kvGet_mem h)
theorem kvGet_has {k : Key} : ∀ {kvs : List (Key × D)} {v : D}, (k, v) ∈ kvs → ∃ w, kvGet k kvs = some w
  | [], v, h => nomatch h
  | (a, d) :: r, v, h => by
    rw [kvGet_cons]
    by_cases e : a = k
    · exact ⟨d, if_pos e⟩
    · rw [if_neg e]
      rcases List.mem_cons.mp h with h | h
      · cases h
        exact absurd rfl e
      · exact kvGet_has h
theorem keysS_mem {kvs : List (Key × D)} (hk : strK kvs) {x : Str} (h : x ∈ keysS kvs) : ∃ w, kvGet (.inr x) kvs = some w ∧ (Sum.inr x, w) ∈ kvs := by
  obtain ⟨⟨k, v⟩, hp, e⟩ := List.mem_map.mp h
  obtain ⟨y, hy⟩ := hk _ hp
  have hy : k = .inr y := hy
  subst hy
  have e : y = x := e
  subst e
  obtain ⟨w, hw⟩ := kvGet_has hp
  exact ⟨w, hw, kvGet_mem hw⟩
theorem sortS_mem {xs : List Str} {x : Str} : x ∈ sortS xs ↔ x ∈ xs := (sortS_perm xs).mem_iff
theorem sortS_len {xs : List Str} : (sortS xs).length = xs.length := (sortS_perm xs).length_eq
theorem kvPut_mem {k : Key} {d : D} {kvs : List (Key × D)} {p : Key × D} (h : p ∈ kvPut k d kvs) : p = (k, d) ∨ p ∈ kvs := by
  unfold kvPut at h
  split at h
  · obtain ⟨q, hq, e⟩ := List.mem_map.mp h
    split at e
    · rename_i hk
      subst e
      rw [hk]
      exact .inl rfl
    · subst e
      exact .inr hq
  · rcases List.mem_append.mp h with h | h
    · exact .inr h
    · exact .inl (List.mem_singleton.mp h)
theorem kvPut_len {k : Key} {d : D} {kvs : List (Key × D)} : (kvPut k d kvs).length ≤ kvs.length + 1 := by
  unfold kvPut
  split
  · rw [List.length_map]
    omega
  · rw [List.length_append]
    exact Nat.le_refl _
/-- pairs of a name and a value -/
def nmD (p : Str × D) : D := .tup [.str p.1, p.2]
theorem nmD_mk {a : Str} {b : D} : nmD (a, b) = .tup [.str a, b] := rfl
def kvsS (ps : List (Str × D)) : List (Key × D) := ps.map fun p => (.inr p.1, p.2)
theorem pairs_nm : ∀ ps : List (Str × D), pairsD (ps.map nmD) = some (kvsS ps)
  | [] => rfl
  | p :: ps => by
    show ((keyD (.str p.1)).bind fun k => (pairsD (ps.map nmD)).map fun q => (k, p.2) :: q) = _
    rw [pairs_nm ps]
    rfl
theorem mergeD_mem : ∀ {more kvs : List (Key × D)} {p : Key × D}, p ∈ mergeD kvs more → p ∈ kvs ∨ p ∈ more
  | [], _, _, h => .inl h
  | (k, d) :: r, kvs, p, h => by
    have h : p ∈ mergeD (kvPut k d kvs) r := h
    rcases mergeD_mem h with h | h
    · rcases kvPut_mem h with rfl | h
      · exact .inr List.mem_cons_self
      · exact .inl h
    · exact .inr (List.mem_cons_of_mem _ h)
theorem mergeD_len : ∀ {more kvs : List (Key × D)}, (mergeD kvs more).length ≤ kvs.length + more.length
  | [], _ => Nat.le_refl _
  | (k, d) :: r, kvs => by
    have h : (mergeD (kvPut k d kvs) r).length ≤ (kvPut k d kvs).length + r.length := mergeD_len
    have := kvPut_len (k := k) (d := d) (kvs := kvs)
    show (mergeD (kvPut k d kvs) r).length ≤ _
    rw [List.length_cons]
    omega
/-! comprehensions -/
theorem loopC_map {ff : D → Mm → Option (Option D × Mm)} {gd : Mm → Bool} {h : D → D} {m : Mm} (hg : gd m = true) : ∀ {ds acc : List D}, (∀ d ∈ ds, ff d m = some (some (h d), m)) → acc.length + ds.length ≤ sizeLine → loopC ff gd ds acc m = some (acc ++ ds.map h, m)
  | [], acc, _, _ => by
    rw [List.map_nil, List.append_nil]
    exact if_pos hg
  | d :: ds, acc, hs, hl => by
    rw [List.length_cons] at hl
    have e2 : loopC ff gd (d :: ds) acc m = (ff d m).bind fun r => match r.1 with
      | none => loopC ff gd ds acc r.2
      | some y => if acc.length < sizeLine then loopC ff gd ds (acc ++ [y]) r.2 else none := if_pos hg
    rw [e2, hs d List.mem_cons_self]
    show (if acc.length < sizeLine then loopC ff gd ds (acc ++ [h d]) m else none) = _
    rw [if_pos (by omega), loopC_map hg (fun e he => hs e (List.mem_cons_of_mem _ he)) (by rw [List.length_append, List.length_singleton]; omega), List.map_cons, List.append_assoc]
    rfl
/-- a comprehension with a test -/
theorem loopC_fil {ff : D → Mm → Option (Option D × Mm)} {gd : Mm → Bool} {h : D → Option D} {m : Mm} (hg : gd m = true) : ∀ {ds acc : List D}, (∀ d ∈ ds, ff d m = some (h d, m)) → acc.length + ds.length ≤ sizeLine → loopC ff gd ds acc m = some (acc ++ ds.filterMap h, m)
  | [], acc, _, _ => by
    rw [List.filterMap_nil, List.append_nil]
    exact if_pos hg
  | d :: ds, acc, hs, hl => by
    rw [List.length_cons] at hl
    have e2 : loopC ff gd (d :: ds) acc m = (ff d m).bind fun r => match r.1 with
      | none => loopC ff gd ds acc r.2
      | some y => if acc.length < sizeLine then loopC ff gd ds (acc ++ [y]) r.2 else none := if_pos hg
    rw [e2, hs d List.mem_cons_self, List.filterMap_cons]
    have hs' : ∀ e ∈ ds, ff e m = some (h e, m) := fun e he => hs e (List.mem_cons_of_mem _ he)
    cases h d with
    | none =>
      show loopC ff gd ds acc m = _
      exact loopC_fil hg hs' (by omega)
    | some y =>
      show (if acc.length < sizeLine then loopC ff gd ds (acc ++ [y]) m else none) = _
      rw [if_pos (by omega), loopC_fil hg hs' (by rw [List.length_append, List.length_singleton]; omega), List.append_assoc]
      rfl
/-- a comprehension that draws -/
theorem loopC_gen {ff : D → Mm → Option (Option D × Mm)} {es : List D} (P : D → Prop) {ns : List Int} {tl : List D} {n b : Nat} (c : Nat) (step : ∀ d b m, Tp ns tl n (b + c) m → ∃ v m', ff d m = some (some v, m') ∧ P v ∧ Go ns tl n b m m') :
    ∀ {ds acc : List D} {m : Mm}, Tp ns tl n (b + c * ds.length) m → acc.length + ds.length ≤ sizeLine → ∃ vs m', loopC ff (gdW (es, none)) ds acc m = some (acc ++ vs, m') ∧ vs.length = ds.length ∧ (∀ v ∈ vs, P v) ∧ Go ns tl n b m m'
  | [], acc, m, h, _ => ⟨[], m, by rw [List.append_nil]; rfl, rfl, (fun v hv => nomatch hv), Go.refl h⟩
  | d :: ds, acc, m, h, hl => by
    rw [List.length_cons] at hl h
    obtain ⟨v, m1, e1, hv, G1⟩ := step d (b + c * ds.length) m (h.less (by rw [Nat.mul_add]; omega))
    obtain ⟨vs, m2, e2, q1, q2, G2⟩ := loopC_gen P c step (acc := acc ++ [v]) G1.tp (by rw [List.length_append, List.length_singleton]; omega)
    refine ⟨v :: vs, m2, ?_, by rw [List.length_cons, List.length_cons, q1], fun w hw => ?_, G1.trans G2⟩
    · have e3 : loopC ff (gdW (es, none)) (d :: ds) acc m = (ff d m).bind fun r => match r.1 with
        | none => loopC ff (gdW (es, none)) ds acc r.2
        | some y => if acc.length < sizeLine then loopC ff (gdW (es, none)) ds (acc ++ [y]) r.2 else none := if_pos rfl
      rw [e3, e1]
      show (if acc.length < sizeLine then loopC ff (gdW (es, none)) ds (acc ++ [v]) m1 else none) = _
      rw [if_pos (by omega), e2, List.append_assoc]
      rfl
    · rcases List.mem_cons.mp hw with rfl | hw
      · exact hv
      · exact q2 w hw
theorem Off.newA {ns : List Int} {tl : List D} {n b : Nat} {m : Mm} (h : Tp ns tl n b m) {a c : MO} : Off n m.length (m ++ [a, c]) := by
  have q := Off.new h (a := a)
  refine q.get ?_
  rw [List.getElem?_append_left h.lt, List.getElem?_append_left h.lt]
theorem Off.newB {ns : List Int} {tl : List D} {n b : Nat} {m : Mm} (h : Tp ns tl n b m) {a c : MO} : Off n (m.length + 1) (m ++ [a, c]) := by
  have q := Off.new (h.app (a := [a])) (a := c)
  rw [List.length_append, List.append_assoc] at q
  exact q
/-- one more at a list of one's own -/
theorem Go.app1 {ns : List Int} {tl : List D} {n b L : Nat} {m0 m : Mm} {ds : List D} {v : D} (G : Go ns tl n b m0 m) (O : Off n L m) (hL : m0.length ≤ L) (e : m[L]? = some (.lst ds)) :
    (m.set L (.lst (ds ++ [v])))[L]? = some (.lst (ds ++ [v])) ∧ Go ns tl n b m0 (m.set L (.lst (ds ++ [v]))) ∧ Off n L (m.set L (.lst (ds ++ [v]))) :=
  ⟨get_set (lt_of_get e), G.setNew O hL, O.set⟩
/-- a loop that draws, and lays some at a list of its own -/
theorem loopF_gen {X : Type} {ff : D → Fr → Mm → Option (Fl × Fr × Mm)} {es : List D} (F : X → Fr) (P : D → Prop) (Q : D → Prop) (J : List D → Mm → Prop) {ns : List Int} {tl : List D} {n L : Nat} {m0 : Mm} (c k : Nat) (hL : m0.length ≤ L)
    (step : ∀ d x ds b m, Q d → J ds m → Go ns tl n (b + c) m0 m → Off n L m → m[L]? = some (.lst ds) → ds.length < 16000000 → ∃ x' us m', ff d (F x) m = some (.nx, F x', m') ∧ J (ds ++ us) m' ∧ m'[L]? = some (.lst (ds ++ us)) ∧ us.length ≤ 1 ∧ k ≤ us.length ∧ (∀ v ∈ us, P v) ∧ Go ns tl n b m0 m' ∧ Off n L m') :
    ∀ {ds ds0 : List D} {x : X} {b : Nat} {m : Mm}, (∀ d ∈ ds, Q d) → J ds0 m → Go ns tl n (b + c * ds.length) m0 m → Off n L m → m[L]? = some (.lst ds0) → ds0.length + ds.length < 16000000 →
      ∃ x' vs m', loopF ff (gdW (es, none)) ds (F x) m = some (.nx, F x', m') ∧ J (ds0 ++ vs) m' ∧ m'[L]? = some (.lst (ds0 ++ vs)) ∧ vs.length ≤ ds.length ∧ k * ds.length ≤ vs.length ∧ (∀ v ∈ vs, P v) ∧ Go ns tl n b m0 m' ∧ Off n L m'
  | [], ds0, x, b, m, _, j, G, O, e, _ => ⟨x, [], m, if_pos rfl, by rw [List.append_nil]; exact j, by rw [List.append_nil]; exact e, Nat.le_refl _, Nat.le_refl _, (fun v hv => nomatch hv), G, O⟩
  | d :: ds, ds0, x, b, m, hq, j, G, O, e, hl => by
    rw [List.length_cons] at hl G
    obtain ⟨x1, us, m1, e1, j1, q1, q2, q3, q4, G1, O1⟩ := step d x ds0 (b + c * ds.length) m (hq d List.mem_cons_self) j (G.less (by rw [Nat.mul_add]; omega)) O e (by omega)
    obtain ⟨x2, vs, m2, e2, j2, r1, r2, r3, r4, G2, O2⟩ := loopF_gen F P Q J c k hL step (ds := ds) (ds0 := ds0 ++ us) (x := x1) (b := b) (fun e he => hq e (List.mem_cons_of_mem _ he)) j1 G1 O1 q1 (by rw [List.length_append]; omega)
    refine ⟨x2, us ++ vs, m2, ?_, by rw [← List.append_assoc]; exact j2, by rw [r1, List.append_assoc], by rw [List.length_append, List.length_cons]; omega, by rw [List.length_append, List.length_cons, Nat.mul_add]; omega, fun v hv => ?_, G2, O2⟩
    · have e3 : loopF ff (gdW (es, none)) (d :: ds) (F x) m = (ff d (F x) m).bind fun r => match r.1 with
        | .nx => loopF ff (gdW (es, none)) ds r.2.1 r.2.2
        | .cnt => loopF ff (gdW (es, none)) ds r.2.1 r.2.2
        | .brk => some (.nx, r.2)
        | .ret o => some (.ret o, r.2) := if_pos rfl
      rw [e3, e1]
      exact e2
    · rcases List.mem_append.mp hv with hv | hv
      · exact q4 v hv
      · exact r4 v hv
theorem loopF_nx {ff : D → Fr → Mm → Option (Fl × Fr × Mm)} {gd : Mm → Bool} {d : D} {ds : List D} {fr fr' : Fr} {m m' : Mm} (hg : gd m = true) (h : ff d fr m = some (.nx, fr', m')) : loopF ff gd (d :: ds) fr m = loopF ff gd ds fr' m' := by
  have e3 : loopF ff gd (d :: ds) fr m = (ff d fr m).bind fun r => match r.1 with
    | .nx => loopF ff gd ds r.2.1 r.2.2
    | .cnt => loopF ff gd ds r.2.1 r.2.2
    | .brk => some (.nx, r.2)
    | .ret o => some (.ret o, r.2) := if_pos hg
  rw [e3, h]
  rfl
theorem loopF_cn {ff : D → Fr → Mm → Option (Fl × Fr × Mm)} {gd : Mm → Bool} {d : D} {ds : List D} {fr fr' : Fr} {m m' : Mm} (hg : gd m = true) (h : ff d fr m = some (.cnt, fr', m')) : loopF ff gd (d :: ds) fr m = loopF ff gd ds fr' m' := by
  have e3 : loopF ff gd (d :: ds) fr m = (ff d fr m).bind fun r => match r.1 with
    | .nx => loopF ff gd ds r.2.1 r.2.2
    | .cnt => loopF ff gd ds r.2.1 r.2.2
    | .brk => some (.nx, r.2)
    | .ret o => some (.ret o, r.2) := if_pos hg
  rw [e3, h]
  rfl
theorem loopF_rt {ff : D → Fr → Mm → Option (Fl × Fr × Mm)} {gd : Mm → Bool} {d : D} {ds : List D} {o : Out} {fr fr' : Fr} {m m' : Mm} (hg : gd m = true) (h : ff d fr m = some (.ret o, fr', m')) : loopF ff gd (d :: ds) fr m = some (.ret o, fr', m') := by
  have e3 : loopF ff gd (d :: ds) fr m = (ff d fr m).bind fun r => match r.1 with
    | .nx => loopF ff gd ds r.2.1 r.2.2
    | .cnt => loopF ff gd ds r.2.1 r.2.2
    | .brk => some (.nx, r.2)
    | .ret o => some (.ret o, r.2) := if_pos hg
  rw [e3, h]
  rfl
theorem loopF_end {ff : D → Fr → Mm → Option (Fl × Fr × Mm)} {gd : Mm → Bool} {fr : Fr} {m : Mm} (hg : gd m = true) : loopF ff gd [] fr m = some (.nx, fr, m) := if_pos hg
theorem map_of {α : Type} {f : α → D} {R : α → Prop} : ∀ {vs : List D}, (∀ v ∈ vs, ∃ p, v = f p ∧ R p) → ∃ ps : List α, vs = ps.map f ∧ ∀ p ∈ ps, R p
  | [], _ => ⟨[], rfl, (fun p hp => nomatch hp)⟩
  | v :: vs, h => by
    obtain ⟨p, e, hp⟩ := h v List.mem_cons_self
    obtain ⟨ps, e2, h2⟩ := map_of fun w hw => h w (List.mem_cons_of_mem _ hw)
    refine ⟨p :: ps, by rw [e, e2, List.map_cons], fun q hq => ?_⟩
    rcases List.mem_cons.mp hq with rfl | hq
    · exact hp
    · exact h2 q hq
theorem isi_ss : isiT "str" "str" = true := by decide
theorem isi_si : isiT "int" "str" = false := by decide
theorem isi_sb : isiT "bool" "str" = false := by decide
theorem isi_tt : isiT "tuple" "tuple" = true := by decide
theorem isi_ti : isiT "int" "tuple" = false := by decide
theorem isi_ts : isiT "str" "tuple" = false := by decide
theorem ne_is_any : decide (("is" : Str) = "any") = false := by decide +kernel
theorem ne_is_word : decide (("is" : Str) = "word") = false := by decide +kernel
theorem ne_is_number : decide (("is" : Str) = "number") = false := by decide +kernel
theorem ne_is_bind : decide (("is" : Str) = "bind") = false := by decide +kernel
theorem ne_is_as : decide (("is" : Str) = "as") = false := by decide +kernel
theorem ne_is_next : decide (("is" : Str) = "next") = false := by decide +kernel
theorem ne_any_is : decide (("any" : Str) = "is") = false := by decide +kernel
theorem ne_any_word : decide (("any" : Str) = "word") = false := by decide +kernel
theorem ne_any_number : decide (("any" : Str) = "number") = false := by decide +kernel
theorem ne_any_bind : decide (("any" : Str) = "bind") = false := by decide +kernel
theorem ne_any_as : decide (("any" : Str) = "as") = false := by decide +kernel
theorem ne_any_next : decide (("any" : Str) = "next") = false := by decide +kernel
theorem ne_word_is : decide (("word" : Str) = "is") = false := by decide +kernel
theorem ne_word_any : decide (("word" : Str) = "any") = false := by decide +kernel
theorem ne_word_number : decide (("word" : Str) = "number") = false := by decide +kernel
theorem ne_word_bind : decide (("word" : Str) = "bind") = false := by decide +kernel
theorem ne_word_as : decide (("word" : Str) = "as") = false := by decide +kernel
theorem ne_word_next : decide (("word" : Str) = "next") = false := by decide +kernel
theorem ne_number_is : decide (("number" : Str) = "is") = false := by decide +kernel
theorem ne_number_any : decide (("number" : Str) = "any") = false := by decide +kernel
theorem ne_number_word : decide (("number" : Str) = "word") = false := by decide +kernel
theorem ne_number_bind : decide (("number" : Str) = "bind") = false := by decide +kernel
theorem ne_number_as : decide (("number" : Str) = "as") = false := by decide +kernel
theorem ne_number_next : decide (("number" : Str) = "next") = false := by decide +kernel
theorem ne_bind_is : decide (("bind" : Str) = "is") = false := by decide +kernel
theorem ne_bind_any : decide (("bind" : Str) = "any") = false := by decide +kernel
theorem ne_bind_word : decide (("bind" : Str) = "word") = false := by decide +kernel
theorem ne_bind_number : decide (("bind" : Str) = "number") = false := by decide +kernel
theorem ne_bind_as : decide (("bind" : Str) = "as") = false := by decide +kernel
theorem ne_bind_next : decide (("bind" : Str) = "next") = false := by decide +kernel
theorem ne_as_is : decide (("as" : Str) = "is") = false := by decide +kernel
theorem ne_as_any : decide (("as" : Str) = "any") = false := by decide +kernel
theorem ne_as_word : decide (("as" : Str) = "word") = false := by decide +kernel
theorem ne_as_number : decide (("as" : Str) = "number") = false := by decide +kernel
theorem ne_as_bind : decide (("as" : Str) = "bind") = false := by decide +kernel
theorem ne_as_next : decide (("as" : Str) = "next") = false := by decide +kernel
theorem ne_next_is : decide (("next" : Str) = "is") = false := by decide +kernel
theorem ne_next_any : decide (("next" : Str) = "any") = false := by decide +kernel
theorem ne_next_word : decide (("next" : Str) = "word") = false := by decide +kernel
theorem ne_next_number : decide (("next" : Str) = "number") = false := by decide +kernel
theorem ne_next_bind : decide (("next" : Str) = "bind") = false := by decide +kernel
theorem ne_next_as : decide (("next" : Str) = "as") = false := by decide +kernel
/-- the tape that a law makes -/
theorem slc63 {ns : List Int} (hl : ns.length ≤ 63) : slcO [] (.val (.frz (ns.map D.int))) none (some 63) = some (.tmp (ns.map D.int)) := by
  show some (Out.tmp (cutA (ns.map D.int) none (some 63))) = _
  unfold cutA
  have e1 : HT.sIx (ns.map D.int).length 0 none = 0 := rfl
  have e2 : HT.sIx (ns.map D.int).length (ns.map D.int).length (some 63) = ns.length := by
    show min 63 (ns.map D.int).length = _
    rw [List.length_map]
    omega
  rw [e1, e2, List.drop_zero, Nat.sub_zero, List.take_of_length_le (by rw [List.length_map]; exact Nat.le_refl _)]
theorem Tp.start {ns : List Int} {b : Nat} (h : b < 2 ^ 60) : Tp ns [] 1 b [.lst (ns.map D.int), .lst [.ref 0, .int 0, .int 0]] := ⟨0, 0, 0, by decide, rfl, rfl, by decide, by omega⟩
/-- a text of a finite list, of ints -/
theorem okDs_mem {ds : List D} (h : ∀ d ∈ ds, okD d = true ∧ dpD d = 0 ∧ szD d ≤ 1921) : okDs ds = true ∧ dpDs ds = 0 ∧ szDs ds ≤ 1923 * ds.length := by
  induction ds with
  | nil => exact ⟨rfl, rfl, Nat.le_refl _⟩
  | cons d ds ih =>
    obtain ⟨h1, h2, h3⟩ := ih fun e he => h e (List.mem_cons_of_mem _ he)
    obtain ⟨g1, g2, g3⟩ := h d List.mem_cons_self
    refine ⟨?_, ?_, ?_⟩
    · simp only [okDs, g1, h1, Bool.and_self]
    · simp only [dpDs, g2, h2, Nat.max_self]
    · simp only [szDs, List.length_cons]
      omega
end Nb

/-! Nb26: lists told and compared -/
namespace Nb
open PySem PySem.Spec L2
theorem loopC_filter {f : D → Mm → Option (Option D × Mm)} {gd : Mm → Bool} {k : D → Bool} {m : Mm} (hg : gd m = true) : ∀ {ds acc : List D}, (∀ d ∈ ds, f d m = some (if k d = true then some d else none, m)) → acc.length + ds.length ≤ 16777216 → loopC f gd ds acc m = some (acc ++ ds.filter k, m)
  | [], acc, _, _ => by
    rw [loopC, if_pos hg, List.filter_nil, List.append_nil]
  | d :: ds, acc, hf, hl => by
    rw [List.length_cons] at hl
    have ih : ∀ acc : List D, acc.length + ds.length ≤ 16777216 → loopC f gd ds acc m = some (acc ++ ds.filter k, m) := fun acc h => loopC_filter hg (fun e he => hf e (List.mem_cons_of_mem _ he)) h
    rw [loopC, if_pos hg, hf d List.mem_cons_self, Option.bind_some]
    by_cases hk : k d = true
    · rw [if_pos hk, List.filter_cons_of_pos hk]
      show (if acc.length < sizeLine then loopC f gd ds (acc ++ [d]) m else none) = _
      rw [szE, if_pos (by omega), ih _ (by rw [List.length_append, List.length_singleton]; omega), List.append_assoc]
      rfl
    · rw [if_neg hk, List.filter_cons_of_neg hk]
      exact ih acc (by omega)
theorem allBl_map (t : D → Bool) : ∀ ds : List D, allBl (ds.map fun d => .bl (t d)) = some (ds.map t)
  | [] => rfl
  | d :: ds => by
    show (allBl (ds.map fun d => .bl (t d))).map _ = _
    rw [allBl_map t ds]
    rfl
theorem lst_tmp {m : Mm} {ds : List D} : lstO m (.tmp ds) = some ds := rfl
theorem all_map (t : D → Bool) (ds : List D) : (ds.map t).all id = ds.all t := by
  rw [List.all_map]
  rfl
theorem rp_okF {m : Mm} {n : Nat} {ds : List D} (f : Nat) (h : m[n]? = some (.lst ds)) (ho : okDs ds = true) : rp m (f + 1) n = some (.list (pdDs ds)) := by
  show (match m[n]? with | some (.lst ds) => (dps (rp m f) ds).map PyData.list | _ => none) = _
  rw [h]
  show (dps (rp m f) ds).map PyData.list = _
  rw [pd_dps _ ds ho]
  rfl
theorem repr_p {m : Mm} {o : Out} {ds : List D} (e : toP m o = some (.list (pdDs ds))) (ho : okDs ds = true) (hd : dpDs ds < 64) (hz : szDs ds + 4 ≤ 16777216) : reprO m o = some (pdD (.frz ds)).shown := by
  have ho' : okD (.frz ds) = true := ho
  obtain ⟨g1, g2, g3, g4⟩ := pd_lay (.frz ds) ho'
  have g5 := pd_len (.frz ds) ho'
  have g2 : (pdD (.frz ds)).depth = dpDs ds + 1 := g2
  have hk : dpDs ds + 1 ≤ 64 := hd
  have g5 : (pdD (.frz ds)).shown.length ≤ szDs ds + 4 := g5
  unfold reprO
  have e' : toP m o = some (pdD (.frz ds)) := e
  simp only [e', Option.bind_some, g3, g4, g2, hk, Bool.not_false, Bool.and_true, decide_true, Bool.true_and]
  rw [if_pos]
  rw [szE]
  exact decide_eq_true (Nat.le_trans g5 hz)
theorem repr_tmp {m : Mm} {ds : List D} (ho : okDs ds = true) (hd : dpDs ds < 64) (hz : szDs ds + 4 ≤ 16777216) : reprO m (.tmp ds) = some (pdD (.frz ds)).shown := by
  refine repr_p ?_ ho hd hz
  show (dps (rp m 64) ds).map PyData.list = _
  rw [pd_dps _ ds ho]
  rfl
theorem repr_ref {m : Mm} {n : Nat} {ds : List D} (h : m[n]? = some (.lst ds)) (ho : okDs ds = true) (hd : dpDs ds < 64) (hz : szDs ds + 4 ≤ 16777216) : reprO m (.val (.ref n)) = some (pdD (.frz ds)).shown := repr_p (rp_okF 63 h ho) ho hd hz
def Cmp (m : Mm) (d : D) : Prop := ∃ p, dp (rp m 64) d = some p ∧ p.canLay0 = true ∧ p.depth ≤ 40
theorem cmps {m : Mm} : ∀ {ds : List D}, (∀ d ∈ ds, Cmp m d) → ∃ ps, dps (rp m 64) ds = some ps ∧ PyData.canLayAll0 ps = true ∧ PyData.depthAll ps ≤ 40 ∧ ps.length = ds.length
  | [], _ => ⟨[], rfl, rfl, Nat.zero_le _, rfl⟩
  | d :: ds, h => by
    obtain ⟨p, e, c, k⟩ := h d List.mem_cons_self
    obtain ⟨ps, e2, c2, k2, l2⟩ := cmps fun q hq => h q (List.mem_cons_of_mem _ hq)
    refine ⟨p :: ps, ?_, ?_, ?_, ?_⟩
    · rw [dps, e, e2]
      rfl
    · rw [PyData.canLayAll0, c, c2]
      rfl
    · show max p.depth (PyData.depthAll ps) ≤ 40
      omega
    · rw [List.length_cons, List.length_cons, l2]
theorem eq_tmp_nil {m : Mm} {ds : List D} (h : ∀ d ∈ ds, Cmp m d) : cmpO m .eq (.tmp ds) (.tmp []) = some ds.isEmpty := by
  obtain ⟨ps, e, c, k, l⟩ := cmps h
  have e2 : SeqAt.shaped (.list ps) = true := by
    unfold SeqAt.shaped
    simp only [PyData.canLay0, PyData.depth, c, Bool.true_and]
    exact decide_eq_true (by omega)
  have e3 : SeqAt.shaped (.list []) = true := by decide
  show (match (dps (rp m 64) ds).map PyData.list, toP m (.tmp []) with
    | some p, some q => if SeqAt.shaped p && SeqAt.shaped q then some (PyData.eqv p q) else none
    | _, _ => none) = _
  rw [e]
  show (if SeqAt.shaped (.list ps) && SeqAt.shaped (.list []) then some (PyData.eqv (.list ps) (.list [])) else none) = _
  rw [e2, e3, Bool.and_self, if_pos rfl]
  cases ds with
  | nil => cases ps with
    | nil => rfl
    | cons _ _ => cases l
  | cons _ _ => cases ps with
    | nil => cases l
    | cons _ _ => rfl
theorem filter_empty (t : D → Bool) : ∀ ds : List D, (ds.filter fun d => !t d).isEmpty = ds.all t
  | [] => rfl
  | d :: ds => by
    rw [List.all_cons, ← filter_empty t ds]
    cases h : t d with
    | true => rw [List.filter_cons_of_neg (by rw [h]; decide), Bool.true_and]
    | false => rw [List.filter_cons_of_pos (by rw [h]; rfl), Bool.false_and]; rfl
end Nb

/-! Nb27: data in the store, away from the tape -/
namespace Nb
open PySem PySem.Spec L2
/-- the lists of one store stand in another -/
def SubL (a b : Mm) : Prop := ∀ (i : Nat) (ds : List D), a[i]? = some (.lst ds) → b[i]? = some (.lst ds)
mutual
theorem dp_mono {r r' : Nat → Option PyData} (h : ∀ i p, r i = some p → r' i = some p) : ∀ (d : D) (p : PyData), dp r d = some p → dp r' d = some p
  | .non, p, e => e
  | .bl _, p, e => e
  | .int _, p, e => e
  | .str _, p, e => e
  | .tup ds, p, e => by
    rw [dp] at e ⊢
    obtain ⟨ps, e1, e2⟩ := Option.map_eq_some_iff.mp e
    rw [dps_mono h ds ps e1, ← e2]
    rfl
  | .frz ds, p, e => by
    rw [dp] at e ⊢
    obtain ⟨ps, e1, e2⟩ := Option.map_eq_some_iff.mp e
    rw [dps_mono h ds ps e1, ← e2]
    rfl
  | .ref n, p, e => h n p e
theorem dps_mono {r r' : Nat → Option PyData} (h : ∀ i p, r i = some p → r' i = some p) : ∀ (ds : List D) (ps : List PyData), dps r ds = some ps → dps r' ds = some ps
  | [], ps, e => e
  | d :: ds, ps, e => by
    rw [dps] at e ⊢
    obtain ⟨q, e1, e2⟩ := Option.bind_eq_some_iff.mp e
    obtain ⟨qs, e3, e4⟩ := Option.map_eq_some_iff.mp e2
    rw [dp_mono h d q e1, Option.bind_some, dps_mono h ds qs e3, ← e4]
    rfl
end
theorem rp_mono {a b : Mm} (s : SubL a b) : ∀ (f g i : Nat) (p : PyData), f ≤ g → rp a f i = some p → rp b g i = some p
  | 0, _, _, _, _, e => by cases e
  | f + 1, 0, _, _, h, _ => by omega
  | f + 1, g + 1, i, p, h, e => by
    have e : (match a[i]? with | some (.lst ds) => (dps (rp a f) ds).map PyData.list | _ => none) = some p := e
    cases hi : a[i]? with
    | none =>
      rw [hi] at e
      cases e
    | some o =>
      rw [hi] at e
      cases o with
      | dct _ => cases e
      | lst ds =>
        obtain ⟨ps, e1, e2⟩ := Option.map_eq_some_iff.mp (show (dps (rp a f) ds).map PyData.list = some p from e)
        show (match b[i]? with | some (.lst ds) => (dps (rp b g) ds).map PyData.list | _ => none) = some p
        rw [s i ds hi]
        show (dps (rp b g) ds).map PyData.list = some p
        rw [dps_mono (fun j q => rp_mono s f g j q (by omega)) ds ps e1, ← e2]
        rfl
/-- data by k lists in one another, of depth q, the cell n left out -/
def Dt (k q n : Nat) (m : Mm) (d : D) : Prop := ∃ p, dp (rp (m.set n (.dct [])) k) d = some p ∧ p.canLay0 = true ∧ p.depth ≤ q
section
variable {k q n : Nat} {m m' : Mm} {d : D} {ds : List D}
theorem Dt.ok (h : okD d = true) (hd : dpD d ≤ q) : Dt k q n m d := ⟨pdD d, pd_dp _ d h, (pd_lay d h).1, by rw [(pd_lay d h).2.1]; exact hd⟩
theorem Dt.up {j r : Nat} (h : Dt k q n m d) (hk : k ≤ j) (hq : q ≤ r) : Dt j r n m d := by
  obtain ⟨p, e, h1, h2⟩ := h
  exact ⟨p, dp_mono (fun i p' => rp_mono (fun _ _ z => z) k j i p' hk) d p e, h1, by omega⟩
theorem sub_set (e : Ex n m m') : SubL (m.set n (.dct [])) (m'.set n (.dct [])) := by
  intro i ds h
  by_cases hi : i = n
  · subst hi
    rw [List.getElem?_set] at h
    split at h
    · split at h <;> cases h
    · exact absurd rfl (by assumption)
  · rw [List.getElem?_set_ne (Ne.symm hi)] at h ⊢
    exact e.get h hi
theorem sub_out : SubL (m.set n (.dct [])) m := by
  intro i ds h
  by_cases hi : i = n
  · subst hi
    rw [List.getElem?_set] at h
    split at h
    · split at h <;> cases h
    · exact absurd rfl (by assumption)
  · rw [List.getElem?_set_ne (Ne.symm hi)] at h
    exact h
theorem Dt.go (h : Dt k q n m d) (e : Ex n m m') : Dt k q n m' d := by
  obtain ⟨p, e1, h1, h2⟩ := h
  exact ⟨p, dp_mono (fun i p' => rp_mono (sub_set e) k k i p' (Nat.le_refl _)) d p e1, h1, h2⟩
theorem Dt.app {a : Mm} (h : Dt k q n m d) : Dt k q n (m ++ a) d := h.go Ex.app
theorem Dt.cmp (h : Dt k q n m d) (hk : k ≤ 64) (hq : q ≤ 40) : Cmp m d := by
  obtain ⟨p, e1, h1, h2⟩ := h
  exact ⟨p, dp_mono (fun i p' => rp_mono sub_out k 64 i p' hk) d p e1, h1, by omega⟩
theorem Dt.all : ∀ {ds : List D}, (∀ d ∈ ds, Dt k q n m d) → ∃ ps, dps (rp (m.set n (.dct [])) k) ds = some ps ∧ PyData.canLayAll0 ps = true ∧ PyData.depthAll ps ≤ q
  | [], _ => ⟨[], rfl, rfl, Nat.zero_le _⟩
  | d :: ds, h => by
    obtain ⟨p, e1, h1, h2⟩ := h d List.mem_cons_self
    obtain ⟨ps, e3, h3, h4⟩ := Dt.all fun e he => h e (List.mem_cons_of_mem _ he)
    refine ⟨p :: ps, ?_, ?_, ?_⟩
    · rw [dps, e1, Option.bind_some, e3]
      rfl
    · simp only [PyData.canLayAll0, h1, h3, Bool.and_self]
    · simp only [PyData.depthAll]
      omega
theorem Dt.tup (h : ∀ d ∈ ds, Dt k q n m d) : Dt k (q + 1) n m (.tup ds) := by
  obtain ⟨ps, e, h1, h2⟩ := Dt.all h
  refine ⟨.tuple ps, ?_, ?_, ?_⟩
  · rw [dp, e]
    rfl
  · simpa only [PyData.canLay0] using h1
  · simp only [PyData.depth]
    omega
theorem Dt.ref {i : Nat} (hi : i ≠ n) (hm : m[i]? = some (.lst ds)) (h : ∀ d ∈ ds, Dt k q n m d) : Dt (k + 1) (q + 1) n m (.ref i) := by
  obtain ⟨ps, e, h1, h2⟩ := Dt.all h
  refine ⟨.list ps, ?_, ?_, ?_⟩
  · show (match (m.set n (.dct []))[i]? with | some (.lst ds) => (dps (rp (m.set n (.dct [])) k) ds).map PyData.list | _ => none) = _
    rw [List.getElem?_set_ne (Ne.symm hi), hm]
    show (dps (rp (m.set n (.dct [])) k) ds).map PyData.list = _
    rw [e]
    rfl
  · simpa only [PyData.canLay0] using h1
  · simp only [PyData.depth]
    omega
def tyN : D → String
  | .non => "NoneType"
  | .bl _ => "bool"
  | .int _ => "int"
  | .str _ => "str"
  | .tup _ => "tuple"
  | .frz _ => "list"
  | .ref _ => "list"
theorem Dt.ty (h : Dt k q n m d) : tyO m (.val d) = some (tyN d) := by
  cases d with
  | ref i =>
    obtain ⟨p, e, _⟩ := h
    have e : rp (m.set n (.dct [])) k i = some p := e
    cases k with
    | zero => cases e
    | succ k =>
      have e : (match (m.set n (.dct []))[i]? with | some (.lst ds) => (dps (rp (m.set n (.dct [])) k) ds).map PyData.list | _ => none) = some p := e
      cases hi : (m.set n (.dct []))[i]? with
      | none =>
        rw [hi] at e
        cases e
      | some o =>
        rw [hi] at e
        cases o with
        | dct _ => cases e
        | lst ds =>
          show (match m[i]? with | some (.lst _) => some "list" | some (.dct _) => some "dict" | none => none) = _
          rw [sub_out i ds hi]
          rfl
  | _ => rfl
end
/-! texts of single signs -/
def sg (c : Nat) : Str := ⟨#[c]⟩
theorem join_sg : ∀ cs : List Nat, (Str.join "" (cs.map sg)).cps.toList = cs
  | [] => rfl
  | [c] => rfl
  | c :: d :: r => by
    have ih := join_sg (d :: r)
    have e : Str.join "" ((c :: d :: r).map sg) = sg c ++ ("" : Str) ++ Str.join "" ((d :: r).map sg) := rfl
    rw [e]
    show ((#[c] ++ (("" : Str).cps)) ++ (Str.join "" ((d :: r).map sg)).cps).toList = _
    rw [Array.toList_append, ih]
    rfl
theorem allStr_sg : ∀ cs : List Nat, allStr (cs.map fun c => D.str (sg c)) = some (cs.map sg)
  | [] => rfl
  | c :: cs => by
    show (allStr (cs.map fun c => D.str (sg c))).map _ = _
    rw [allStr_sg cs]
    rfl
theorem sum_sg : ∀ cs : List Nat, ((cs.map sg).map (·.length)).sum = cs.length
  | [] => rfl
  | c :: cs => by
    rw [List.map_cons, List.map_cons, List.sum_cons, sum_sg cs, List.length_cons]
    show 1 + cs.length = _
    omega
theorem allBl_mapA {α : Type} (t : α → Bool) : ∀ ds : List α, allBl (ds.map fun d => D.bl (t d)) = some (ds.map t)
  | [] => rfl
  | d :: ds => by
    show (allBl (ds.map fun d => D.bl (t d))).map _ = _
    rw [allBl_mapA t ds]
    rfl
end Nb

/-! Nb28: loops over lists of the store; more values -/
namespace Nb
open PySem PySem.Spec L2
/-- a loop that draws, and lays some at a list of its own -/
theorem loopF_genG {X : Type} {ff : D → Fr → Mm → Option (Fl × Fr × Mm)} {gd : Mm → Bool} (F : X → Fr) (P : D → Prop) (Q : D → Prop) (J : List D → Mm → Prop) {ns : List Int} {tl : List D} {n L : Nat} {m0 : Mm} (c k N : Nat) (hg : ∀ ds m, J ds m → m[L]? = some (.lst ds) → gd m = true)
    (step : ∀ d x ds b m, Q d → J ds m → Go ns tl n (b + c) m0 m → Off n L m → m[L]? = some (.lst ds) → ds.length < N → ∃ x' us m', ff d (F x) m = some (.nx, F x', m') ∧ J (ds ++ us) m' ∧ m'[L]? = some (.lst (ds ++ us)) ∧ us.length ≤ 1 ∧ k ≤ us.length ∧ (∀ v ∈ us, P v) ∧ Go ns tl n b m0 m' ∧ Off n L m') :
    ∀ {ds ds0 : List D} {x : X} {b : Nat} {m : Mm}, (∀ d ∈ ds, Q d) → J ds0 m → Go ns tl n (b + c * ds.length) m0 m → Off n L m → m[L]? = some (.lst ds0) → ds0.length + ds.length ≤ N →
      ∃ x' vs m', loopF ff gd ds (F x) m = some (.nx, F x', m') ∧ J (ds0 ++ vs) m' ∧ m'[L]? = some (.lst (ds0 ++ vs)) ∧ vs.length ≤ ds.length ∧ k * ds.length ≤ vs.length ∧ (∀ v ∈ vs, P v) ∧ Go ns tl n b m0 m' ∧ Off n L m'
  | [], ds0, x, b, m, _, j, G, O, e, _ => ⟨x, [], m, if_pos (hg _ _ j e), by rw [List.append_nil]; exact j, by rw [List.append_nil]; exact e, Nat.le_refl _, Nat.le_refl _, (fun v hv => nomatch hv), G, O⟩
  | d :: ds, ds0, x, b, m, hq, j, G, O, e, hl => by
    rw [List.length_cons] at hl G
    obtain ⟨x1, us, m1, e1, j1, q1, q2, q3, q4, G1, O1⟩ := step d x ds0 (b + c * ds.length) m (hq d List.mem_cons_self) j (G.less (by rw [Nat.mul_add]; omega)) O e (by omega)
    obtain ⟨x2, vs, m2, e2, j2, r1, r2, r3, r4, G2, O2⟩ := loopF_genG F P Q J c k N hg step (ds := ds) (ds0 := ds0 ++ us) (x := x1) (b := b) (fun e he => hq e (List.mem_cons_of_mem _ he)) j1 G1 O1 q1 (by rw [List.length_append]; omega)
    refine ⟨x2, us ++ vs, m2, ?_, by rw [← List.append_assoc]; exact j2, by rw [r1, List.append_assoc], by rw [List.length_append, List.length_cons]; omega, by rw [List.length_append, List.length_cons, Nat.mul_add]; omega, fun v hv => ?_, G2, O2⟩
    · have e3 : loopF ff gd (d :: ds) (F x) m = (ff d (F x) m).bind fun r => match r.1 with
        | .nx => loopF ff gd ds r.2.1 r.2.2
        | .cnt => loopF ff gd ds r.2.1 r.2.2
        | .brk => some (.nx, r.2)
        | .ret o => some (.ret o, r.2) := if_pos (hg _ _ j e)
      rw [e3, e1]
      exact e2
    · rcases List.mem_append.mp hv with hv | hv
      · exact q4 v hv
      · exact r4 v hv

/-- a comprehension that draws, what it tells by the store -/
theorem loopC_genS {ff : D → Mm → Option (Option D × Mm)} {es : List D} (I : Mm → Prop) (P : Mm → D → Prop) {ns : List Int} {tl : List D} {n b : Nat} (mono : ∀ m m' v, Ex n m m' → P m v → P m' v) (c : Nat) (step : ∀ d b m, Tp ns tl n (b + c) m → I m → ∃ v m', ff d m = some (some v, m') ∧ P m' v ∧ Go ns tl n b m m' ∧ I m') :
    ∀ {ds acc : List D} {m : Mm}, Tp ns tl n (b + c * ds.length) m → I m → acc.length + ds.length ≤ sizeLine → ∃ vs m', loopC ff (gdW (es, none)) ds acc m = some (acc ++ vs, m') ∧ vs.length = ds.length ∧ (∀ v ∈ vs, P m' v) ∧ Go ns tl n b m m' ∧ I m'
  | [], acc, m, h, hi, _ => ⟨[], m, by rw [List.append_nil]; rfl, rfl, (fun v hv => nomatch hv), Go.refl h, hi⟩
  | d :: ds, acc, m, h, hi, hl => by
    rw [List.length_cons] at hl h
    obtain ⟨v, m1, e1, hv, G1, i1⟩ := step d (b + c * ds.length) m (h.less (by rw [Nat.mul_add]; omega)) hi
    obtain ⟨vs, m2, e2, q1, q2, G2, i2⟩ := loopC_genS I P mono c step (acc := acc ++ [v]) G1.tp i1 (by rw [List.length_append, List.length_singleton]; omega)
    refine ⟨v :: vs, m2, ?_, by rw [List.length_cons, List.length_cons, q1], fun w hw => ?_, G1.trans G2, i2⟩
    · have e3 : loopC ff (gdW (es, none)) (d :: ds) acc m = (ff d m).bind fun r => match r.1 with
        | none => loopC ff (gdW (es, none)) ds acc r.2
        | some y => if acc.length < sizeLine then loopC ff (gdW (es, none)) ds (acc ++ [y]) r.2 else none := if_pos rfl
      rw [e3, e1]
      show (if acc.length < sizeLine then loopC ff (gdW (es, none)) ds (acc ++ [v]) m1 else none) = _
      rw [if_pos (by omega), e2, List.append_assoc]
      rfl
    · rcases List.mem_cons.mp hw with rfl | hw
      · exact mono _ _ _ G2.ex hv
      · exact q2 w hw
theorem add_refs {m : Mm} {a b : Nat} {xs ys : List D} (h : m[a]? = some (.lst xs)) (h2 : m[b]? = some (.lst ys)) (hl : xs.length + ys.length ≤ 16777216) : bopO m .add (.val (.ref a)) (.val (.ref b)) = some (.tmp (xs ++ ys)) := by
  show (match lstO m (.val (.ref a)), lstO m (.val (.ref b)) with
    | some xs, some ys => if xs.length + ys.length ≤ sizeLine then some (Out.tmp (xs ++ ys)) else none
    | _, _ => none) = _
  rw [lst_ref h, lst_ref h2]
  show (if xs.length + ys.length ≤ sizeLine then _ else _) = _
  rw [szE, if_pos hl]
theorem gd_ref {m : Mm} {n : Nat} {ds : List D} (h : m[n]? = some (.lst ds)) : gdW (ds, some n) m = true := by
  show (match m[n]? with
    | some (.lst es) => D.beqL es ds
    | _ => false) = true
  rw [h]
  exact D.beqL_refl ds
theorem strs_nil {m : Mm} {q : Nat} {xs : List Str} (h : m[q]? = some (.lst (xs.map D.str))) (ho : ∀ x ∈ xs, PyData.strOk x = true) : cmpO m .eq (.val (.ref q)) (.tmp []) = some xs.isEmpty := by
  obtain ⟨o1, o2⟩ := okDs_strs ho
  have e : cmpO m .eq (.val (.ref q)) (.tmp []) = some (xs.map D.str).isEmpty := eq_nil h o1 (by rw [o2]; decide)
  rw [e]
  cases xs <;> rfl
end Nb

/-! Nb29: what is shown is a text of signs -/
namespace Nb
open PySem PySem.Spec L2
theorem ok_app {a b : Str} (ha : PyData.strOk a = true) (hb : PyData.strOk b = true) : PyData.strOk (a ++ b) = true := by
  unfold PyData.strOk at *
  rw [Array.all_eq_true_iff_forall_mem] at *
  intro c hc
  have hc : c ∈ a.cps ++ b.cps := hc
  rcases Array.mem_append.mp hc with hc | hc
  · exact ha c hc
  · exact hb c hc
theorem ok_ofString (s : String) : PyData.strOk (Str.ofString s) = true := by
  unfold PyData.strOk
  rw [Str.ofString_eq_toList, Array.all_eq_true_iff_forall_mem]
  intro c hc
  have hc : c ∈ s.toList.map Char.toNat := by simpa using hc
  obtain ⟨ch, _, rfl⟩ := List.mem_map.mp hc
  have hv := ch.valid
  have : ch.toNat < 0x110000 := by
    show ch.val.toNat < 0x110000
    rcases hv with h | ⟨_, h⟩
    · have h : ch.val.toNat < 0xd800 := h
      omega
    · exact h
  exact decide_eq_true this
theorem ok_join {sep : Str} (hs : PyData.strOk sep = true) : ∀ {ts : List Str}, (∀ t ∈ ts, PyData.strOk t = true) → PyData.strOk (Str.join sep ts) = true
  | [], _ => by
    show PyData.strOk (Str.empty) = true
    decide +kernel
  | [t], h => h t List.mem_cons_self
  | t :: u :: r, h => by
    show PyData.strOk (t ++ sep ++ Str.join sep (u :: r)) = true
    exact ok_app (ok_app (h t List.mem_cons_self) hs) (ok_join hs fun v hv => h v (List.mem_cons_of_mem _ hv))
mutual
/-- the texts within are shown by signs -/
def lfD : D → Bool
  | .str x => PyData.strOk (reprText x)
  | .tup ds => lfL ds
  | .frz _ => false
  | .ref _ => false
  | _ => true
def lfL : List D → Bool
  | [] => true
  | d :: ds => lfD d && lfL ds
end
theorem lfL_iff {ds : List D} : lfL ds = true ↔ ∀ d ∈ ds, lfD d = true := by
  induction ds with
  | nil => simp [lfL]
  | cons d ds ih => simp [lfL, ih]
mutual
theorem shown_ok : ∀ d : D, lfD d = true → PyData.strOk (pdD d).shown = true
  | .non, _ => by decide +kernel
  | .bl true, _ => by decide +kernel
  | .bl false, _ => by decide +kernel
  | .int i, _ => ok_ofString (toString i)
  | .str x, h => by simpa only [lfD, pdD, PyData.shown] using h
  | .tup ds, h => by
    have hs := showns_ok ds (by simpa only [lfD] using h)
    show PyData.strOk (tupleText (PyData.shownAll (pdDs ds))) = true
    unfold tupleText
    refine ok_app (ok_app (ok_ofString "(") (ok_join (ok_ofString ", ") hs)) ?_
    split <;> exact ok_ofString _
  | .frz _, h => by cases h
  | .ref _, h => by cases h
theorem showns_ok : ∀ ds : List D, lfL ds = true → ∀ t ∈ PyData.shownAll (pdDs ds), PyData.strOk t = true
  | [], _ => fun t ht => nomatch ht
  | d :: ds, h => by
    simp only [lfL, Bool.and_eq_true] at h
    intro t ht
    have ht : t ∈ (pdD d).shown :: PyData.shownAll (pdDs ds) := ht
    rcases List.mem_cons.mp ht with rfl | ht
    · exact shown_ok d h.1
    · exact showns_ok ds h.2 t ht
end
/-- a text among texts of a new list -/
theorem in_tmp {m : Mm} {xs : List Str} {x : Str} (hx : PyData.strOk x = true) (ho : ∀ y ∈ xs, PyData.strOk y = true) : inO m (.val (.str x)) (.tmp (xs.map D.str)) = some (decide (x ∈ xs)) := by
  obtain ⟨o1, o2⟩ := okDs_strs ho
  have e1 : toP m (.tmp (xs.map D.str)) = some (.list (xs.map PyData.str)) := by
    show (dps (rp m 64) (xs.map D.str)).map PyData.list = _
    rw [pd_dps _ _ o1, pdDs_strs]
    rfl
  have e2 : SeqAt.shaped (.list (xs.map PyData.str)) = true := by
    obtain ⟨g1, g2, _, _⟩ := pd_lays _ o1
    rw [pdDs_strs] at g1 g2
    unfold SeqAt.shaped
    simp only [PyData.canLay0, PyData.depth, g1, g2, o2, Bool.true_and]
    decide
  show (match toP m (.val (.str x)), toP m (.tmp (xs.map D.str)) with
      | some p, some (.list qs) => if SeqAt.shaped p && SeqAt.shaped (.list qs) then some (qs.any fun z => PyData.eqv z p) else none
      | some p, some (.tuple qs) => if flatP p && qs.all flatP then some (qs.any fun z => PyData.eqv z p) else none
      | _, _ => none) = _
  have e3 : toP m (.val (.str x)) = some (.str x) := rfl
  rw [e3, e1]
  show (if SeqAt.shaped (.str x) && SeqAt.shaped (.list (xs.map PyData.str)) then some ((xs.map PyData.str).any fun z => PyData.eqv z (.str x)) else none) = _
  rw [shaped_str hx, e2, any_strs]
  rfl
end Nb

/-! Nb30: texts each once, in order; loops by a condition -/
namespace Nb
open PySem PySem.Spec L2
/-- each once, in order -/
def ris (xs : List Str) : List Str := sortS (dedS xs)
theorem ris_mem {x : Str} {xs : List Str} : x ∈ ris xs ↔ x ∈ xs := sortS_mem.trans (mem_ded x xs)
theorem ded_len : ∀ xs : List Str, (dedS xs).length ≤ xs.length
  | [] => Nat.le_refl _
  | x :: xs => by
    have := ded_len xs
    unfold dedS
    split
    · rw [List.length_cons]
      omega
    · rw [List.length_cons, List.length_cons]
      omega
theorem ris_len {xs : List Str} : (ris xs).length ≤ xs.length := by
  unfold ris
  rw [sortS_len]
  exact ded_len xs
theorem ris_nd {xs : List Str} : (ris xs).Nodup := (sortS_perm _).nodup_iff.mpr (nd_ded xs)
theorem sortS_same {xs ys : List Str} (h : xs.Perm ys) : sortS xs = sortS ys := sortS_one ((sortS_perm xs).trans h) (sortS_pw xs)
theorem ris_of {ys xs : List Str} (nd : ys.Nodup) (h : ∀ y, y ∈ ys ↔ y ∈ xs) : sortS ys = ris xs :=
  sortS_same ((List.perm_ext_iff_of_nodup nd (nd_ded xs)).mpr fun y => (h y).trans (mem_ded y xs).symm)
theorem ris_eq {xs ys : List Str} (h : ∀ y, y ∈ xs ↔ y ∈ ys) : ris xs = ris ys := ris_of (nd_ded xs) fun y => (mem_ded y xs).trans (h y)
theorem min_fold : ∀ (xs : List Str) (a : Str), (xs.foldl (fun a y => if decide (y.cps.toList < a.cps.toList) = true then y else a) a = a ∨ xs.foldl (fun a y => if decide (y.cps.toList < a.cps.toList) = true then y else a) a ∈ xs) ∧
    leS (xs.foldl (fun a y => if decide (y.cps.toList < a.cps.toList) = true then y else a) a) a = true ∧ ∀ y ∈ xs, leS (xs.foldl (fun a y => if decide (y.cps.toList < a.cps.toList) = true then y else a) a) y = true
  | [], a => ⟨.inl rfl, by have := leS_total a a; simpa using this, fun y hy => nomatch hy⟩
  | x :: xs, a => by
    rw [List.foldl_cons]
    obtain ⟨h1, h2, h3⟩ := min_fold xs (if decide (x.cps.toList < a.cps.toList) = true then x else a)
    have ha : leS (if decide (x.cps.toList < a.cps.toList) = true then x else a) a = true ∧ leS (if decide (x.cps.toList < a.cps.toList) = true then x else a) x = true := by
      by_cases c : x.cps.toList < a.cps.toList
      · rw [if_pos (decide_eq_true c)]
        refine ⟨leS_iff.mpr fun q => List.lt_irrefl _ (List.lt_trans c q), ?_⟩
        have := leS_total x x
        simpa using this
      · rw [if_neg (by simpa using c)]
        refine ⟨?_, leS_iff.mpr c⟩
        have := leS_total a a
        simpa using this
    refine ⟨?_, leS_trans h2 ha.1, fun y hy => ?_⟩
    · rcases h1 with h1 | h1
      · rw [h1]
        split
        · exact .inr List.mem_cons_self
        · exact .inl rfl
      · exact .inr (List.mem_cons_of_mem _ h1)
    · rcases List.mem_cons.mp hy with rfl | hy
      · exact leS_trans h2 ha.2
      · exact h3 y hy
theorem minL_mem {xs : List Str} {x : Str} (h : minL xs = some x) : x ∈ xs ∧ ∀ y ∈ xs, leS x y = true := by
  cases xs with
  | nil => cases h
  | cons a xs =>
    obtain ⟨h1, h2, h3⟩ := min_fold xs a
    have h := Option.some.inj h
    rw [h] at h1 h2 h3
    refine ⟨?_, fun y hy => ?_⟩
    · rcases h1 with h1 | h1
      · rw [h1]
        exact List.mem_cons_self
      · exact List.mem_cons_of_mem _ h1
    · rcases List.mem_cons.mp hy with rfl | hy
      · exact h2
      · exact h3 y hy
theorem minL_some {xs : List Str} (h : xs ≠ []) : ∃ x, minL xs = some x := by
  cases xs with
  | nil => exact absurd rfl h
  | cons a xs => exact ⟨_, rfl⟩
theorem ris_step {xs : List Str} {x : Str} (h : minL xs = some x) : ris xs = x :: ris (xs.filter fun y => !decide (y = x)) := by
  obtain ⟨h1, h2⟩ := minL_mem h
  have hm : ∀ y, y ∈ ris (xs.filter fun y => !decide (y = x)) ↔ y ∈ xs ∧ y ≠ x := fun y => by
    rw [ris_mem, List.mem_filter]
    simp
  refine (sortS_one (xs := dedS xs) ?_ ?_).symm
  · refine (List.perm_ext_iff_of_nodup (List.nodup_cons.mpr ⟨fun q => ((hm x).mp q).2 rfl, ris_nd⟩) (nd_ded xs)).mpr fun y => ?_
    rw [mem_ded, List.mem_cons, hm]
    constructor
    · rintro (rfl | ⟨q, _⟩)
      · exact h1
      · exact q
    · intro q
      by_cases e : y = x
      · exact .inl e
      · exact .inr ⟨q, e⟩
  · refine List.pairwise_cons.mpr ⟨fun y hy => h2 y ((hm y).mp hy).1, ?_⟩
    exact sortS_pw _
theorem ris_nil : ris [] = [] := by
  have : (ris []).length ≤ 0 := ris_len
  exact List.length_eq_zero_iff.mp (by omega)
theorem allS_map : ∀ xs : List Str, allStr (xs.map D.str) = some xs
  | [] => rfl
  | x :: xs => by
    show (allStr (xs.map D.str)).map _ = _
    rw [allS_map xs]
    rfl
theorem ss_tmp {m : Mm} {xs : List Str} (h : xs.length < 64) : ssO m (.tmp (xs.map D.str)) = some ((ris xs).map .str) := by
  show (allStr (xs.map D.str)).bind _ = _
  rw [allS_map]
  exact if_pos h
theorem ss_ref {m : Mm} {n : Nat} {xs : List Str} (e : m[n]? = some (.lst (xs.map D.str))) (h : xs.length < 64) : ssO m (.val (.ref n)) = some ((ris xs).map .str) := by
  unfold ssO
  rw [lst_ref e]
  exact ss_tmp (m := m) h
theorem min_ref {m : Mm} {n : Nat} {xs : List Str} {x : Str} (e : m[n]? = some (.lst (xs.map D.str))) (h : minL xs = some x) : bltO .min_ m (.val (.ref n)) = some (.val (.str x), m) := by
  show (lstO m (.val (.ref n))).bind _ = _
  rw [lst_ref e]
  show (allStr (xs.map D.str)).bind _ = _
  rw [allS_map]
  show (minL xs).map _ = _
  rw [h]
  rfl
theorem strs_ne {m : Mm} {q : Nat} {xs : List Str} (h : m[q]? = some (.lst (xs.map D.str))) (ho : ∀ x ∈ xs, PyData.strOk x = true) : cmpO m .ne (.val (.ref q)) (.tmp []) = some (!xs.isEmpty) := by
  show (eqO m (.val (.ref q)) (.tmp [])).map _ = _
  rw [show eqO m (.val (.ref q)) (.tmp []) = some xs.isEmpty from strs_nil h ho]
  rfl
/-! dicts of truths: their keys -/
def kvT (l : List Str) : List (Key × D) := l.map fun x => (.inr x, .bl true)
def put1 (x : Str) (l : List Str) : List Str := if x ∈ l then l else l ++ [x]
theorem put1_mem {x y : Str} {l : List Str} : y ∈ put1 x l ↔ y = x ∨ y ∈ l := by
  unfold put1
  split
  · rename_i h
    exact ⟨.inr, fun q => q.elim (fun e => e ▸ h) id⟩
  · rw [List.mem_append, List.mem_singleton]
    exact Or.comm
theorem put1_nd {x : Str} {l : List Str} (h : l.Nodup) : (put1 x l).Nodup := by
  unfold put1
  split
  · exact h
  · rename_i c
    exact List.nodup_append.mpr ⟨h, by simp, fun a ha b hb e => c (by rw [List.mem_singleton.mp hb] at e; exact e ▸ ha)⟩
theorem put1_len {x : Str} {l : List Str} : (put1 x l).length ≤ l.length + 1 := by
  unfold put1
  split
  · omega
  · rw [List.length_append, List.length_singleton]
    exact Nat.le_refl _
theorem kvT_get {x : Str} : ∀ l : List Str, kvGet (.inr x) (kvT l) = if x ∈ l then some (.bl true) else none
  | [] => by simp [kvT, kvGet_nil]
  | y :: l => by
    show kvGet (.inr x) ((.inr y, .bl true) :: kvT l) = _
    rw [kvGet_cons, kvT_get l]
    by_cases h : y = x
    · subst h
      simp
    · have h2 : ¬ (Sum.inr y : Key) = Sum.inr x := fun e => h (Sum.inr.inj e)
      have h3 : ¬ x = y := fun e => h e.symm
      rw [if_neg h2]
      simp [h3]
theorem kvT_put {x : Str} {l : List Str} : kvPut (.inr x) (.bl true) (kvT l) = kvT (put1 x l) := by
  unfold kvPut put1
  have e : ((kvT l).any fun kv => decide (kv.1 = Sum.inr x)) = decide (x ∈ l) := by
    rw [kvGet_any, kvT_get]
    by_cases h : x ∈ l
    · rw [if_pos h, decide_eq_true h]
      rfl
    · rw [if_neg h, decide_eq_false h]
      rfl
  rw [e]
  by_cases h : x ∈ l
  · rw [if_pos (decide_eq_true h), if_pos h]
    unfold kvT
    rw [List.map_map]
    refine List.map_congr_left fun y hy => ?_
    show (if (Sum.inr y : Key) = Sum.inr x then (Sum.inr y, D.bl true) else (Sum.inr y, D.bl true)) = _
    split <;> rfl
  · rw [if_neg (by simpa using h), if_neg h]
    unfold kvT
    rw [List.map_append]
    rfl
theorem kvT_keys {l : List Str} : keysS (kvT l) = l := by
  unfold keysS kvT
  rw [List.map_map]
  exact List.map_id' l
theorem kvT_str {l : List Str} : strK (kvT l) := fun p hp => by
  obtain ⟨x, _, rfl⟩ := List.mem_map.mp hp
  exact ⟨x, rfl⟩
theorem kvT_len {l : List Str} : (kvT l).length = l.length := List.length_map ..
theorem sorted_T {m : Mm} {n : Nat} {l : List Str} (h : m[n]? = some (.dct (kvT l))) (hl : l.length < 64) : sortedO m (.val (.ref n)) = some ((sortS l).map .str) := by
  rw [sorted_dct h kvT_str (by rw [kvT_len]; exact hl), kvT_keys]
theorem in_T {m : Mm} {n : Nat} {l : List Str} {x : Str} (h : m[n]? = some (.dct (kvT l))) : inO m (.val (.str x)) (.val (.ref n)) = some (decide (x ∈ l)) := by
  rw [in_dct h]
  show some (kvGet (.inr x) (kvT l)).isSome = _
  rw [kvT_get]
  by_cases c : x ∈ l
  · rw [if_pos c, decide_eq_true c]
    rfl
  · rw [if_neg c, decide_eq_false c]
    rfl
theorem put_T {m : Mm} {n : Nat} {l : List Str} {x : Str} (h : m[n]? = some (.dct (kvT l))) (hl : l.length < 16777216) : putO m (.val (.ref n)) (.val (.str x)) (.bl true) = some (m.set n (.dct (kvT (put1 x l)))) := by
  rw [put_dct h]
  show (if (kvT l).length < sizeLine then _ else _) = _
  rw [kvT_len, szE, if_pos hl, kvT_put]
/-! in a tuple of texts -/
theorem in_tupT {m : Mm} {xs : List Str} {x : Str} : inO m (.val (.str x)) (.val (.tup (xs.map D.str))) = some (decide (x ∈ xs)) := by
  have e1 : toP m (.val (.tup (xs.map D.str))) = some (.tuple (xs.map PyData.str)) := by
    show (dps (rp m 64) (xs.map D.str)).map PyData.tuple = _
    have : dps (rp m 64) (xs.map D.str) = some (xs.map PyData.str) := by
      induction xs with
      | nil => rfl
      | cons y ys ih =>
        rw [List.map_cons, dps, dp, Option.bind_some, ih]
        rfl
    rw [this]
    rfl
  show (match toP m (.val (.str x)), toP m (.val (.tup (xs.map D.str))) with
      | some p, some (.list qs) => if SeqAt.shaped p && SeqAt.shaped (.list qs) then some (qs.any fun z => PyData.eqv z p) else none
      | some p, some (.tuple qs) => if flatP p && qs.all flatP then some (qs.any fun z => PyData.eqv z p) else none
      | _, _ => none) = _
  have e3 : toP m (.val (.str x)) = some (.str x) := rfl
  rw [e3, e1]
  show (if flatP (.str x) && (xs.map PyData.str).all flatP then some ((xs.map PyData.str).any fun z => PyData.eqv z (.str x)) else none) = _
  have e4 : (xs.map PyData.str).all flatP = true := by
    rw [List.all_eq_true]
    intro y hy
    obtain ⟨z, _, rfl⟩ := List.mem_map.mp hy
    rfl
  rw [e4, any_strs]
  rfl
/-- a comprehension with a test, over kinds -/
theorem loopC_filK {α : Type} {ff : D → Mm → Option (Option D × Mm)} {gd : Mm → Bool} {enc : α → D} {sel : α → Option D} {m : Mm} (hg : gd m = true) : ∀ {as : List α} {acc : List D}, (∀ a ∈ as, ff (enc a) m = some (sel a, m)) → acc.length + as.length ≤ sizeLine → loopC ff gd (as.map enc) acc m = some (acc ++ as.filterMap sel, m)
  | [], acc, _, _ => by
    rw [List.filterMap_nil, List.append_nil]
    exact if_pos hg
  | a :: as, acc, hs, hl => by
    rw [List.length_cons] at hl
    have e2 : loopC ff gd (enc a :: as.map enc) acc m = (ff (enc a) m).bind fun r => match r.1 with
      | none => loopC ff gd (as.map enc) acc r.2
      | some y => if acc.length < sizeLine then loopC ff gd (as.map enc) (acc ++ [y]) r.2 else none := if_pos hg
    rw [List.map_cons, e2, hs a List.mem_cons_self, List.filterMap_cons]
    have hs' : ∀ e ∈ as, ff (enc e) m = some (sel e, m) := fun e he => hs e (List.mem_cons_of_mem _ he)
    cases sel a with
    | none =>
      show loopC ff gd (as.map enc) acc m = _
      exact loopC_filK hg hs' (by omega)
    | some y =>
      show (if acc.length < sizeLine then loopC ff gd (as.map enc) (acc ++ [y]) m else none) = _
      rw [if_pos (by omega), loopC_filK hg hs' (by rw [List.length_append, List.length_singleton]; omega), List.append_assoc]
      rfl
/-- a loop by a condition, that ends -/
theorem loopW_run {c : Fr → Mm → Option (Bool × Mm)} {f : Fr → Mm → Option (Fl × Fr × Mm)} (I : Nat → Fr → Mm → Prop) (Q : Fr → Mm → Prop)
    (step : ∀ k fr m, I k fr m → (∃ m1, c fr m = some (false, m1) ∧ Q fr m1) ∨ ∃ m1 fr' m' k', c fr m = some (true, m1) ∧ f fr m1 = some (.nx, fr', m') ∧ k' < k ∧ I k' fr' m') :
    ∀ (n k : Nat) (fr : Fr) (m : Mm), k < n → I k fr m → ∃ fr' m', loopW c f n fr m = some (.nx, fr', m') ∧ Q fr' m'
  | 0, _, _, _, h, _ => by omega
  | n + 1, k, fr, m, h, i => by
    rcases step k fr m i with ⟨m1, e, q⟩ | ⟨m1, fr', m', k', e1, e2, hk, i'⟩
    · refine ⟨fr, m1, ?_, q⟩
      rw [loopW, e]
      rfl
    · obtain ⟨fr2, m2, e3, q⟩ := loopW_run I Q step n k' fr' m' (by omega) i'
      refine ⟨fr2, m2, ?_, q⟩
      rw [loopW, e1]
      show (f fr m1).bind _ = _
      rw [e2]
      exact e3
theorem set_behind {m a : Mm} {i : Nat} {o : MO} (h : m.length ≤ i) : ∃ b, (m ++ a).set i o = m ++ b := ⟨a.set (i - m.length) o, List.set_append_right _ _ h⟩
/-! ### bounds of plain data -/
/-- plain data of depth q, shown by s signs at most -/
def Bn (q s : Nat) (d : D) : Prop := okD d = true ∧ dpD d ≤ q ∧ szD d ≤ s
theorem Bn.up {q s q' s' : Nat} {d : D} (h : Bn q s d) (hq : q ≤ q') (hs : s ≤ s') : Bn q' s' d := ⟨h.1, by have := h.2.1; omega, by have := h.2.2; omega⟩
theorem Bn.list {q s : Nat} : ∀ {ds : List D}, (∀ d ∈ ds, Bn q s d) → okDs ds = true ∧ dpDs ds ≤ q ∧ szDs ds ≤ (s + 2) * ds.length
  | [], _ => ⟨rfl, Nat.zero_le _, Nat.le_refl _⟩
  | d :: ds, h => by
    obtain ⟨h1, h2, h3⟩ := Bn.list fun e he => h e (List.mem_cons_of_mem _ he)
    obtain ⟨g1, g2, g3⟩ := h d List.mem_cons_self
    refine ⟨by simp only [okDs, g1, h1, Bool.and_self], ?_, ?_⟩
    · simp only [dpDs]
      omega
    · simp only [szDs, List.length_cons, Nat.mul_add]
      omega
theorem Bn.tup {q s n : Nat} {ds : List D} (h : ∀ d ∈ ds, Bn q s d) (hn : ds.length ≤ n) : Bn (q + 1) ((s + 2) * n + 4) (.tup ds) := by
  obtain ⟨h1, h2, h3⟩ := Bn.list h
  refine ⟨h1, by simp only [dpD]; omega, ?_⟩
  have : (s + 2) * ds.length ≤ (s + 2) * n := Nat.mul_le_mul_left _ hn
  simp only [szD]
  omega
theorem Bn.str {x : Str} (h : PyData.strOk x = true) (hl : x.length ≤ 100) : Bn 0 1921 (.str x) := ⟨h, Nat.le_refl _, by simp only [szD]; omega⟩
theorem Bn.one {P : D → Prop} {a : D} (ha : P a) : ∀ z ∈ [a], P z := fun z hz => by
  rw [List.mem_singleton.mp hz]
  exact ha
theorem Bn.two {P : D → Prop} {a b : D} (ha : P a) (hb : P b) : ∀ z ∈ [a, b], P z := fun z hz => by
  simp only [List.mem_cons, List.not_mem_nil, or_false] at hz
  rcases hz with rfl | rfl <;> assumption
theorem Bn.repr {q s : Nat} {d : D} (h : Bn q s d) (hq : q ≤ 64) (hs : s ≤ 16777216) (m : Mm) : reprO m (.val d) = some (pdD d).shown := by
  obtain ⟨h1, h2, h3⟩ := h
  exact repr_val h1 (by omega) (by rw [szE]; omega)
/-- a written dict, at once -/
theorem dsp_new {m : Mm} {ks : List Str} {ds : List D} (h : ks.length ≤ 15) : dspO ks m.length ds (m ++ [.dct []]) = some (.val (.ref m.length), m ++ [.dct (mergeD [] (List.zipWith (fun k d => ((Sum.inr k : Key), d)) ks ds))]) := by
  unfold dspO
  rw [get_new]
  show (if ks.length ≤ 15 then some (Out.val (D.ref m.length), (m ++ [MO.dct []]).set m.length _) else none) = _
  rw [if_pos h, set_end]
/-- names drawn values for, one by one -/
theorem kv_of {x : Str} {P : D → Prop} : ∀ {ps : List (Str × D)} {acc : Option D}, (∀ p ∈ ps, P p.2) → (∀ v, acc = some v → P v) → (acc.isSome = true ∨ x ∈ ps.map (·.1)) → ∃ v, (kvsS ps).foldl (fun acc p => if p.1 = Sum.inr x then some p.2 else acc) acc = some v ∧ P v
  | [], acc, _, h2, h3 => by
    rcases h3 with h3 | h3
    · obtain ⟨v, e⟩ := Option.isSome_iff_exists.mp h3
      exact ⟨v, e, h2 v e⟩
    · cases h3
  | p :: ps, acc, h1, h2, h3 => by
    show ∃ v, (kvsS ps).foldl _ (if (Sum.inr p.1 : Key) = Sum.inr x then some p.2 else acc) = some v ∧ P v
    refine kv_of (fun q hq => h1 q (List.mem_cons_of_mem _ hq)) (fun v e => ?_) ?_
    · split at e
      · cases e
        exact h1 p List.mem_cons_self
      · exact h2 v e
    · by_cases e : p.1 = x
      · rw [if_pos (congrArg Sum.inr e)]
        exact .inl rfl
      · rw [if_neg fun z => e (Sum.inr.inj z)]
        refine h3.imp id fun h => ?_
        rcases List.mem_cons.mp h with h | h
        · exact absurd h.symm e
        · exact h
theorem kv_get_of {x : Str} {P : D → Prop} {ps : List (Str × D)} (h : ∀ p ∈ ps, P p.2) (hx : x ∈ ps.map (·.1)) : ∃ v, kvGet (.inr x) (mergeD [] (kvsS ps)) = some v ∧ P v := by
  rw [kvGet_merge]
  exact kv_of h (fun v e => nomatch e) (.inr hx)
end Nb

namespace Hd
open PySem PySem.Spec PyProof.Rows L2 Nb
def top (i : Nat) : Stmt := PySem.Challenge.pw_noteboard_k13_names_known_at_places.main.body.getD i (.Pass ⟨0, 0, 0, 0⟩)
def d_binds : He.DefD := ⟨("binds", none), "binds", "binds", defArgs (top 1), defBody (top 1), defScope (top 1), [], []⟩
def d_bound_by : He.DefD := ⟨("bound_by", none), "bound_by", "bound_by", defArgs (top 4), defBody (top 4), defScope (top 4), [], []⟩
def d_known_at : He.DefD := ⟨("known_at", none), "known_at", "known_at", defArgs (top 6), defBody (top 6), defScope (top 6), [], []⟩
def d_Ltape : He.DefD := ⟨("_law_tape", none), "_law_tape", "_law_tape", defArgs (top 8), defBody (top 8), defScope (top 8), [], []⟩
def d_Ldraw : He.DefD := ⟨("_law_draw", none), "_law_draw", "_law_draw", defArgs (top 9), defBody (top 9), defScope (top 9), [], []⟩
def d_Lage : He.DefD := ⟨("_law_age", none), "_law_age", "_law_age", defArgs (top 12), defBody (top 12), defScope (top 12), [], []⟩
def d_Lvalue : He.DefD := ⟨("_law_value", none), "_law_value", "_law_value", defArgs (top 10), defBody (top 10), defScope (top 10), [], []⟩
def d_Lsize : He.DefD := ⟨("_law_size", none), "_law_size", "_law_size", defArgs (top 11), defBody (top 11), defScope (top 11), [], []⟩
def d_Lpattern : He.DefD := ⟨("_law_pattern", none), "_law_pattern", "_law_pattern", defArgs (top 13), defBody (top 13), defScope (top 13), [], []⟩
def d_Ltemplate : He.DefD := ⟨("_law_template", none), "_law_template", "_law_template", defArgs (top 14), defBody (top 14), defScope (top 14), [], []⟩
def d_Lterm : He.DefD := ⟨("_law_term", none), "_law_term", "_law_term", defArgs (top 15), defBody (top 15), defScope (top 15), [], []⟩
def d_Lact : He.DefD := ⟨("_law_act", none), "_law_act", "_law_act", defArgs (top 16), defBody (top 16), defScope (top 16), [], []⟩
def d_Lprogram : He.DefD := ⟨("_law_program", none), "_law_program", "_law_program", defArgs (top 17), defBody (top 17), defScope (top 17), [], []⟩
def d_Lnames_in : He.DefD := ⟨("_law_names_in", none), "_law_names_in", "_law_names_in", defArgs (top 18), defBody (top 18), defScope (top 18), [], []⟩
def d_Ldue : He.DefD := ⟨("_law_due", none), "_law_due", "_law_due", defArgs (top 19), defBody (top 19), defScope (top 19), [], []⟩
def d_Lused_right : He.DefD := ⟨("_law_used_right", none), "_law_used_right", "_law_used_right", defArgs (top 20), defBody (top 20), defScope (top 20), [], []⟩
def d_law : He.DefD := ⟨("law", none), "law", "law", defArgs (top 21), defBody (top 21), defScope (top 21), [], []⟩
def fn0 : List He.DefD := [d_binds, d_bound_by, d_known_at, d_Ltape, d_Ldraw, d_Lage, d_Lvalue, d_Lsize, d_Lpattern, d_Ltemplate, d_Lterm, d_Lact, d_Lprogram, d_Lnames_in, d_Ldue, d_Lused_right, d_law]
def fn : List He.DefD := fn0
def fx0 : List He.Fa := [.glo "binds", .glo "bound_by", .glo "known_at", .glo "_law_tape", .glo "_law_draw", .glo "_law_age", .glo "_law_value", .glo "_law_size", .glo "_law_pattern", .glo "_law_template", .glo "_law_term", .glo "_law_act", .glo "_law_program", .glo "_law_names_in", .glo "_law_due", .glo "_law_used_right", .glo "law"]
def fx : List He.Fa := fx0
def fa : List He.Fa := bltFa ++ fx
def loose0 : List PySem.Str := ["binds", "GETTING", "bound_by", "known_at", "_law_tape", "_law_draw", "_law_value", "_law_size", "_law_age", "_law_pattern", "_law_template", "_law_term", "_law_act", "_law_program", "_law_names_in", "_law_due", "_law_used_right"]
def loose : List PySem.Str := loose0
abbrev R : PySem.W.OpenRow := PySem.W.OpenLaw.row PySem.Challenge.rw_noteboard_k13_names_known_at_places
def cs : List (Str × D) := [("GETTING", .tup [.str "take", .str "read", .str "look"])]
abbrev hk : PySem.W.Hook := hookN 4 fa fn (cstsB cs)
def ob (s : PySem.W.SharedT) : AlN := obsN 4 fa fn (cstsB cs) (HandSHeadRun.getT s)
theorem ob_eq (s : PySem.W.SharedT) : ob s = hk.obs s.abs := obsN_eq (HandSHeadRun.getT_eq s)
theorem run (w : World) : HandSHeadRun.RunEq R (PySem.W.view R.prog [21]) hk ob 1080 loose w := by
  intro os
  kernel_rfl
/-! the texts -/
abbrev fs0 : List (Str × Nat × Fn) := []
abbrev g0 : Gv := gv fs0 cs
def N_binds : List Str := ["pattern", "field"]
def s_binds : List S := [
  .ret (.blt .tuple (.ss (.comp (.ix (.var 1) (.int 1)) (.n 1) (.e (.var 0)) [.cmp .eq (.ix (.var 1) (.int 0)) (.str "bind")] [1])))]
def F_binds : Fn := runF g0 N_binds.length s_binds
theorem c_binds : chkSs s_binds ⟨N_binds, d_binds.scope.names, N_binds⟩ d_binds.body = true := by decide +kernel
theorem S_binds : FnScope N_binds ["pattern"] d_binds.scope := ⟨rfl, rfl, rfl, by decide +kernel, rfl, by decide +kernel, by decide +kernel⟩
def N_Ltape : List Str := ["_law_script"]
def s_Ltape : List S := [
  .ret (.lst [.slc (.var 0) none (some (.int 63)), .int 0, .int 0, .lst [.non, .non, .non, .int 1, .int 2, .int 3, .int 20]])]
def F_Ltape : Fn := runF g0 N_Ltape.length s_Ltape
theorem c_Ltape : chkSs s_Ltape ⟨N_Ltape, d_Ltape.scope.names, N_Ltape⟩ d_Ltape.body = true := by decide +kernel
theorem S_Ltape : FnScope N_Ltape ["_law_script"] d_Ltape.scope := ⟨rfl, rfl, rfl, by decide +kernel, rfl, by decide +kernel, by decide +kernel⟩
def N_Ldraw : List Str := ["_law_tape_here", "_law_many", "_law_spot", "_law_cell", "_law_mixed", "_law_found"]
def s_Ldraw : List S := [
  .ife (.cmp .gt (.ix (.var 0) (.int 2)) (.int 0)) [
    .asg (.n 5) (.bop .mod (.ix (.var 0) (.int 2)) (.var 1)), 
    .sub (.var 0) (.int 2) (.bop .fdiv (.ix (.var 0) (.int 2)) (.var 1)), 
    .ret (.var 5)] [], 
  .asg (.n 2) (.ix (.var 0) (.int 1)), 
  .sub (.var 0) (.int 1) (.bop .add (.var 2) (.int 1)), 
  .asg (.n 3) (.int 0), 
  .ife (.cmp .gt (.blt .len (.ix (.var 0) (.int 0))) (.int 0)) [
    .asg (.n 3) (.ix (.ix (.var 0) (.int 0)) (.bop .mod (.var 2) (.blt .len (.ix (.var 0) (.int 0)))))] [], 
  .ife (.and [.cmp .ge (.var 3) (.bop .pow (.int 10) (.int 18)), .cmp .lt (.var 2) (.blt .len (.ix (.var 0) (.int 0)))]) [
    .sub (.var 0) (.int 2) (.bop .fdiv (.var 3) (.var 1)), 
    .ret (.bop .mod (.var 3) (.var 1))] [], 
  .asg (.n 4) (.bop .mod (.bop .mul (.bop .add (.bop .add (.bop .mod (.var 3) (.int 999331)) (.bop .mul (.bop .mul (.int 29) (.var 2)) (.var 2))) (.int 11)) (.int 40692)) (.int 999961)), 
  .ret (.bop .mod (.bop .mod (.bop .mul (.bop .mod (.bop .add (.bop .mul (.var 4) (.int 48271)) (.bop .mul (.var 2) (.int 6271))) (.int 999953)) (.int 16807)) (.int 524287)) (.var 1))]
def F_Ldraw : Fn := runF g0 N_Ldraw.length s_Ldraw
theorem c_Ldraw : chkSs s_Ldraw ⟨N_Ldraw, d_Ldraw.scope.names, N_Ldraw⟩ d_Ldraw.body = true := by decide +kernel
theorem S_Ldraw : FnScope N_Ldraw ["_law_tape_here", "_law_many"] d_Ldraw.scope := ⟨rfl, rfl, rfl, by decide +kernel, rfl, by decide +kernel, by decide +kernel⟩
def N_Lnames_in : List Str := ["_law_fields", "_law_words", "_law_field"]
def s_Lnames_in : List S := [
  .ret (.comp (.ix (.var 2) (.int 1)) (.n 2) (.e (.var 0)) [.cmp .isin (.ix (.var 2) (.int 0)) (.var 1)] [2])]
def F_Lnames_in : Fn := runF g0 N_Lnames_in.length s_Lnames_in
theorem c_Lnames_in : chkSs s_Lnames_in ⟨N_Lnames_in, d_Lnames_in.scope.names, N_Lnames_in⟩ d_Lnames_in.body = true := by decide +kernel
theorem S_Lnames_in : FnScope N_Lnames_in ["_law_fields", "_law_words"] d_Lnames_in.scope := ⟨rfl, rfl, rfl, by decide +kernel, rfl, by decide +kernel, by decide +kernel⟩
abbrev fs1 : List (Str × Nat × Fn) := ("_law_names_in", 2, F_Lnames_in) :: ("_law_draw", 2, F_Ldraw) :: ("_law_tape", 1, F_Ltape) :: ("binds", 1, F_binds) :: fs0
abbrev g1 : Gv := gv fs1 cs
def N_bound_by : List Str := ["act"]
def s_bound_by : List S := [
  .ife (.cmp .isin (.ix (.var 0) (.int 0)) (.glb "GETTING")) [
    .ret (.call "binds" [.ix (.var 0) (.int 1)])] [], 
  .ret (.tup [])]
def F_bound_by : Fn := runF g1 N_bound_by.length s_bound_by
theorem c_bound_by : chkSs s_bound_by ⟨N_bound_by, d_bound_by.scope.names, N_bound_by⟩ d_bound_by.body = true := by decide +kernel
theorem S_bound_by : FnScope N_bound_by ["act"] d_bound_by.scope := ⟨rfl, rfl, rfl, by decide +kernel, rfl, by decide +kernel, by decide +kernel⟩
def N_Lage : List Str := ["_law_tape_here"]
def s_Lage : List S := [
  .ret (.ix (.ix (.var 0) (.int 3)) (.call "_law_draw" [.var 0, .blt .len (.ix (.var 0) (.int 3))]))]
def F_Lage : Fn := runF g1 N_Lage.length s_Lage
theorem c_Lage : chkSs s_Lage ⟨N_Lage, d_Lage.scope.names, N_Lage⟩ d_Lage.body = true := by decide +kernel
theorem S_Lage : FnScope N_Lage ["_law_tape_here"] d_Lage.scope := ⟨rfl, rfl, rfl, by decide +kernel, rfl, by decide +kernel, by decide +kernel⟩
def N_Lvalue : List Str := ["_law_tape_here"]
def s_Lvalue : List S := [
  .ret (.ix (.lst [.str "a", .int 0, .str "a", .int 1, .str "ab", .str "go", .int 99, .int 0]) (.call "_law_draw" [.var 0, .int 8]))]
def F_Lvalue : Fn := runF g1 N_Lvalue.length s_Lvalue
theorem c_Lvalue : chkSs s_Lvalue ⟨N_Lvalue, d_Lvalue.scope.names, N_Lvalue⟩ d_Lvalue.body = true := by decide +kernel
theorem S_Lvalue : FnScope N_Lvalue ["_law_tape_here"] d_Lvalue.scope := ⟨rfl, rfl, rfl, by decide +kernel, rfl, by decide +kernel, by decide +kernel⟩
def N_Lsize : List Str := ["_law_tape_here"]
def s_Lsize : List S := [
  .ret (.ix (.lst [.int 1, .int 2, .int 2, .int 2, .int 1, .int 3, .int 4]) (.call "_law_draw" [.var 0, .int 7]))]
def F_Lsize : Fn := runF g1 N_Lsize.length s_Lsize
theorem c_Lsize : chkSs s_Lsize ⟨N_Lsize, d_Lsize.scope.names, N_Lsize⟩ d_Lsize.body = true := by decide +kernel
theorem S_Lsize : FnScope N_Lsize ["_law_tape_here"] d_Lsize.scope := ⟨rfl, rfl, rfl, by decide +kernel, rfl, by decide +kernel, by decide +kernel⟩
def N_Ldue : List Str := ["_law_block", "_law_place", "_law_found", "_law_name", "_law_act_here"]
def s_Ldue : List S := [
  .asg (.n 2) .dnew, 
  .for_ (.n 3) (.e (.ix (.var 0) (.int 0))) [
    .sub (.var 2) (.var 3) (.bl true)], 
  .for_ (.n 4) (.e (.slc (.ix (.var 0) (.int 1)) none (some (.var 1)))) [
    .ife (.cmp .isin (.ix (.var 4) (.int 0)) (.tup [.str "take", .str "read", .str "look"])) [
      .for_ (.n 3) (.e (.call "_law_names_in" [.ix (.var 4) (.int 1), .lst [.str "bind"]])) [
        .sub (.var 2) (.var 3) (.bl true)]] []], 
  .ret (.blt .tuple (.blt .sorted (.var 2)))]
def F_Ldue : Fn := runF g1 N_Ldue.length s_Ldue
theorem c_Ldue : chkSs s_Ldue ⟨N_Ldue, d_Ldue.scope.names, N_Ldue⟩ d_Ldue.body = true := by decide +kernel
theorem S_Ldue : FnScope N_Ldue ["_law_block", "_law_place"] d_Ldue.scope := ⟨rfl, rfl, rfl, by decide +kernel, rfl, by decide +kernel, by decide +kernel⟩
def N_Lused_right : List Str := ["_law_program_here", "_law_act_here", "_law_known", "_law_fields", "_law_here", "_law_field", "_law_name"]
def s_Lused_right : List S := [
  .asg (.n 3) (.ite (.cmp .eq (.ix (.var 1) (.int 0)) (.str "go")) (.tup []) (.ix (.var 1) (.int 1))), 
  .ife (.cmp .eq (.ix (.var 1) (.int 0)) (.str "same")) [
    .asg (.n 3) (.slc (.var 1) (some (.int 1)) (some (.int 3)))] [], 
  .asg (.n 4) (.blt .list (.var 2)), 
  .for_ (.n 5) (.e (.var 3)) [
    .ife (.and [.cmp .isin (.ix (.var 5) (.int 0)) (.tup [.str "as", .str "next"]), .cmp .notin (.ix (.var 5) (.int 1)) (.var 4)]) [
      .ret (.bl false)] [], 
    .asg (.n 4) (.bop .add (.var 4) (.call "_law_names_in" [.lst [.var 5], .lst [.str "bind"]]))], 
  .ife (.cmp .isin (.ix (.var 1) (.int 0)) (.tup [.str "lay", .str "take", .str "read"])) [
    .ret (.bl true)] [], 
  .ret (.cmp .eq (.comp (.var 6) (.n 6) (.e (.ix (.ix (.var 0) (.ix (.var 1) (.neg (.int 1)))) (.int 0))) [.cmp .notin (.var 6) (.var 2)] [6]) (.lst []))]
def F_Lused_right : Fn := runF g1 N_Lused_right.length s_Lused_right
theorem c_Lused_right : chkSs s_Lused_right ⟨N_Lused_right, d_Lused_right.scope.names, N_Lused_right⟩ d_Lused_right.body = true := by decide +kernel
theorem S_Lused_right : FnScope N_Lused_right ["_law_program_here", "_law_act_here", "_law_known"] d_Lused_right.scope := ⟨rfl, rfl, rfl, by decide +kernel, rfl, by decide +kernel, by decide +kernel⟩
abbrev fs2 : List (Str × Nat × Fn) := ("_law_used_right", 3, F_Lused_right) :: ("_law_due", 2, F_Ldue) :: ("_law_size", 1, F_Lsize) :: ("_law_value", 1, F_Lvalue) :: ("_law_age", 1, F_Lage) :: ("bound_by", 1, F_bound_by) :: fs1
abbrev g2 : Gv := gv fs2 cs
def N_known_at : List Str := ["program", "block", "place", "found", "act", "wanted", "acts"]
def s_known_at : List S := [
  .asg (.t [.n 5, .n 6]) (.ix (.var 0) (.var 1)), 
  .asg (.n 3) (.blt .list (.var 5)), 
  .for_ (.n 4) (.e (.slc (.var 6) none (some (.var 2)))) [
    .ext (.var 3) (.call "bound_by" [.var 4])], 
  .ret (.blt .tuple (.ss (.var 3)))]
def F_known_at : Fn := runF g2 N_known_at.length s_known_at
theorem c_known_at : chkSs s_known_at ⟨N_known_at, d_known_at.scope.names, N_known_at⟩ d_known_at.body = true := by decide +kernel
theorem S_known_at : FnScope N_known_at ["program", "block", "place"] d_known_at.scope := ⟨rfl, rfl, rfl, by decide +kernel, rfl, by decide +kernel, by decide +kernel⟩
def N_Lpattern : List Str := ["_law_tape_here", "_law_known", "_law_fields", "_law_bound", "_law_k", "_law_way", "_law_some", "_law_name"]
def s_Lpattern : List S := [
  .asg (.n 2) (.lst []), 
  .asg (.n 3) (.lst []), 
  .for_ (.n 4) (.rng1 (.call "_law_size" [.var 0])) [
    .asg (.n 5) (.call "_law_draw" [.var 0, .int 9]), 
    .asg (.n 6) (.bop .add (.var 1) (.var 3)), 
    .ife (.cmp .lt (.var 5) (.int 3)) [
      .app (.var 2) (.tup [.str "is", .call "_law_value" [.var 0]])] [
      .ife (.cmp .lt (.var 5) (.int 6)) [
        .app (.var 2) (.ix (.lst [.tup [.str "any"], .tup [.str "word"], .tup [.str "number"]]) (.bop .sub (.var 5) (.int 3)))] [
        .ife (.or [.cmp .lt (.var 5) (.int 8), .cmp .eq (.var 6) (.lst [])]) [
          .asg (.n 7) (.ix (.lst [.str "n", .str "nm", .str "go", .str "m", .str "z", .str "abcd", .str "k"]) (.call "_law_draw" [.var 0, .int 7])), 
          .app (.var 3) (.var 7), 
          .app (.var 2) (.tup [.str "bind", .var 7])] [
          .app (.var 2) (.tup [.str "as", .ix (.var 6) (.call "_law_draw" [.var 0, .blt .len (.var 6)])])]]]], 
  .ret (.tup [.blt .tuple (.var 2), .var 3])]
def F_Lpattern : Fn := runF g2 N_Lpattern.length s_Lpattern
theorem c_Lpattern : chkSs s_Lpattern ⟨N_Lpattern, d_Lpattern.scope.names, N_Lpattern⟩ d_Lpattern.body = true := by decide +kernel
theorem S_Lpattern : FnScope N_Lpattern ["_law_tape_here", "_law_known"] d_Lpattern.scope := ⟨rfl, rfl, rfl, by decide +kernel, rfl, by decide +kernel, by decide +kernel⟩
def N_Ltemplate : List Str := ["_law_tape_here", "_law_known", "_law_fields", "_law_k", "_law_way"]
def s_Ltemplate : List S := [
  .asg (.n 2) (.lst []), 
  .for_ (.n 3) (.rng1 (.call "_law_size" [.var 0])) [
    .asg (.n 4) (.call "_law_draw" [.var 0, .int 6]), 
    .ife (.or [.cmp .lt (.var 4) (.int 3), .cmp .eq (.var 1) (.lst [])]) [
      .app (.var 2) (.tup [.str "is", .call "_law_value" [.var 0]])] [
      .app (.var 2) (.tup [.ix (.lst [.str "as", .str "as", .str "next"]) (.bop .sub (.var 4) (.int 3)), .ix (.var 1) (.call "_law_draw" [.var 0, .blt .len (.var 1)])])]], 
  .ret (.blt .tuple (.var 2))]
def F_Ltemplate : Fn := runF g2 N_Ltemplate.length s_Ltemplate
theorem c_Ltemplate : chkSs s_Ltemplate ⟨N_Ltemplate, d_Ltemplate.scope.names, N_Ltemplate⟩ d_Ltemplate.body = true := by decide +kernel
theorem S_Ltemplate : FnScope N_Ltemplate ["_law_tape_here", "_law_known"] d_Ltemplate.scope := ⟨rfl, rfl, rfl, by decide +kernel, rfl, by decide +kernel, by decide +kernel⟩
def N_Lterm : List Str := ["_law_tape_here", "_law_known"]
def s_Lterm : List S := [
  .ife (.or [.cmp .eq (.var 1) (.lst []), .cmp .eq (.call "_law_draw" [.var 0, .int 2]) (.int 0)]) [
    .ret (.tup [.str "is", .call "_law_value" [.var 0]])] [], 
  .ret (.tup [.str "as", .ix (.var 1) (.call "_law_draw" [.var 0, .blt .len (.var 1)])])]
def F_Lterm : Fn := runF g2 N_Lterm.length s_Lterm
theorem c_Lterm : chkSs s_Lterm ⟨N_Lterm, d_Lterm.scope.names, N_Lterm⟩ d_Lterm.body = true := by decide +kernel
theorem S_Lterm : FnScope N_Lterm ["_law_tape_here", "_law_known"] d_Lterm.scope := ⟨rfl, rfl, rfl, by decide +kernel, rfl, by decide +kernel, by decide +kernel⟩
abbrev fs3 : List (Str × Nat × Fn) := ("_law_term", 2, F_Lterm) :: ("_law_template", 2, F_Ltemplate) :: ("_law_pattern", 2, F_Lpattern) :: ("known_at", 3, F_known_at) :: fs2
abbrev g3 : Gv := gv fs3 cs
def N_Lact : List Str := ["_law_tape_here", "_law_known", "_law_open_ones", "_law_way", "_law_block", "_law_pattern_here", "_law_bound"]
def s_Lact : List S := [
  .asg (.n 3) (.call "_law_draw" [.var 0, .int 12]), 
  .ife (.cmp .lt (.var 3) (.int 4)) [
    .ret (.tup [.tup [.str "lay", .call "_law_template" [.var 0, .var 1], .call "_law_age" [.var 0]], .lst []])] [], 
  .asg (.n 4) (.ix (.var 2) (.call "_law_draw" [.var 0, .blt .len (.var 2)])), 
  .ife (.cmp .eq (.var 3) (.int 10)) [
    .ret (.tup [.tup [.str "same", .call "_law_term" [.var 0, .var 1], .call "_law_term" [.var 0, .var 1], .var 4], .lst []])] [], 
  .ife (.cmp .eq (.var 3) (.int 11)) [
    .ret (.tup [.tup [.str "go", .var 4], .lst []])] [], 
  .asg (.t [.n 5, .n 6]) (.call "_law_pattern" [.var 0, .var 1]), 
  .ife (.cmp .gt (.var 3) (.int 7)) [
    .ret (.tup [.tup [.str "look", .var 5, .var 4], .var 6])] [], 
  .ret (.tup [.tup [.ix (.lst [.str "take", .str "take", .str "take", .str "read"]) (.bop .sub (.var 3) (.int 4)), .var 5], .var 6])]
def F_Lact : Fn := runF g3 N_Lact.length s_Lact
theorem c_Lact : chkSs s_Lact ⟨N_Lact, d_Lact.scope.names, N_Lact⟩ d_Lact.body = true := by decide +kernel
theorem S_Lact : FnScope N_Lact ["_law_tape_here", "_law_known", "_law_open_ones"] d_Lact.scope := ⟨rfl, rfl, rfl, by decide +kernel, rfl, by decide +kernel, by decide +kernel⟩
abbrev fs4 : List (Str × Nat × Fn) := ("_law_act", 3, F_Lact) :: fs3
abbrev g4 : Gv := gv fs4 cs
def N_Lprogram : List Str := ["_law_tape_here", "_law_wants", "_law_k", "_law_blocks", "_law_want", "_law_known", "_law_acts", "_law_open_ones", "_law_name", "_law_act_here", "_law_bound", "_law_b"]
def s_Lprogram : List S := [
  .asg (.n 1) (.lst [.tup []]), 
  .for_ (.n 2) (.rng1 (.ix (.lst [.int 0, .int 1, .int 2, .int 1, .int 0, .int 2, .int 5]) (.call "_law_draw" [.var 0, .int 7]))) [
    .app (.var 1) (.ix (.lst [.tup [], .tup [.str "n"], .tup [.str "go", .str "n"], .tup [.str "nm"], .tup []]) (.call "_law_draw" [.var 0, .int 5]))], 
  .asg (.n 3) (.lst []), 
  .for_ (.n 4) (.e (.var 1)) [
    .asg (.n 5) (.blt .list (.var 4)), 
    .asg (.n 6) (.lst []), 
    .for_ (.n 2) (.rng1 (.ix (.lst [.int 2, .int 3, .int 1, .int 4, .int 2, .int 0, .int 3, .int 8]) (.call "_law_draw" [.var 0, .int 8]))) [
      .asg (.n 7) (.comp (.var 11) (.n 11) (.rng1 (.blt .len (.var 1))) [.cmp .eq (.comp (.var 8) (.n 8) (.e (.ix (.var 1) (.var 11))) [.cmp .notin (.var 8) (.var 5)] [8]) (.lst [])] [11]), 
      .asg (.t [.n 9, .n 10]) (.call "_law_act" [.var 0, .var 5, .var 7]), 
      .app (.var 6) (.var 9), 
      .for_ (.n 8) (.e (.var 10)) [
        .ife (.cmp .notin (.var 8) (.var 5)) [
          .app (.var 5) (.var 8)] []]], 
    .app (.var 3) (.tup [.var 4, .blt .tuple (.var 6)])], 
  .ret (.blt .tuple (.var 3))]
def F_Lprogram : Fn := runF g4 N_Lprogram.length s_Lprogram
theorem c_Lprogram : chkSs s_Lprogram ⟨N_Lprogram, d_Lprogram.scope.names, N_Lprogram⟩ d_Lprogram.body = true := by decide +kernel
theorem S_Lprogram : FnScope N_Lprogram ["_law_tape_here"] d_Lprogram.scope := ⟨rfl, rfl, rfl, by decide +kernel, rfl, by decide +kernel, by decide +kernel⟩
abbrev fs5 : List (Str × Nat × Fn) := ("_law_program", 1, F_Lprogram) :: fs4
abbrev g5 : Gv := gv fs5 cs
def N_law : List Str := ["_law_script", "_law_tape_here", "_law_k", "_law_program_here", "_law_number", "_law_last", "_law_place", "_law_found", "_law_act_here", "_law_name"]
def s_law : List S := [
  .asg (.n 1) (.call "_law_tape" [.var 0]), 
  .for_ (.n 2) (.rng1 (.int 5)) [
    .asg (.n 3) (.call "_law_program" [.var 1]), 
    .for_ (.n 4) (.rng1 (.blt .len (.var 3))) [
      .asg (.n 5) (.ix (.ix (.var 3) (.var 4)) (.int 0)), 
      .for_ (.n 6) (.rng1 (.bop .add (.blt .len (.ix (.ix (.var 3) (.var 4)) (.int 1))) (.int 1))) [
        .asg (.n 7) (.call "known_at" [.var 3, .var 4, .var 6]), 
        .ife (.cmp .ne (.blt .repr (.var 7)) (.blt .repr (.call "_law_due" [.ix (.var 3) (.var 4), .var 6]))) [
          .ret (.bl false)] [], 
        .ife (.cmp .ne (.comp (.var 9) (.n 9) (.e (.var 5)) [.cmp .notin (.var 9) (.var 7)] [9]) (.lst [])) [
          .ret (.bl false)] [], 
        .asg (.n 5) (.var 7), 
        .for_ (.n 8) (.e (.slc (.ix (.ix (.var 3) (.var 4)) (.int 1)) (some (.var 6)) (some (.bop .add (.var 6) (.int 1))))) [
          .ife (.not (.call "_law_used_right" [.var 3, .var 8, .var 7])) [
            .ret (.bl false)] []]]]], 
  .ret (.bl true)]
def F_law : Fn := runF g5 N_law.length s_law
theorem c_law : chkSs s_law ⟨N_law, d_law.scope.names, N_law⟩ d_law.body = true := by decide +kernel
theorem S_law : FnScope N_law ["_law_script"] d_law.scope := ⟨rfl, rfl, rfl, by decide +kernel, rfl, by decide +kernel, by decide +kernel⟩
theorem facts {P : Program} {w : World} {K : PySem.W.Frag} {h : Heap} {mg : Str → Option Value} {f : Addr} (X : K.In h) (G : h.Ns mainGlobals mg) (hfa : mg ("law" : Str) = some (.ref f)) (c : He.SaysD fa fn K) (hx : cstsB cs K = true) :
    ∃ fd : FuncData, (∀ (s : Shared) (v : Value), BindsTo s fd ⟨[v], []⟩ [("_law_script", v)]) ∧ ∀ base : Heap, K.In base → base.Ns mainGlobals mg → FnG P w K mg base CX0 6 f fd ["_law_script"] (spF K 1 F_law) := by
  have hb : ∀ x ∈ bltNames, mg x = none := blt_of X G c
  have hc : ConsL K mg cs := consL_of X G hx
  obtain ⟨fd_binds, D_binds⟩ := c.def_ 0 (d := d_binds) rfl
  have G_binds := He.glo_ok X G (c.fact 19 (f := .glo "binds") rfl)
  have b_binds : Binds K fd_binds ["pattern"] [] := D_binds.bindsN fun _ _ _ _ _ _ us hl => match us, hl with | [_], _ => rfl
  obtain ⟨fd_bound_by, D_bound_by⟩ := c.def_ 1 (d := d_bound_by) rfl
  have G_bound_by := He.glo_ok X G (c.fact 20 (f := .glo "bound_by") rfl)
  have b_bound_by : Binds K fd_bound_by ["act"] [] := D_bound_by.bindsN fun _ _ _ _ _ _ us hl => match us, hl with | [_], _ => rfl
  obtain ⟨fd_known_at, D_known_at⟩ := c.def_ 2 (d := d_known_at) rfl
  have G_known_at := He.glo_ok X G (c.fact 21 (f := .glo "known_at") rfl)
  have b_known_at : Binds K fd_known_at ["program", "block", "place"] [] := D_known_at.bindsN fun _ _ _ _ _ _ us hl => match us, hl with | [_, _, _], _ => rfl
  obtain ⟨fd_Ltape, D_Ltape⟩ := c.def_ 3 (d := d_Ltape) rfl
  have G_Ltape := He.glo_ok X G (c.fact 22 (f := .glo "_law_tape") rfl)
  have b_Ltape : Binds K fd_Ltape ["_law_script"] [] := D_Ltape.bindsN fun _ _ _ _ _ _ us hl => match us, hl with | [_], _ => rfl
  obtain ⟨fd_Ldraw, D_Ldraw⟩ := c.def_ 4 (d := d_Ldraw) rfl
  have G_Ldraw := He.glo_ok X G (c.fact 23 (f := .glo "_law_draw") rfl)
  have b_Ldraw : Binds K fd_Ldraw ["_law_tape_here", "_law_many"] [] := D_Ldraw.bindsN fun _ _ _ _ _ _ us hl => match us, hl with | [_, _], _ => rfl
  obtain ⟨fd_Lage, D_Lage⟩ := c.def_ 5 (d := d_Lage) rfl
  have G_Lage := He.glo_ok X G (c.fact 24 (f := .glo "_law_age") rfl)
  have b_Lage : Binds K fd_Lage ["_law_tape_here"] [] := D_Lage.bindsN fun _ _ _ _ _ _ us hl => match us, hl with | [_], _ => rfl
  obtain ⟨fd_Lvalue, D_Lvalue⟩ := c.def_ 6 (d := d_Lvalue) rfl
  have G_Lvalue := He.glo_ok X G (c.fact 25 (f := .glo "_law_value") rfl)
  have b_Lvalue : Binds K fd_Lvalue ["_law_tape_here"] [] := D_Lvalue.bindsN fun _ _ _ _ _ _ us hl => match us, hl with | [_], _ => rfl
  obtain ⟨fd_Lsize, D_Lsize⟩ := c.def_ 7 (d := d_Lsize) rfl
  have G_Lsize := He.glo_ok X G (c.fact 26 (f := .glo "_law_size") rfl)
  have b_Lsize : Binds K fd_Lsize ["_law_tape_here"] [] := D_Lsize.bindsN fun _ _ _ _ _ _ us hl => match us, hl with | [_], _ => rfl
  obtain ⟨fd_Lpattern, D_Lpattern⟩ := c.def_ 8 (d := d_Lpattern) rfl
  have G_Lpattern := He.glo_ok X G (c.fact 27 (f := .glo "_law_pattern") rfl)
  have b_Lpattern : Binds K fd_Lpattern ["_law_tape_here", "_law_known"] [] := D_Lpattern.bindsN fun _ _ _ _ _ _ us hl => match us, hl with | [_, _], _ => rfl
  obtain ⟨fd_Ltemplate, D_Ltemplate⟩ := c.def_ 9 (d := d_Ltemplate) rfl
  have G_Ltemplate := He.glo_ok X G (c.fact 28 (f := .glo "_law_template") rfl)
  have b_Ltemplate : Binds K fd_Ltemplate ["_law_tape_here", "_law_known"] [] := D_Ltemplate.bindsN fun _ _ _ _ _ _ us hl => match us, hl with | [_, _], _ => rfl
  obtain ⟨fd_Lterm, D_Lterm⟩ := c.def_ 10 (d := d_Lterm) rfl
  have G_Lterm := He.glo_ok X G (c.fact 29 (f := .glo "_law_term") rfl)
  have b_Lterm : Binds K fd_Lterm ["_law_tape_here", "_law_known"] [] := D_Lterm.bindsN fun _ _ _ _ _ _ us hl => match us, hl with | [_, _], _ => rfl
  obtain ⟨fd_Lact, D_Lact⟩ := c.def_ 11 (d := d_Lact) rfl
  have G_Lact := He.glo_ok X G (c.fact 30 (f := .glo "_law_act") rfl)
  have b_Lact : Binds K fd_Lact ["_law_tape_here", "_law_known", "_law_open_ones"] [] := D_Lact.bindsN fun _ _ _ _ _ _ us hl => match us, hl with | [_, _, _], _ => rfl
  obtain ⟨fd_Lprogram, D_Lprogram⟩ := c.def_ 12 (d := d_Lprogram) rfl
  have G_Lprogram := He.glo_ok X G (c.fact 31 (f := .glo "_law_program") rfl)
  have b_Lprogram : Binds K fd_Lprogram ["_law_tape_here"] [] := D_Lprogram.bindsN fun _ _ _ _ _ _ us hl => match us, hl with | [_], _ => rfl
  obtain ⟨fd_Lnames_in, D_Lnames_in⟩ := c.def_ 13 (d := d_Lnames_in) rfl
  have G_Lnames_in := He.glo_ok X G (c.fact 32 (f := .glo "_law_names_in") rfl)
  have b_Lnames_in : Binds K fd_Lnames_in ["_law_fields", "_law_words"] [] := D_Lnames_in.bindsN fun _ _ _ _ _ _ us hl => match us, hl with | [_, _], _ => rfl
  obtain ⟨fd_Ldue, D_Ldue⟩ := c.def_ 14 (d := d_Ldue) rfl
  have G_Ldue := He.glo_ok X G (c.fact 33 (f := .glo "_law_due") rfl)
  have b_Ldue : Binds K fd_Ldue ["_law_block", "_law_place"] [] := D_Ldue.bindsN fun _ _ _ _ _ _ us hl => match us, hl with | [_, _], _ => rfl
  obtain ⟨fd_Lused_right, D_Lused_right⟩ := c.def_ 15 (d := d_Lused_right) rfl
  have G_Lused_right := He.glo_ok X G (c.fact 34 (f := .glo "_law_used_right") rfl)
  have b_Lused_right : Binds K fd_Lused_right ["_law_program_here", "_law_act_here", "_law_known"] [] := D_Lused_right.bindsN fun _ _ _ _ _ _ us hl => match us, hl with | [_, _, _], _ => rfl
  obtain ⟨fd_law, D_law⟩ := c.def_ 16 (d := d_law) rfl
  have e := hfa.symm.trans (He.glo_ok X G (c.fact 35 (f := .glo "law") rfl))
  cases e
  refine ⟨fd_law, fun s v => (FunD.bindsA (ps := ["_law_script"]) D_law fun _ _ _ _ _ _ us hl => match us, hl with | [_], _ => rfl) s [v] rfl, fun base _ _ => ?_⟩
  have M0 : Md P w K mg base g0 0 := Md.init hc hb
  have M1 : Md P w K mg base g1 1 := (((((M0.up (by decide)).add G_binds D_binds.kp b_binds (def_G M0 D_binds S_binds c_binds) (by decide)).add G_Ltape D_Ltape.kp b_Ltape (def_G M0 D_Ltape S_Ltape c_Ltape) (by decide)).add G_Ldraw D_Ldraw.kp b_Ldraw (def_G M0 D_Ldraw S_Ldraw c_Ldraw) (by decide)).add G_Lnames_in D_Lnames_in.kp b_Lnames_in (def_G M0 D_Lnames_in S_Lnames_in c_Lnames_in) (by decide))
  have M2 : Md P w K mg base g2 2 := (((((((M1.up (by decide)).add G_bound_by D_bound_by.kp b_bound_by (def_G M1 D_bound_by S_bound_by c_bound_by) (by decide)).add G_Lage D_Lage.kp b_Lage (def_G M1 D_Lage S_Lage c_Lage) (by decide)).add G_Lvalue D_Lvalue.kp b_Lvalue (def_G M1 D_Lvalue S_Lvalue c_Lvalue) (by decide)).add G_Lsize D_Lsize.kp b_Lsize (def_G M1 D_Lsize S_Lsize c_Lsize) (by decide)).add G_Ldue D_Ldue.kp b_Ldue (def_G M1 D_Ldue S_Ldue c_Ldue) (by decide)).add G_Lused_right D_Lused_right.kp b_Lused_right (def_G M1 D_Lused_right S_Lused_right c_Lused_right) (by decide))
  have M3 : Md P w K mg base g3 3 := (((((M2.up (by decide)).add G_known_at D_known_at.kp b_known_at (def_G M2 D_known_at S_known_at c_known_at) (by decide)).add G_Lpattern D_Lpattern.kp b_Lpattern (def_G M2 D_Lpattern S_Lpattern c_Lpattern) (by decide)).add G_Ltemplate D_Ltemplate.kp b_Ltemplate (def_G M2 D_Ltemplate S_Ltemplate c_Ltemplate) (by decide)).add G_Lterm D_Lterm.kp b_Lterm (def_G M2 D_Lterm S_Lterm c_Lterm) (by decide))
  have M4 : Md P w K mg base g4 4 := ((M3.up (by decide)).add G_Lact D_Lact.kp b_Lact (def_G M3 D_Lact S_Lact c_Lact) (by decide))
  have M5 : Md P w K mg base g5 5 := ((M4.up (by decide)).add G_Lprogram D_Lprogram.kp b_Lprogram (def_G M4 D_Lprogram S_Lprogram c_Lprogram) (by decide))
  exact def_G M5 D_law S_law c_law
end Hd

namespace Hd
open PySem PySem.Spec L2 Nb
theorem LC : (cs.all fun p => nrD p.2) = true := by decide +kernel
theorem LF0 : LocL fs0 := .nil
theorem LG0 : LocG g0 := loc_gv LF0 LC
theorem L_binds : Loc F_binds := loc_run LG0 _ _
theorem e_binds : N_binds.length = 2 := rfl
theorem L_Ltape : Loc F_Ltape := loc_run LG0 _ _
theorem e_Ltape : N_Ltape.length = 1 := rfl
theorem L_Ldraw : Loc F_Ldraw := loc_run LG0 _ _
theorem e_Ldraw : N_Ldraw.length = 6 := rfl
theorem L_Lnames_in : Loc F_Lnames_in := loc_run LG0 _ _
theorem e_Lnames_in : N_Lnames_in.length = 3 := rfl
theorem LF1 : LocL fs1 := .cons L_Lnames_in (.cons L_Ldraw (.cons L_Ltape (.cons L_binds (LF0))))
theorem LG1 : LocG g1 := loc_gv LF1 LC
theorem L_bound_by : Loc F_bound_by := loc_run LG1 _ _
theorem e_bound_by : N_bound_by.length = 1 := rfl
theorem L_Lage : Loc F_Lage := loc_run LG1 _ _
theorem e_Lage : N_Lage.length = 1 := rfl
theorem L_Lvalue : Loc F_Lvalue := loc_run LG1 _ _
theorem e_Lvalue : N_Lvalue.length = 1 := rfl
theorem L_Lsize : Loc F_Lsize := loc_run LG1 _ _
theorem e_Lsize : N_Lsize.length = 1 := rfl
theorem L_Ldue : Loc F_Ldue := loc_run LG1 _ _
theorem e_Ldue : N_Ldue.length = 5 := rfl
theorem L_Lused_right : Loc F_Lused_right := loc_run LG1 _ _
theorem e_Lused_right : N_Lused_right.length = 7 := rfl
theorem LF2 : LocL fs2 := .cons L_Lused_right (.cons L_Ldue (.cons L_Lsize (.cons L_Lvalue (.cons L_Lage (.cons L_bound_by (LF1))))))
theorem LG2 : LocG g2 := loc_gv LF2 LC
theorem L_known_at : Loc F_known_at := loc_run LG2 _ _
theorem e_known_at : N_known_at.length = 7 := rfl
theorem L_Lpattern : Loc F_Lpattern := loc_run LG2 _ _
theorem e_Lpattern : N_Lpattern.length = 8 := rfl
theorem L_Ltemplate : Loc F_Ltemplate := loc_run LG2 _ _
theorem e_Ltemplate : N_Ltemplate.length = 5 := rfl
theorem L_Lterm : Loc F_Lterm := loc_run LG2 _ _
theorem e_Lterm : N_Lterm.length = 2 := rfl
theorem LF3 : LocL fs3 := .cons L_Lterm (.cons L_Ltemplate (.cons L_Lpattern (.cons L_known_at (LF2))))
theorem LG3 : LocG g3 := loc_gv LF3 LC
theorem L_Lact : Loc F_Lact := loc_run LG3 _ _
theorem e_Lact : N_Lact.length = 7 := rfl
theorem LF4 : LocL fs4 := .cons L_Lact (LF3)
theorem LG4 : LocG g4 := loc_gv LF4 LC
theorem L_Lprogram : Loc F_Lprogram := loc_run LG4 _ _
theorem e_Lprogram : N_Lprogram.length = 12 := rfl
theorem LF5 : LocL fs5 := .cons L_Lprogram (LF4)
theorem LG5 : LocG g5 := loc_gv LF5 LC
theorem L_law : Loc F_law := loc_run LG5 _ _
theorem e_law : N_law.length = 10 := rfl
theorem p_1_binds : g1.phi "binds" = some (1, F_binds) := rfl
theorem p_1_Ldraw : g1.phi "_law_draw" = some (2, F_Ldraw) := rfl
theorem p_1_Lnames_in : g1.phi "_law_names_in" = some (2, F_Lnames_in) := rfl
theorem p_2_bound_by : g2.phi "bound_by" = some (1, F_bound_by) := rfl
theorem p_2_Ldraw : g2.phi "_law_draw" = some (2, F_Ldraw) := rfl
theorem p_2_Lsize : g2.phi "_law_size" = some (1, F_Lsize) := rfl
theorem p_2_Lvalue : g2.phi "_law_value" = some (1, F_Lvalue) := rfl
theorem p_3_Lage : g3.phi "_law_age" = some (1, F_Lage) := rfl
theorem p_3_Ldraw : g3.phi "_law_draw" = some (2, F_Ldraw) := rfl
theorem p_3_Lpattern : g3.phi "_law_pattern" = some (2, F_Lpattern) := rfl
theorem p_3_Ltemplate : g3.phi "_law_template" = some (2, F_Ltemplate) := rfl
theorem p_3_Lterm : g3.phi "_law_term" = some (2, F_Lterm) := rfl
theorem p_4_Lact : g4.phi "_law_act" = some (3, F_Lact) := rfl
theorem p_4_Ldraw : g4.phi "_law_draw" = some (2, F_Ldraw) := rfl
theorem p_5_Ldue : g5.phi "_law_due" = some (2, F_Ldue) := rfl
theorem p_5_Lprogram : g5.phi "_law_program" = some (1, F_Lprogram) := rfl
theorem p_5_Ltape : g5.phi "_law_tape" = some (1, F_Ltape) := rfl
theorem p_5_Lused_right : g5.phi "_law_used_right" = some (3, F_Lused_right) := rfl
theorem p_5_known_at : g5.phi "known_at" = some (3, F_known_at) := rfl
end Hd

namespace LawP
open PySem PySem.Spec L2 Nb Hd
def VV : List D := [.str "a", .int 0, .int 1, .str "ab", .str "go", .int 99]
def NN : List Str := ["n", "nm", "go", "m", "z", "abcd", "k"]
def AGES : List D := [.non, .non, .non, .int 1, .int 2, .int 3, .int 20]
theorem okVV : ∀ d ∈ VV, okD d = true ∧ dpD d = 0 ∧ szD d ≤ 1921 := by
  intro d hd
  simp only [VV, List.mem_cons, List.not_mem_nil, or_false] at hd
  rcases hd with rfl | rfl | rfl | rfl | rfl | rfl <;> decide +kernel
theorem okNN : ∀ x ∈ NN, PyData.strOk x = true ∧ x.length ≤ 4 := by
  intro d hd
  simp only [NN, List.mem_cons, List.not_mem_nil, or_false] at hd
  rcases hd with rfl | rfl | rfl | rfl | rfl | rfl | rfl <;> decide +kernel
theorem okAG : ∀ d ∈ AGES, okD d = true ∧ dpD d = 0 ∧ szD d ≤ 1921 := by
  intro d hd
  simp only [AGES, List.mem_cons, List.not_mem_nil, or_false] at hd
  rcases hd with rfl | rfl | rfl | rfl | rfl | rfl | rfl <;> decide +kernel
/-! ### what is drawn, by kinds -/
inductive Fd where | is (v : D) | any | word | number | bind (x : Str) | as_ (x : Str)
def Fd.d : Fd → D
  | .is v => .tup [.str "is", v]
  | .any => .tup [.str "any"]
  | .word => .tup [.str "word"]
  | .number => .tup [.str "number"]
  | .bind x => .tup [.str "bind", .str x]
  | .as_ x => .tup [.str "as", .str x]
def Fd.ok : Fd → Prop
  | .is v => v ∈ VV
  | .bind x => x ∈ NN
  | .as_ x => x ∈ NN
  | _ => True
def Fd.nm : Fd → Option Str
  | .bind x => some x
  | _ => none
def bnds (fs : List Fd) : List Str := fs.filterMap Fd.nm
/-- each as knows its name: ahead of it, bound or known -/
def asOk (K : List Str) : List Fd → Prop
  | [] => True
  | f :: fs => (∀ x, f = .as_ x → x ∈ K) ∧ asOk (K ++ bnds [f]) fs
theorem bnds_app {fs gs : List Fd} : bnds (fs ++ gs) = bnds fs ++ bnds gs := List.filterMap_append
theorem asOk_snoc : ∀ {fs : List Fd} {K : List Str} {f : Fd}, asOk K fs → (∀ x, f = .as_ x → x ∈ K ++ bnds fs) → asOk K (fs ++ [f])
  | [], K, f, _, h => ⟨fun x e => by have := h x e; simpa [bnds] using this, trivial⟩
  | g :: fs, K, f, ha, h => by
    refine ⟨ha.1, asOk_snoc ha.2 fun x e => ?_⟩
    have := h x e
    rw [List.append_assoc, ← bnds_app]
    exact this
inductive Tf where | is (v : D) | as_ (x : Str) | next (x : Str)
def Tf.d : Tf → D
  | .is v => .tup [.str "is", v]
  | .as_ x => .tup [.str "as", .str x]
  | .next x => .tup [.str "next", .str x]
def Tf.ok (K : List Str) : Tf → Prop
  | .is v => v ∈ VV
  | .as_ x => x ∈ K
  | .next x => x ∈ K
/-- a pattern, a template, right by what is known -/
structure PatOk (K : List Str) (fs : List Fd) : Prop where
  ok : ∀ f ∈ fs, Fd.ok f
  as_ : asOk K fs
  lo : 1 ≤ fs.length
  hi : fs.length ≤ 4
structure TplOk (K : List Str) (ts : List Tf) : Prop where
  ok : ∀ t ∈ ts, Tf.ok K t
  lo : 1 ≤ ts.length
  hi : ts.length ≤ 4
inductive Act where | lay (t : List Tf) (a : D) | same (s t : Tf) (b : Int) | go (b : Int) | look (p : List Fd) (b : Int) | take (p : List Fd) | read (p : List Fd)
def Act.d : Act → D
  | .lay t a => .tup [.str "lay", .tup (t.map Tf.d), a]
  | .same s t b => .tup [.str "same", s.d, t.d, .int b]
  | .go b => .tup [.str "go", .int b]
  | .look p b => .tup [.str "look", .tup (p.map Fd.d), .int b]
  | .take p => .tup [.str "take", .tup (p.map Fd.d)]
  | .read p => .tup [.str "read", .tup (p.map Fd.d)]
def Act.bnd : Act → List Str
  | .look p _ => bnds p
  | .take p => bnds p
  | .read p => bnds p
  | _ => []
def Act.ok (K : List Str) (O : List Int) : Act → Prop
  | .lay t a => TplOk K t ∧ a ∈ AGES
  | .same s t b => Tf.ok K s ∧ Tf.ok K t ∧ b ∈ O
  | .go b => b ∈ O
  | .look p b => PatOk K p ∧ b ∈ O
  | .take p => PatOk K p
  | .read p => PatOk K p
/-! ### draws -/
theorem draw2 {ns : List Int} {tl : List D} {n b : Nat} {m : Mm} (many : Int) (h0 : 0 < many) (h1 : many < 1000000) (h : Tp ns tl n (b + 1) m) : ∃ r m', F_Ldraw [.ref n, .int many] m = some (.val (.int r), m') ∧ 0 ≤ r ∧ r < many ∧ Go ns tl n b m m' :=
  Go.draw (g := g0) h h0 h1
def V8 : List D := [.str "a", .int 0, .str "a", .int 1, .str "ab", .str "go", .int 99, .int 0]
theorem v8 {d : D} (h : d ∈ V8) : d ∈ VV := by
  simp only [V8, List.mem_cons, List.not_mem_nil, or_false] at h
  rcases h with rfl | rfl | rfl | rfl | rfl | rfl | rfl | rfl <;> simp [VV]
theorem Lvalue {ns : List Int} {tl : List D} {n b : Nat} {m : Mm} (h : Tp ns tl n (b + 1) m) : ∃ d m', F_Lvalue [.ref n] m = some (.val d, m') ∧ d ∈ VV ∧ Go ns tl n b m m' := by
  obtain ⟨r, m', e, r0, r1, g⟩ := draw2 8 (by decide) (by decide) h
  obtain ⟨d, hd, hm, _⟩ := atI_lt (l := V8) r0 r1
  have hm := v8 hm
  unfold V8 at hd
  refine ⟨d, m', ?_, hm, g⟩
  unfold F_Lvalue runF s_Lvalue
  simp only [evSs, evS.eq_1, evS.eq_2, evS.eq_3, evS.eq_4, evS.eq_5, evS.eq_6, evS.eq_7, evS.eq_8, evS.eq_9, evS.eq_10, evS.eq_13, evS.eq_14, evS.eq_15, evS.eq_16, evS.eq_17, evS_for, evS_whl, evE.eq_1, evE.eq_2, evE.eq_3, evE.eq_4, evE.eq_5, evE.eq_6, evE.eq_7, evE.eq_8, evE.eq_9, evE.eq_10, evE.eq_11, evE.eq_12, evE.eq_13, evE.eq_14, evE.eq_15, evE.eq_16, evE.eq_17, evE.eq_18, evE.eq_19, evE.eq_20, evE.eq_21, evE.eq_22, evE.eq_23, evE.eq_24, evE.eq_26, evE.eq_27, evE.eq_28, evE.eq_29, evE_comp, evA, evAnd, evOr, evP, evI, tst, bindT.eq_1, bindT.eq_2, bindTs.eq_1, bindTs.eq_2, stow_val, stow_tmp, truO, bltO, bop_int, bopI, cmp_int, Nb.ix_tup, ix_frz, ix_tmp, len_tup, len_frz, len_tmp, atI_0, atI_1, atI_2, atI_3, ixN_0, ixN_1, ixN_2, Option.bind_some, Option.map_some, Option.bind_none, Option.map_none, List.getElem?_cons_zero, List.getElem?_cons_succ, List.set_cons_zero, List.set_cons_succ, List.length_cons, List.length_nil, List.length_map, if_true, if_false, decide_true, decide_false, Bool.not_true, Bool.not_false, Bool.false_eq_true, reduceIte, List.map_cons, List.map_nil, List.cons_append, List.nil_append, List.replicate, Nat.sub_self, Nat.reduceSub, Nat.reduceAdd, Int.reduceAdd, Int.reducePow, Int.reduceToNat, Int.reduceLE, Int.reduceLT, Nat.reduceLT, Nat.reduceLeDiff, Nat.reducePow, Int.reduceSub, Int.reduceMul, Int.reduceEq, Nat.reduceEqDiff, and_self, true_and, and_true, or_true, true_or, Int.reduceNeg, eq_self, cmp_str, tyO, tyD, isi_ii, isi_is, isi_bi, isi_bs, isi_ib, isi_bb, dec_self, szE, bnd_int, seq_tup, seq_frz, seq_tmp, add_tup, e_Lvalue, p_1_Ldraw, e, hd]
theorem Lsize {ns : List Int} {tl : List D} {n b : Nat} {m : Mm} (h : Tp ns tl n (b + 1) m) : ∃ c m', F_Lsize [.ref n] m = some (.val (.int c), m') ∧ 1 ≤ c ∧ c ≤ 4 ∧ Go ns tl n b m m' := by
  obtain ⟨r, m', e, r0, r1, g⟩ := draw2 7 (by decide) (by decide) h
  obtain ⟨c, hc, c0, c1⟩ := cnt (l := [D.int 1, .int 2, .int 2, .int 2, .int 1, .int 3, .int 4]) (lo := 1) (hi := 4) (by
    intro d hd
    simp only [List.mem_cons, List.not_mem_nil, or_false] at hd
    rcases hd with rfl | rfl | rfl | rfl | rfl | rfl | rfl <;> exact ⟨_, rfl, by decide, by decide⟩) r0 r1
  refine ⟨c, m', ?_, c0, c1, g⟩
  unfold F_Lsize runF s_Lsize
  simp only [evSs, evS.eq_1, evS.eq_2, evS.eq_3, evS.eq_4, evS.eq_5, evS.eq_6, evS.eq_7, evS.eq_8, evS.eq_9, evS.eq_10, evS.eq_13, evS.eq_14, evS.eq_15, evS.eq_16, evS.eq_17, evS_for, evS_whl, evE.eq_1, evE.eq_2, evE.eq_3, evE.eq_4, evE.eq_5, evE.eq_6, evE.eq_7, evE.eq_8, evE.eq_9, evE.eq_10, evE.eq_11, evE.eq_12, evE.eq_13, evE.eq_14, evE.eq_15, evE.eq_16, evE.eq_17, evE.eq_18, evE.eq_19, evE.eq_20, evE.eq_21, evE.eq_22, evE.eq_23, evE.eq_24, evE.eq_26, evE.eq_27, evE.eq_28, evE.eq_29, evE_comp, evA, evAnd, evOr, evP, evI, tst, bindT.eq_1, bindT.eq_2, bindTs.eq_1, bindTs.eq_2, stow_val, stow_tmp, truO, bltO, bop_int, bopI, cmp_int, Nb.ix_tup, ix_frz, ix_tmp, len_tup, len_frz, len_tmp, atI_0, atI_1, atI_2, atI_3, ixN_0, ixN_1, ixN_2, Option.bind_some, Option.map_some, Option.bind_none, Option.map_none, List.getElem?_cons_zero, List.getElem?_cons_succ, List.set_cons_zero, List.set_cons_succ, List.length_cons, List.length_nil, List.length_map, if_true, if_false, decide_true, decide_false, Bool.not_true, Bool.not_false, Bool.false_eq_true, reduceIte, List.map_cons, List.map_nil, List.cons_append, List.nil_append, List.replicate, Nat.sub_self, Nat.reduceSub, Nat.reduceAdd, Int.reduceAdd, Int.reducePow, Int.reduceToNat, Int.reduceLE, Int.reduceLT, Nat.reduceLT, Nat.reduceLeDiff, Nat.reducePow, Int.reduceSub, Int.reduceMul, Int.reduceEq, Nat.reduceEqDiff, and_self, true_and, and_true, or_true, true_or, Int.reduceNeg, eq_self, cmp_str, tyO, tyD, isi_ii, isi_is, isi_bi, isi_bs, isi_ib, isi_bb, dec_self, szE, bnd_int, seq_tup, seq_frz, seq_tmp, add_tup, e_Lsize, p_1_Ldraw, e, hc]
/-! patterns -/
def bP1 : List S := [.app (.var 2) (.tup [.str "is", .call "_law_value" [.var 0]])]
def bP2 : List S := [.app (.var 2) (.ix (.lst [.tup [.str "any"], .tup [.str "word"], .tup [.str "number"]]) (.bop .sub (.var 5) (.int 3)))]
def bP3 : List S := [
          .asg (.n 7) (.ix (.lst [.str "n", .str "nm", .str "go", .str "m", .str "z", .str "abcd", .str "k"]) (.call "_law_draw" [.var 0, .int 7])), 
          .app (.var 3) (.var 7), 
          .app (.var 2) (.tup [.str "bind", .var 7])]
def bP4 : List S := [.app (.var 2) (.tup [.str "as", .ix (.var 6) (.call "_law_draw" [.var 0, .blt .len (.var 6)])])]
def bPat : List S := [
    .asg (.n 5) (.call "_law_draw" [.var 0, .int 9]), 
    .asg (.n 6) (.bop .add (.var 1) (.var 3)), 
    .ife (.cmp .lt (.var 5) (.int 3)) bP1 [.ife (.cmp .lt (.var 5) (.int 6)) bP2 [.ife (.or [.cmp .lt (.var 5) (.int 8), .cmp .eq (.var 6) (.lst [])]) bP3 bP4]]]
theorem bnds_len {fs : List Fd} : (bnds fs).length ≤ fs.length := List.length_filterMap_le _ _
theorem bnds_nn {fs : List Fd} (h : ∀ f ∈ fs, Fd.ok f) : ∀ x ∈ bnds fs, x ∈ NN := fun x hx => by
  obtain ⟨f, hf, e⟩ := List.mem_filterMap.mp hx
  have := h f hf
  cases f with
  | bind y =>
    cases e
    exact this
  | _ => cases e
theorem patStep {ns : List Int} {tl : List D} {n b kq L B : Nat} {m0 m : Mm} {d : D} {x4 x5 x6 x7 : Option D} {K : List Str} {fs : List Fd} (hL : m0.length ≤ L) (hB : m0.length ≤ B) (hLB : L ≠ B) (G : Go ns tl n (b + 2) m0 m) (O : Off n L m) (OB : Off n B m) (e : m[L]? = some (.lst (fs.map Fd.d))) (eB : m[B]? = some (.lst ((bnds fs).map .str))) (eK : m[kq]? = some (.lst (K.map .str))) (hK : ∀ x ∈ K, x ∈ NN) (hf : ∀ f ∈ fs, Fd.ok f) (hl : fs.length < 1000) (hlK : K.length < 1000) :
    ∃ y4 y5 y6 y7 f m', forB g2 (.n 4) bPat d [some (.ref n), some (.ref kq), some (.ref L), some (.ref B), x4, x5, x6, x7] m = some (.nx, [some (.ref n), some (.ref kq), some (.ref L), some (.ref B), y4, y5, y6, y7], m') ∧ m'[L]? = some (.lst ((fs ++ [f]).map Fd.d)) ∧ m'[B]? = some (.lst ((bnds (fs ++ [f])).map .str)) ∧ Fd.ok f ∧ (∀ x, f = .as_ x → x ∈ K ++ bnds fs) ∧ Go ns tl n b m0 m' ∧ Off n L m' ∧ Off n B m' := by
  obtain ⟨r, m1, e1, r0, r1, G1⟩ := draw2 9 (by decide) (by decide) G.tp
  have f1 := G1.ex.get e O.1
  have fB1 := G1.ex.get eB OB.1
  have O1 := G1.off _ O
  have OB1 := G1.off _ OB
  have hkn : kq ≠ n ∨ kq = n := by omega
  have bl := bnds_len (fs := fs)
  -- the names that are known here
  have add : ∀ (mm : Mm), mm[kq]? = some (.lst (K.map .str)) → mm[B]? = some (.lst ((bnds fs).map .str)) → bopO mm .add (.val (.ref kq)) (.val (.ref B)) = some (.tmp ((K ++ bnds fs).map .str)) := fun mm h1 h2 => by
    rw [add_refs h1 h2 (by rw [List.length_map, List.length_map]; omega), List.map_append]
  have fK1 : m1[kq]? = some (.lst (K.map .str)) := by
    rcases hkn with hk | hk
    · exact G1.ex.get eK hk
    · obtain ⟨k, sp, rs, _, q, _⟩ := G.tp
      rw [hk, q] at eK
      cases K with
      | nil => cases eK
      | cons a K => cases eK
  have hadd := add m1 fK1 fB1
  have G2 := Go.app G1.tp (a := [.lst ((K ++ bnds fs).map .str)])
  have f2 : (m1 ++ [MO.lst ((K ++ bnds fs).map .str)])[L]? = some (.lst (fs.map Fd.d)) := get_old f1
  have fB2 : (m1 ++ [MO.lst ((K ++ bnds fs).map .str)])[B]? = some (.lst ((bnds fs).map .str)) := get_old fB1
  have fQ : (m1 ++ [MO.lst ((K ++ bnds fs).map .str)])[m1.length]? = some (.lst ((K ++ bnds fs).map .str)) := get_new
  have O2 := G2.off _ O1
  have OB2 := G2.off _ OB1
  have hqn : m1.length ≠ n := by
    have := G1.tp.lt
    omega
  have e6 : evS g2 (.asg (.n 6) (.bop .add (.var 1) (.var 3))) [some (.ref n), some (.ref kq), some (.ref L), some (.ref B), some d, some (.int r), x6, x7] m1 = some (.nx, [some (.ref n), some (.ref kq), some (.ref L), some (.ref B), some d, some (.int r), some (.ref m1.length), x7], m1 ++ [.lst ((K ++ bnds fs).map .str)]) := by
    simp only [evSs, evS.eq_1, evS.eq_2, evS.eq_3, evS.eq_4, evS.eq_5, evS.eq_6, evS.eq_7, evS.eq_8, evS.eq_9, evS.eq_10, evS.eq_13, evS.eq_14, evS.eq_15, evS.eq_16, evS.eq_17, evS_for, evS_whl, evE.eq_1, evE.eq_2, evE.eq_3, evE.eq_4, evE.eq_5, evE.eq_6, evE.eq_7, evE.eq_8, evE.eq_9, evE.eq_10, evE.eq_11, evE.eq_12, evE.eq_13, evE.eq_14, evE.eq_15, evE.eq_16, evE.eq_17, evE.eq_18, evE.eq_19, evE.eq_20, evE.eq_21, evE.eq_22, evE.eq_23, evE.eq_24, evE.eq_26, evE.eq_27, evE.eq_28, evE.eq_29, evE_comp, evA, evAnd, evOr, evP, evI, tst, bindT.eq_1, bindT.eq_2, bindTs.eq_1, bindTs.eq_2, stow_val, stow_tmp, truO, bltO, bop_int, bopI, cmp_int, Nb.ix_tup, ix_frz, ix_tmp, len_tup, len_frz, len_tmp, atI_0, atI_1, atI_2, atI_3, ixN_0, ixN_1, ixN_2, Option.bind_some, Option.map_some, Option.bind_none, Option.map_none, List.getElem?_cons_zero, List.getElem?_cons_succ, List.set_cons_zero, List.set_cons_succ, List.length_cons, List.length_nil, List.length_map, if_true, if_false, decide_true, decide_false, Bool.not_true, Bool.not_false, Bool.false_eq_true, reduceIte, List.map_cons, List.map_nil, List.cons_append, List.nil_append, List.replicate, Nat.sub_self, Nat.reduceSub, Nat.reduceAdd, Int.reduceAdd, Int.reducePow, Int.reduceToNat, Int.reduceLE, Int.reduceLT, Nat.reduceLT, Nat.reduceLeDiff, Nat.reducePow, Int.reduceSub, Int.reduceMul, Int.reduceEq, Nat.reduceEqDiff, and_self, true_and, and_true, or_true, true_or, Int.reduceNeg, eq_self, cmp_str, tyO, tyD, isi_ii, isi_is, isi_bi, isi_bs, isi_ib, isi_bb, dec_self, szE, bnd_int, seq_tup, seq_frz, seq_tmp, add_tup, hadd]
  have e5 : evS g2 (.asg (.n 5) (.call "_law_draw" [.var 0, .int 9])) [some (.ref n), some (.ref kq), some (.ref L), some (.ref B), some d, x5, x6, x7] m = some (.nx, [some (.ref n), some (.ref kq), some (.ref L), some (.ref B), some d, some (.int r), x6, x7], m1) := by
    simp only [evSs, evS.eq_1, evS.eq_2, evS.eq_3, evS.eq_4, evS.eq_5, evS.eq_6, evS.eq_7, evS.eq_8, evS.eq_9, evS.eq_10, evS.eq_13, evS.eq_14, evS.eq_15, evS.eq_16, evS.eq_17, evS_for, evS_whl, evE.eq_1, evE.eq_2, evE.eq_3, evE.eq_4, evE.eq_5, evE.eq_6, evE.eq_7, evE.eq_8, evE.eq_9, evE.eq_10, evE.eq_11, evE.eq_12, evE.eq_13, evE.eq_14, evE.eq_15, evE.eq_16, evE.eq_17, evE.eq_18, evE.eq_19, evE.eq_20, evE.eq_21, evE.eq_22, evE.eq_23, evE.eq_24, evE.eq_26, evE.eq_27, evE.eq_28, evE.eq_29, evE_comp, evA, evAnd, evOr, evP, evI, tst, bindT.eq_1, bindT.eq_2, bindTs.eq_1, bindTs.eq_2, stow_val, stow_tmp, truO, bltO, bop_int, bopI, cmp_int, Nb.ix_tup, ix_frz, ix_tmp, len_tup, len_frz, len_tmp, atI_0, atI_1, atI_2, atI_3, ixN_0, ixN_1, ixN_2, Option.bind_some, Option.map_some, Option.bind_none, Option.map_none, List.getElem?_cons_zero, List.getElem?_cons_succ, List.set_cons_zero, List.set_cons_succ, List.length_cons, List.length_nil, List.length_map, if_true, if_false, decide_true, decide_false, Bool.not_true, Bool.not_false, Bool.false_eq_true, reduceIte, List.map_cons, List.map_nil, List.cons_append, List.nil_append, List.replicate, Nat.sub_self, Nat.reduceSub, Nat.reduceAdd, Int.reduceAdd, Int.reducePow, Int.reduceToNat, Int.reduceLE, Int.reduceLT, Nat.reduceLT, Nat.reduceLeDiff, Nat.reducePow, Int.reduceSub, Int.reduceMul, Int.reduceEq, Nat.reduceEqDiff, and_self, true_and, and_true, or_true, true_or, Int.reduceNeg, eq_self, cmp_str, tyO, tyD, isi_ii, isi_is, isi_bi, isi_bs, isi_ib, isi_bb, dec_self, szE, bnd_int, seq_tup, seq_frz, seq_tmp, add_tup, p_2_Ldraw, e1]
  have G12 := G1.trans G2
  have G02 := G.trans G12
  generalize m1.length = q at *
  generalize m1 ++ [MO.lst ((K ++ bnds fs).map .str)] = M at *
  have go : ∀ (fr' : Fr) (m' : Mm), evSs g2 [.ife (.cmp .lt (.var 5) (.int 3)) bP1 [.ife (.cmp .lt (.var 5) (.int 6)) bP2 [.ife (.or [.cmp .lt (.var 5) (.int 8), .cmp .eq (.var 6) (.lst [])]) bP3 bP4]]] [some (.ref n), some (.ref kq), some (.ref L), some (.ref B), some d, some (.int r), some (.ref q), x7] M = some (.nx, fr', m') →
      forB g2 (.n 4) bPat d [some (.ref n), some (.ref kq), some (.ref L), some (.ref B), x4, x5, x6, x7] m = some (.nx, fr', m') := by
    intro fr' m' h
    unfold forB bPat
    show (some [some (D.ref n), some (.ref kq), some (.ref L), some (.ref B), some d, x5, x6, x7]).bind _ = _
    rw [Option.bind_some, evSs.eq_2, e5, Option.bind_some, evSs.eq_2, e6, Option.bind_some]
    exact h
  have hl2 : fs.length < 16777216 := by omega
  have hl3 : (bnds fs).length < 16777216 := by omega
  have plain : ∀ f : Fd, Fd.nm f = none → bnds (fs ++ [f]) = bnds fs := fun f h => by
    rw [bnds_app]
    simp [bnds, h]
  by_cases h3 : r < 3
  · obtain ⟨v, m3, e3, hv, G3⟩ := Lvalue G2.tp
    have f3 := G3.ex.get f2 O.1
    have O3 := G3.off _ O2
    obtain ⟨q1, q2, q3⟩ := (G02.trans G3).app1 O3 hL f3 (v := Fd.d (.is v))
    refine ⟨some d, some (.int r), some (.ref q), x7, .is v, _, go _ _ ?_, by rw [List.map_append]; exact q1, ?_, hv, (fun x z => nomatch z), q2.less (by omega), q3, (G3.off _ OB2).get (List.getElem?_set_ne O.1)⟩
    · unfold bP1
      rw [show bP2 = id bP2 from rfl, show bP3 = id bP3 from rfl]
      simp only [evSs, evS.eq_1, evS.eq_2, evS.eq_3, evS.eq_4, evS.eq_5, evS.eq_6, evS.eq_7, evS.eq_8, evS.eq_9, evS.eq_10, evS.eq_13, evS.eq_14, evS.eq_15, evS.eq_16, evS.eq_17, evS_for, evS_whl, evE.eq_1, evE.eq_2, evE.eq_3, evE.eq_4, evE.eq_5, evE.eq_6, evE.eq_7, evE.eq_8, evE.eq_9, evE.eq_10, evE.eq_11, evE.eq_12, evE.eq_13, evE.eq_14, evE.eq_15, evE.eq_16, evE.eq_17, evE.eq_18, evE.eq_19, evE.eq_20, evE.eq_21, evE.eq_22, evE.eq_23, evE.eq_24, evE.eq_26, evE.eq_27, evE.eq_28, evE.eq_29, evE_comp, evA, evAnd, evOr, evP, evI, tst, bindT.eq_1, bindT.eq_2, bindTs.eq_1, bindTs.eq_2, stow_val, stow_tmp, truO, bltO, bop_int, bopI, cmp_int, Nb.ix_tup, ix_frz, ix_tmp, len_tup, len_frz, len_tmp, atI_0, atI_1, atI_2, atI_3, ixN_0, ixN_1, ixN_2, Option.bind_some, Option.map_some, Option.bind_none, Option.map_none, List.getElem?_cons_zero, List.getElem?_cons_succ, List.set_cons_zero, List.set_cons_succ, List.length_cons, List.length_nil, List.length_map, if_true, if_false, decide_true, decide_false, Bool.not_true, Bool.not_false, Bool.false_eq_true, reduceIte, List.map_cons, List.map_nil, List.cons_append, List.nil_append, List.replicate, Nat.sub_self, Nat.reduceSub, Nat.reduceAdd, Int.reduceAdd, Int.reducePow, Int.reduceToNat, Int.reduceLE, Int.reduceLT, Nat.reduceLT, Nat.reduceLeDiff, Nat.reducePow, Int.reduceSub, Int.reduceMul, Int.reduceEq, Nat.reduceEqDiff, and_self, true_and, and_true, or_true, true_or, Int.reduceNeg, eq_self, cmp_str, tyO, tyD, isi_ii, isi_is, isi_bi, isi_bs, isi_ib, isi_bb, dec_self, szE, bnd_int, seq_tup, seq_frz, seq_tmp, add_tup, p_2_Lvalue, h3, e3, lst_ref f2, upd_lst f3, hl2, Fd.d]
    · rw [plain _ rfl, List.getElem?_set_ne hLB]
      exact G3.ex.get fB2 OB.1
  · by_cases h6 : r < 6
    · obtain ⟨f, hfd, hfo, hfn⟩ : ∃ f, atI [D.tup [.str "any"], .tup [.str "word"], .tup [.str "number"]] (r - 3) = some (Fd.d f) ∧ Fd.ok f ∧ (Fd.nm f = none ∧ ∀ x, f ≠ .as_ x) := by
        have : r = 3 ∨ r = 4 ∨ r = 5 := by omega
        rcases this with rfl | rfl | rfl
        · exact ⟨.any, rfl, trivial, rfl, fun x z => nomatch z⟩
        · exact ⟨.word, rfl, trivial, rfl, fun x z => nomatch z⟩
        · exact ⟨.number, rfl, trivial, rfl, fun x z => nomatch z⟩
      obtain ⟨q1, q2, q3⟩ := G02.app1 O2 hL f2 (v := Fd.d f)
      refine ⟨some d, some (.int r), some (.ref q), x7, f, _, go _ _ ?_, by rw [List.map_append]; exact q1, ?_, hfo, (fun x z => absurd z (hfn.2 x)), q2.less (by omega), q3, OB2.get (List.getElem?_set_ne O.1)⟩
      · unfold bP2
        rw [show bP1 = id bP1 from rfl, show bP3 = id bP3 from rfl]
        simp only [evSs, evS.eq_1, evS.eq_2, evS.eq_3, evS.eq_4, evS.eq_5, evS.eq_6, evS.eq_7, evS.eq_8, evS.eq_9, evS.eq_10, evS.eq_13, evS.eq_14, evS.eq_15, evS.eq_16, evS.eq_17, evS_for, evS_whl, evE.eq_1, evE.eq_2, evE.eq_3, evE.eq_4, evE.eq_5, evE.eq_6, evE.eq_7, evE.eq_8, evE.eq_9, evE.eq_10, evE.eq_11, evE.eq_12, evE.eq_13, evE.eq_14, evE.eq_15, evE.eq_16, evE.eq_17, evE.eq_18, evE.eq_19, evE.eq_20, evE.eq_21, evE.eq_22, evE.eq_23, evE.eq_24, evE.eq_26, evE.eq_27, evE.eq_28, evE.eq_29, evE_comp, evA, evAnd, evOr, evP, evI, tst, bindT.eq_1, bindT.eq_2, bindTs.eq_1, bindTs.eq_2, stow_val, stow_tmp, truO, bltO, bop_int, bopI, cmp_int, Nb.ix_tup, ix_frz, ix_tmp, len_tup, len_frz, len_tmp, atI_0, atI_1, atI_2, atI_3, ixN_0, ixN_1, ixN_2, Option.bind_some, Option.map_some, Option.bind_none, Option.map_none, List.getElem?_cons_zero, List.getElem?_cons_succ, List.set_cons_zero, List.set_cons_succ, List.length_cons, List.length_nil, List.length_map, if_true, if_false, decide_true, decide_false, Bool.not_true, Bool.not_false, Bool.false_eq_true, reduceIte, List.map_cons, List.map_nil, List.cons_append, List.nil_append, List.replicate, Nat.sub_self, Nat.reduceSub, Nat.reduceAdd, Int.reduceAdd, Int.reducePow, Int.reduceToNat, Int.reduceLE, Int.reduceLT, Nat.reduceLT, Nat.reduceLeDiff, Nat.reducePow, Int.reduceSub, Int.reduceMul, Int.reduceEq, Nat.reduceEqDiff, and_self, true_and, and_true, or_true, true_or, Int.reduceNeg, eq_self, cmp_str, tyO, tyD, isi_ii, isi_is, isi_bi, isi_bs, isi_ib, isi_bb, dec_self, szE, bnd_int, seq_tup, seq_frz, seq_tmp, add_tup, h3, h6, hfd, lst_ref f2, upd_lst f2, hl2]
      · rw [plain _ hfn.1, List.getElem?_set_ne hLB]
        exact fB2
    · have hNN : ∀ x ∈ K ++ bnds fs, x ∈ NN := fun x hx => by
        rcases List.mem_append.mp hx with hx | hx
        · exact hK x hx
        · exact bnds_nn hf x hx
      have heq := strs_nil fQ fun x hx => (okNN x (hNN x hx)).1
      by_cases h8 : r < 8 ∨ (K ++ bnds fs) = []
      · obtain ⟨s, m3, e3, s0, s1, G3⟩ := draw2 7 (by decide) (by decide) G2.tp
        obtain ⟨w, hw, hm, _⟩ := atI_lt (l := NN.map D.str) s0 s1
        obtain ⟨x, hx, rfl⟩ := List.mem_map.mp hm
        have hw : atI [D.str "n", .str "nm", .str "go", .str "m", .str "z", .str "abcd", .str "k"] s = some (.str x) := hw
        have f3 := G3.ex.get f2 O.1
        have fB3 := G3.ex.get fB2 OB.1
        have O3 := G3.off _ O2
        have OB3 := G3.off _ OB2
        obtain ⟨p1, p2, p3⟩ := (G02.trans G3).app1 OB3 hB fB3 (v := .str x)
        have f4 : (m3.set B (.lst ((bnds fs).map .str ++ [.str x])))[L]? = some (.lst (fs.map Fd.d)) := by
          rw [List.getElem?_set_ne (Ne.symm hLB)]
          exact f3
        have O4 : Off n L (m3.set B (.lst ((bnds fs).map .str ++ [.str x]))) := O3.get (List.getElem?_set_ne OB.1)
        obtain ⟨q1, q2, q3⟩ := p2.app1 O4 hL f4 (v := Fd.d (.bind x))
        refine ⟨some d, some (.int r), some (.ref q), some (.str x), .bind x, _, go _ _ ?_, by rw [List.map_append]; exact q1, ?_, hx, (fun x z => nomatch z), q2.less (by omega), q3, p3.get (List.getElem?_set_ne O.1)⟩
        · have hor : evE g2 (.or [.cmp .lt (.var 5) (.int 8), .cmp .eq (.var 6) (.lst [])]) [some (.ref n), some (.ref kq), some (.ref L), some (.ref B), some d, some (.int r), some (.ref q), x7] M = some (.val (.bl true), M) := by
            rcases h8 with h8 | h8
            · simp only [evSs, evS.eq_1, evS.eq_2, evS.eq_3, evS.eq_4, evS.eq_5, evS.eq_6, evS.eq_7, evS.eq_8, evS.eq_9, evS.eq_10, evS.eq_13, evS.eq_14, evS.eq_15, evS.eq_16, evS.eq_17, evS_for, evS_whl, evE.eq_1, evE.eq_2, evE.eq_3, evE.eq_4, evE.eq_5, evE.eq_6, evE.eq_7, evE.eq_8, evE.eq_9, evE.eq_10, evE.eq_11, evE.eq_12, evE.eq_13, evE.eq_14, evE.eq_15, evE.eq_16, evE.eq_17, evE.eq_18, evE.eq_19, evE.eq_20, evE.eq_21, evE.eq_22, evE.eq_23, evE.eq_24, evE.eq_26, evE.eq_27, evE.eq_28, evE.eq_29, evE_comp, evA, evAnd, evOr, evP, evI, tst, bindT.eq_1, bindT.eq_2, bindTs.eq_1, bindTs.eq_2, stow_val, stow_tmp, truO, bltO, bop_int, bopI, cmp_int, Nb.ix_tup, ix_frz, ix_tmp, len_tup, len_frz, len_tmp, atI_0, atI_1, atI_2, atI_3, ixN_0, ixN_1, ixN_2, Option.bind_some, Option.map_some, Option.bind_none, Option.map_none, List.getElem?_cons_zero, List.getElem?_cons_succ, List.set_cons_zero, List.set_cons_succ, List.length_cons, List.length_nil, List.length_map, if_true, if_false, decide_true, decide_false, Bool.not_true, Bool.not_false, Bool.false_eq_true, reduceIte, List.map_cons, List.map_nil, List.cons_append, List.nil_append, List.replicate, Nat.sub_self, Nat.reduceSub, Nat.reduceAdd, Int.reduceAdd, Int.reducePow, Int.reduceToNat, Int.reduceLE, Int.reduceLT, Nat.reduceLT, Nat.reduceLeDiff, Nat.reducePow, Int.reduceSub, Int.reduceMul, Int.reduceEq, Nat.reduceEqDiff, and_self, true_and, and_true, or_true, true_or, Int.reduceNeg, eq_self, cmp_str, tyO, tyD, isi_ii, isi_is, isi_bi, isi_bs, isi_ib, isi_bb, dec_self, szE, bnd_int, seq_tup, seq_frz, seq_tmp, add_tup, h8]
            · rw [h8] at heq
              by_cases h9 : r < 8
              · simp only [evSs, evS.eq_1, evS.eq_2, evS.eq_3, evS.eq_4, evS.eq_5, evS.eq_6, evS.eq_7, evS.eq_8, evS.eq_9, evS.eq_10, evS.eq_13, evS.eq_14, evS.eq_15, evS.eq_16, evS.eq_17, evS_for, evS_whl, evE.eq_1, evE.eq_2, evE.eq_3, evE.eq_4, evE.eq_5, evE.eq_6, evE.eq_7, evE.eq_8, evE.eq_9, evE.eq_10, evE.eq_11, evE.eq_12, evE.eq_13, evE.eq_14, evE.eq_15, evE.eq_16, evE.eq_17, evE.eq_18, evE.eq_19, evE.eq_20, evE.eq_21, evE.eq_22, evE.eq_23, evE.eq_24, evE.eq_26, evE.eq_27, evE.eq_28, evE.eq_29, evE_comp, evA, evAnd, evOr, evP, evI, tst, bindT.eq_1, bindT.eq_2, bindTs.eq_1, bindTs.eq_2, stow_val, stow_tmp, truO, bltO, bop_int, bopI, cmp_int, Nb.ix_tup, ix_frz, ix_tmp, len_tup, len_frz, len_tmp, atI_0, atI_1, atI_2, atI_3, ixN_0, ixN_1, ixN_2, Option.bind_some, Option.map_some, Option.bind_none, Option.map_none, List.getElem?_cons_zero, List.getElem?_cons_succ, List.set_cons_zero, List.set_cons_succ, List.length_cons, List.length_nil, List.length_map, if_true, if_false, decide_true, decide_false, Bool.not_true, Bool.not_false, Bool.false_eq_true, reduceIte, List.map_cons, List.map_nil, List.cons_append, List.nil_append, List.replicate, Nat.sub_self, Nat.reduceSub, Nat.reduceAdd, Int.reduceAdd, Int.reducePow, Int.reduceToNat, Int.reduceLE, Int.reduceLT, Nat.reduceLT, Nat.reduceLeDiff, Nat.reducePow, Int.reduceSub, Int.reduceMul, Int.reduceEq, Nat.reduceEqDiff, and_self, true_and, and_true, or_true, true_or, Int.reduceNeg, eq_self, cmp_str, tyO, tyD, isi_ii, isi_is, isi_bi, isi_bs, isi_ib, isi_bb, dec_self, szE, bnd_int, seq_tup, seq_frz, seq_tmp, add_tup, h9]
              · simp only [evSs, evS.eq_1, evS.eq_2, evS.eq_3, evS.eq_4, evS.eq_5, evS.eq_6, evS.eq_7, evS.eq_8, evS.eq_9, evS.eq_10, evS.eq_13, evS.eq_14, evS.eq_15, evS.eq_16, evS.eq_17, evS_for, evS_whl, evE.eq_1, evE.eq_2, evE.eq_3, evE.eq_4, evE.eq_5, evE.eq_6, evE.eq_7, evE.eq_8, evE.eq_9, evE.eq_10, evE.eq_11, evE.eq_12, evE.eq_13, evE.eq_14, evE.eq_15, evE.eq_16, evE.eq_17, evE.eq_18, evE.eq_19, evE.eq_20, evE.eq_21, evE.eq_22, evE.eq_23, evE.eq_24, evE.eq_26, evE.eq_27, evE.eq_28, evE.eq_29, evE_comp, evA, evAnd, evOr, evP, evI, tst, bindT.eq_1, bindT.eq_2, bindTs.eq_1, bindTs.eq_2, stow_val, stow_tmp, truO, bltO, bop_int, bopI, cmp_int, Nb.ix_tup, ix_frz, ix_tmp, len_tup, len_frz, len_tmp, atI_0, atI_1, atI_2, atI_3, ixN_0, ixN_1, ixN_2, Option.bind_some, Option.map_some, Option.bind_none, Option.map_none, List.getElem?_cons_zero, List.getElem?_cons_succ, List.set_cons_zero, List.set_cons_succ, List.length_cons, List.length_nil, List.length_map, if_true, if_false, decide_true, decide_false, Bool.not_true, Bool.not_false, Bool.false_eq_true, reduceIte, List.map_cons, List.map_nil, List.cons_append, List.nil_append, List.replicate, Nat.sub_self, Nat.reduceSub, Nat.reduceAdd, Int.reduceAdd, Int.reducePow, Int.reduceToNat, Int.reduceLE, Int.reduceLT, Nat.reduceLT, Nat.reduceLeDiff, Nat.reducePow, Int.reduceSub, Int.reduceMul, Int.reduceEq, Nat.reduceEqDiff, and_self, true_and, and_true, or_true, true_or, Int.reduceNeg, eq_self, cmp_str, tyO, tyD, isi_ii, isi_is, isi_bi, isi_bs, isi_ib, isi_bb, dec_self, szE, bnd_int, seq_tup, seq_frz, seq_tmp, add_tup, h9, heq, List.isEmpty_nil]
          unfold bP3
          rw [show bP1 = id bP1 from rfl, show bP2 = id bP2 from rfl, show bP4 = id bP4 from rfl, show (E.or [.cmp .lt (.var 5) (.int 8), .cmp .eq (.var 6) (.lst [])]) = id (E.or [.cmp .lt (.var 5) (.int 8), .cmp .eq (.var 6) (.lst [])]) from rfl]
          have hor : evE g2 (id (E.or [.cmp .lt (.var 5) (.int 8), .cmp .eq (.var 6) (.lst [])])) _ _ = _ := hor
          simp only [evSs, evS.eq_1, evS.eq_2, evS.eq_3, evS.eq_4, evS.eq_5, evS.eq_6, evS.eq_7, evS.eq_8, evS.eq_9, evS.eq_10, evS.eq_13, evS.eq_14, evS.eq_15, evS.eq_16, evS.eq_17, evS_for, evS_whl, evE.eq_1, evE.eq_2, evE.eq_3, evE.eq_4, evE.eq_5, evE.eq_6, evE.eq_7, evE.eq_8, evE.eq_9, evE.eq_10, evE.eq_11, evE.eq_12, evE.eq_13, evE.eq_14, evE.eq_15, evE.eq_16, evE.eq_17, evE.eq_18, evE.eq_19, evE.eq_20, evE.eq_21, evE.eq_22, evE.eq_23, evE.eq_24, evE.eq_26, evE.eq_27, evE.eq_28, evE.eq_29, evE_comp, evA, evAnd, evOr, evP, evI, tst, bindT.eq_1, bindT.eq_2, bindTs.eq_1, bindTs.eq_2, stow_val, stow_tmp, truO, bltO, bop_int, bopI, cmp_int, Nb.ix_tup, ix_frz, ix_tmp, len_tup, len_frz, len_tmp, atI_0, atI_1, atI_2, atI_3, ixN_0, ixN_1, ixN_2, Option.bind_some, Option.map_some, Option.bind_none, Option.map_none, List.getElem?_cons_zero, List.getElem?_cons_succ, List.set_cons_zero, List.set_cons_succ, List.length_cons, List.length_nil, List.length_map, if_true, if_false, decide_true, decide_false, Bool.not_true, Bool.not_false, Bool.false_eq_true, reduceIte, List.map_cons, List.map_nil, List.cons_append, List.nil_append, List.replicate, Nat.sub_self, Nat.reduceSub, Nat.reduceAdd, Int.reduceAdd, Int.reducePow, Int.reduceToNat, Int.reduceLE, Int.reduceLT, Nat.reduceLT, Nat.reduceLeDiff, Nat.reducePow, Int.reduceSub, Int.reduceMul, Int.reduceEq, Nat.reduceEqDiff, and_self, true_and, and_true, or_true, true_or, Int.reduceNeg, eq_self, cmp_str, tyO, tyD, isi_ii, isi_is, isi_bi, isi_bs, isi_ib, isi_bb, dec_self, szE, bnd_int, seq_tup, seq_frz, seq_tmp, add_tup, p_2_Ldraw, h3, h6, hor, e3, hw, lst_ref f3, lst_ref fB3, upd_lst fB3, hl3, hl2, lst_ref f4, upd_lst f4, Fd.d]
        · rw [List.getElem?_set_ne hLB, p1, bnds_app, List.map_append]
          rfl
      · have h8a : ¬ r < 8 := fun z => h8 (.inl z)
        have h8b : ¬ (K ++ bnds fs) = [] := fun z => h8 (.inr z)
        have hpos : (0 : Int) < ((K ++ bnds fs).length : Int) := by
          have := List.length_pos_iff.mpr h8b
          omega
        have hlen : (K ++ bnds fs).length < 2000 := by
          rw [List.length_append]
          omega
        obtain ⟨s, m3, e3, s0, s1, G3⟩ := draw2 ((K ++ bnds fs).length : Int) hpos (by omega) G2.tp
        obtain ⟨w, hw, hm, _⟩ := atI_lt (l := (K ++ bnds fs).map D.str) s0 (by rw [List.length_map]; exact s1)
        obtain ⟨x, hx, rfl⟩ := List.mem_map.mp hm
        have f3 := G3.ex.get f2 O.1
        have fB3 := G3.ex.get fB2 OB.1
        have fQ3 := G3.ex.get fQ hqn
        have O3 := G3.off _ O2
        obtain ⟨q1, q2, q3⟩ := (G02.trans G3).app1 O3 hL f3 (v := Fd.d (.as_ x))
        refine ⟨some d, some (.int r), some (.ref q), x7, .as_ x, _, go _ _ ?_, by rw [List.map_append]; exact q1, ?_, hNN x hx, (fun y z => by cases z; exact hx), q2.less (by omega), q3, (G3.off _ OB2).get (List.getElem?_set_ne O.1)⟩
        · have hne : (K ++ bnds fs).isEmpty = false := by
            cases hk : K ++ bnds fs with
            | nil => exact absurd hk h8b
            | cons _ _ => rfl
          have hor : evE g2 (.or [.cmp .lt (.var 5) (.int 8), .cmp .eq (.var 6) (.lst [])]) [some (.ref n), some (.ref kq), some (.ref L), some (.ref B), some d, some (.int r), some (.ref q), x7] M = some (.val (.bl false), M) := by
            simp only [evSs, evS.eq_1, evS.eq_2, evS.eq_3, evS.eq_4, evS.eq_5, evS.eq_6, evS.eq_7, evS.eq_8, evS.eq_9, evS.eq_10, evS.eq_13, evS.eq_14, evS.eq_15, evS.eq_16, evS.eq_17, evS_for, evS_whl, evE.eq_1, evE.eq_2, evE.eq_3, evE.eq_4, evE.eq_5, evE.eq_6, evE.eq_7, evE.eq_8, evE.eq_9, evE.eq_10, evE.eq_11, evE.eq_12, evE.eq_13, evE.eq_14, evE.eq_15, evE.eq_16, evE.eq_17, evE.eq_18, evE.eq_19, evE.eq_20, evE.eq_21, evE.eq_22, evE.eq_23, evE.eq_24, evE.eq_26, evE.eq_27, evE.eq_28, evE.eq_29, evE_comp, evA, evAnd, evOr, evP, evI, tst, bindT.eq_1, bindT.eq_2, bindTs.eq_1, bindTs.eq_2, stow_val, stow_tmp, truO, bltO, bop_int, bopI, cmp_int, Nb.ix_tup, ix_frz, ix_tmp, len_tup, len_frz, len_tmp, atI_0, atI_1, atI_2, atI_3, ixN_0, ixN_1, ixN_2, Option.bind_some, Option.map_some, Option.bind_none, Option.map_none, List.getElem?_cons_zero, List.getElem?_cons_succ, List.set_cons_zero, List.set_cons_succ, List.length_cons, List.length_nil, List.length_map, if_true, if_false, decide_true, decide_false, Bool.not_true, Bool.not_false, Bool.false_eq_true, reduceIte, List.map_cons, List.map_nil, List.cons_append, List.nil_append, List.replicate, Nat.sub_self, Nat.reduceSub, Nat.reduceAdd, Int.reduceAdd, Int.reducePow, Int.reduceToNat, Int.reduceLE, Int.reduceLT, Nat.reduceLT, Nat.reduceLeDiff, Nat.reducePow, Int.reduceSub, Int.reduceMul, Int.reduceEq, Nat.reduceEqDiff, and_self, true_and, and_true, or_true, true_or, Int.reduceNeg, eq_self, cmp_str, tyO, tyD, isi_ii, isi_is, isi_bi, isi_bs, isi_ib, isi_bb, dec_self, szE, bnd_int, seq_tup, seq_frz, seq_tmp, add_tup, h8a, heq, hne]
          generalize K ++ bnds fs = KB at *
          unfold bP4
          rw [show bP1 = id bP1 from rfl, show bP2 = id bP2 from rfl, show bP3 = id bP3 from rfl, show (E.or [.cmp .lt (.var 5) (.int 8), .cmp .eq (.var 6) (.lst [])]) = id (E.or [.cmp .lt (.var 5) (.int 8), .cmp .eq (.var 6) (.lst [])]) from rfl]
          have hor : evE g2 (id (E.or [.cmp .lt (.var 5) (.int 8), .cmp .eq (.var 6) (.lst [])])) _ _ = _ := hor
          simp only [evSs, evS.eq_1, evS.eq_2, evS.eq_3, evS.eq_4, evS.eq_5, evS.eq_6, evS.eq_7, evS.eq_8, evS.eq_9, evS.eq_10, evS.eq_13, evS.eq_14, evS.eq_15, evS.eq_16, evS.eq_17, evS_for, evS_whl, evE.eq_1, evE.eq_2, evE.eq_3, evE.eq_4, evE.eq_5, evE.eq_6, evE.eq_7, evE.eq_8, evE.eq_9, evE.eq_10, evE.eq_11, evE.eq_12, evE.eq_13, evE.eq_14, evE.eq_15, evE.eq_16, evE.eq_17, evE.eq_18, evE.eq_19, evE.eq_20, evE.eq_21, evE.eq_22, evE.eq_23, evE.eq_24, evE.eq_26, evE.eq_27, evE.eq_28, evE.eq_29, evE_comp, evA, evAnd, evOr, evP, evI, tst, bindT.eq_1, bindT.eq_2, bindTs.eq_1, bindTs.eq_2, stow_val, stow_tmp, truO, bltO, bop_int, bopI, cmp_int, Nb.ix_tup, ix_frz, ix_tmp, len_tup, len_frz, len_tmp, atI_0, atI_1, atI_2, atI_3, ixN_0, ixN_1, ixN_2, Option.bind_some, Option.map_some, Option.bind_none, Option.map_none, List.getElem?_cons_zero, List.getElem?_cons_succ, List.set_cons_zero, List.set_cons_succ, List.length_cons, List.length_nil, List.length_map, if_true, if_false, decide_true, decide_false, Bool.not_true, Bool.not_false, Bool.false_eq_true, reduceIte, List.map_cons, List.map_nil, List.cons_append, List.nil_append, List.replicate, Nat.sub_self, Nat.reduceSub, Nat.reduceAdd, Int.reduceAdd, Int.reducePow, Int.reduceToNat, Int.reduceLE, Int.reduceLT, Nat.reduceLT, Nat.reduceLeDiff, Nat.reducePow, Int.reduceSub, Int.reduceMul, Int.reduceEq, Nat.reduceEqDiff, and_self, true_and, and_true, or_true, true_or, Int.reduceNeg, eq_self, cmp_str, tyO, tyD, isi_ii, isi_is, isi_bi, isi_bs, isi_ib, isi_bb, dec_self, szE, bnd_int, seq_tup, seq_frz, seq_tmp, add_tup, p_2_Ldraw, h3, h6, hor, len_lst fQ, e3, ix_lst fQ3, hw, lst_ref f2, upd_lst f3, hl2, Fd.d]
        · rw [plain _ rfl, List.getElem?_set_ne hLB]
          exact fB3
theorem Lpattern {ns : List Int} {tl : List D} {n b kq : Nat} {m : Mm} {K : List Str} (h : Tp ns tl n (b + 9) m) (eK : m[kq]? = some (.lst (K.map .str))) (hkn : kq ≠ n) (hK : ∀ x ∈ K, x ∈ NN) (hlK : K.length < 1000) :
    ∃ (fs : List Fd), ∃ B m', F_Lpattern [.ref n, .ref kq] m = some (.val (.tup [.tup (fs.map Fd.d), .ref B]), m') ∧ PatOk K fs ∧ m'[B]? = some (.lst ((bnds fs).map .str)) ∧ m.length ≤ B ∧ Off n B m' ∧ Go ns tl n b m m' := by
  have hk := lt_of_get eK
  have G0 := Go.app (h.less (c := b + 8 + 1) (by omega)) (a := [.lst [], .lst []])
  obtain ⟨c, m1, e1, c0, c1, G1⟩ := Lsize G0.tp
  have hr : inR c = true := inR_of (by omega) (by omega)
  have hlen : (rngD 0 c).length = c.toNat := by
    rw [rng_len]
    congr 1
    omega
  have OL := G1.off _ (Off.newA h (a := .lst []) (c := .lst []))
  have OB := G1.off _ (Off.newB h (a := .lst []) (c := .lst []))
  have G01 := G0.trans G1
  have L := loopF_genG (ff := forB g2 (.n 4) bPat) (gd := gdW (rngD 0 c, none)) (fun x : Option D × Option D × Option D × Option D => [some (.ref n), some (.ref kq), some (.ref m.length), some (.ref (m.length + 1)), x.1, x.2.1, x.2.2.1, x.2.2.2]) (fun _ => True) (fun _ => True)
    (fun ds m1 => ∃ fs : List Fd, ds = fs.map Fd.d ∧ (∀ f ∈ fs, Fd.ok f) ∧ asOk K fs ∧ m1[m.length + 1]? = some (.lst ((bnds fs).map .str)) ∧ Off n (m.length + 1) m1) (ns := ns) (tl := tl) (n := n) (L := m.length) (m0 := m) 2 1 100 (fun _ _ _ _ => rfl)
    (fun d x ds b m1 _ j G O e hl => by
      obtain ⟨fs, rfl, j1, j2, j3, j4⟩ := j
      rw [List.length_map] at hl
      obtain ⟨y4, y5, y6, y7, f, m2, q1, q2, q3, q4, q5, q6, q7, q8⟩ := patStep (d := d) (x4 := x.1) (x5 := x.2.1) (x6 := x.2.2.1) (x7 := x.2.2.2) (Nat.le_refl _) (by omega) (by omega) G O j4 e j3 (G.ex.get eK hkn) hK j1 (by omega) hlK
      refine ⟨(y4, y5, y6, y7), [Fd.d f], m2, q1, ⟨fs ++ [f], by rw [List.map_append]; rfl, fun g hg => ?_, asOk_snoc j2 q5, q3, q8⟩, by rw [q2, List.map_append]; rfl, Nat.le_refl _, Nat.le_refl _, (fun v hv => trivial), q6, q7⟩
      rcases List.mem_append.mp hg with hg | hg
      · exact j1 g hg
      · rw [List.mem_singleton.mp hg]
        exact q4)
    (ds := rngD 0 c) (ds0 := []) (x := (none, none, none, none)) (b := b) (m := m1) (fun _ _ => trivial) ⟨[], rfl, (fun f hf => nomatch hf), trivial, G1.ex.get end2b OB.1, OB⟩ (G01.less (by omega)) OL (G1.ex.get end2a OL.1) (by rw [List.length_nil]; omega)
  obtain ⟨x, vs, m2, e2, j, h1, h2, h3, _, G2, O2⟩ := L
  obtain ⟨fs, j0, j1, j2, j3, j4⟩ := j
  rw [List.nil_append] at j0 h1
  subst j0
  rw [List.length_map] at h2 h3
  refine ⟨fs, m.length + 1, m2, ?_, ⟨j1, j2, by omega, by omega⟩, j3, by omega, j4, G2⟩
  have ea : evS g2 (.asg (.n 2) (.lst [])) [some (.ref n), some (.ref kq), none, none, none, none, none, none] m = some (.nx, [some (.ref n), some (.ref kq), some (.ref m.length), none, none, none, none, none], m ++ [.lst []]) := by
    simp only [evSs, evS.eq_1, evS.eq_2, evS.eq_3, evS.eq_4, evS.eq_5, evS.eq_6, evS.eq_7, evS.eq_8, evS.eq_9, evS.eq_10, evS.eq_13, evS.eq_14, evS.eq_15, evS.eq_16, evS.eq_17, evS_for, evS_whl, evE.eq_1, evE.eq_2, evE.eq_3, evE.eq_4, evE.eq_5, evE.eq_6, evE.eq_7, evE.eq_8, evE.eq_9, evE.eq_10, evE.eq_11, evE.eq_12, evE.eq_13, evE.eq_14, evE.eq_15, evE.eq_16, evE.eq_17, evE.eq_18, evE.eq_19, evE.eq_20, evE.eq_21, evE.eq_22, evE.eq_23, evE.eq_24, evE.eq_26, evE.eq_27, evE.eq_28, evE.eq_29, evE_comp, evA, evAnd, evOr, evP, evI, tst, bindT.eq_1, bindT.eq_2, bindTs.eq_1, bindTs.eq_2, stow_val, stow_tmp, truO, bltO, bop_int, bopI, cmp_int, Nb.ix_tup, ix_frz, ix_tmp, len_tup, len_frz, len_tmp, atI_0, atI_1, atI_2, atI_3, ixN_0, ixN_1, ixN_2, Option.bind_some, Option.map_some, Option.bind_none, Option.map_none, List.getElem?_cons_zero, List.getElem?_cons_succ, List.set_cons_zero, List.set_cons_succ, List.length_cons, List.length_nil, List.length_map, if_true, if_false, decide_true, decide_false, Bool.not_true, Bool.not_false, Bool.false_eq_true, reduceIte, List.map_cons, List.map_nil, List.cons_append, List.nil_append, List.replicate, Nat.sub_self, Nat.reduceSub, Nat.reduceAdd, Int.reduceAdd, Int.reducePow, Int.reduceToNat, Int.reduceLE, Int.reduceLT, Nat.reduceLT, Nat.reduceLeDiff, Nat.reducePow, Int.reduceSub, Int.reduceMul, Int.reduceEq, Nat.reduceEqDiff, and_self, true_and, and_true, or_true, true_or, Int.reduceNeg, eq_self, cmp_str, tyO, tyD, isi_ii, isi_is, isi_bi, isi_bs, isi_ib, isi_bb, dec_self, szE, bnd_int, seq_tup, seq_frz, seq_tmp, add_tup]
  have eb : evS g2 (.asg (.n 3) (.lst [])) [some (.ref n), some (.ref kq), some (.ref m.length), none, none, none, none, none] (m ++ [.lst []]) = some (.nx, [some (.ref n), some (.ref kq), some (.ref m.length), some (.ref (m.length + 1)), none, none, none, none], m ++ [.lst [], .lst []]) := by
    simp only [evSs, evS.eq_1, evS.eq_2, evS.eq_3, evS.eq_4, evS.eq_5, evS.eq_6, evS.eq_7, evS.eq_8, evS.eq_9, evS.eq_10, evS.eq_13, evS.eq_14, evS.eq_15, evS.eq_16, evS.eq_17, evS_for, evS_whl, evE.eq_1, evE.eq_2, evE.eq_3, evE.eq_4, evE.eq_5, evE.eq_6, evE.eq_7, evE.eq_8, evE.eq_9, evE.eq_10, evE.eq_11, evE.eq_12, evE.eq_13, evE.eq_14, evE.eq_15, evE.eq_16, evE.eq_17, evE.eq_18, evE.eq_19, evE.eq_20, evE.eq_21, evE.eq_22, evE.eq_23, evE.eq_24, evE.eq_26, evE.eq_27, evE.eq_28, evE.eq_29, evE_comp, evA, evAnd, evOr, evP, evI, tst, bindT.eq_1, bindT.eq_2, bindTs.eq_1, bindTs.eq_2, stow_val, stow_tmp, truO, bltO, bop_int, bopI, cmp_int, Nb.ix_tup, ix_frz, ix_tmp, len_tup, len_frz, len_tmp, atI_0, atI_1, atI_2, atI_3, ixN_0, ixN_1, ixN_2, Option.bind_some, Option.map_some, Option.bind_none, Option.map_none, List.getElem?_cons_zero, List.getElem?_cons_succ, List.set_cons_zero, List.set_cons_succ, List.length_cons, List.length_nil, List.length_map, if_true, if_false, decide_true, decide_false, Bool.not_true, Bool.not_false, Bool.false_eq_true, reduceIte, List.map_cons, List.map_nil, List.cons_append, List.nil_append, List.replicate, Nat.sub_self, Nat.reduceSub, Nat.reduceAdd, Int.reduceAdd, Int.reducePow, Int.reduceToNat, Int.reduceLE, Int.reduceLT, Nat.reduceLT, Nat.reduceLeDiff, Nat.reducePow, Int.reduceSub, Int.reduceMul, Int.reduceEq, Nat.reduceEqDiff, and_self, true_and, and_true, or_true, true_or, Int.reduceNeg, eq_self, cmp_str, tyO, tyD, isi_ii, isi_is, isi_bi, isi_bs, isi_ib, isi_bb, dec_self, szE, bnd_int, seq_tup, seq_frz, seq_tmp, add_tup, List.length_append, List.append_assoc]
  have ec : evS g2 (.for_ (.n 4) (.rng1 (.call "_law_size" [.var 0])) bPat) [some (.ref n), some (.ref kq), some (.ref m.length), some (.ref (m.length + 1)), none, none, none, none] (m ++ [.lst [], .lst []]) = some (.nx, [some (.ref n), some (.ref kq), some (.ref m.length), some (.ref (m.length + 1)), x.1, x.2.1, x.2.2.1, x.2.2.2], m2) := by
    simp only [evSs, evS.eq_1, evS.eq_2, evS.eq_3, evS.eq_4, evS.eq_5, evS.eq_6, evS.eq_7, evS.eq_8, evS.eq_9, evS.eq_10, evS.eq_13, evS.eq_14, evS.eq_15, evS.eq_16, evS.eq_17, evS_for, evS_whl, evE.eq_1, evE.eq_2, evE.eq_3, evE.eq_4, evE.eq_5, evE.eq_6, evE.eq_7, evE.eq_8, evE.eq_9, evE.eq_10, evE.eq_11, evE.eq_12, evE.eq_13, evE.eq_14, evE.eq_15, evE.eq_16, evE.eq_17, evE.eq_18, evE.eq_19, evE.eq_20, evE.eq_21, evE.eq_22, evE.eq_23, evE.eq_24, evE.eq_26, evE.eq_27, evE.eq_28, evE.eq_29, evE_comp, evA, evAnd, evOr, evP, evI, tst, bindT.eq_1, bindT.eq_2, bindTs.eq_1, bindTs.eq_2, stow_val, stow_tmp, truO, bltO, bop_int, bopI, cmp_int, Nb.ix_tup, ix_frz, ix_tmp, len_tup, len_frz, len_tmp, atI_0, atI_1, atI_2, atI_3, ixN_0, ixN_1, ixN_2, Option.bind_some, Option.map_some, Option.bind_none, Option.map_none, List.getElem?_cons_zero, List.getElem?_cons_succ, List.set_cons_zero, List.set_cons_succ, List.length_cons, List.length_nil, List.length_map, if_true, if_false, decide_true, decide_false, Bool.not_true, Bool.not_false, Bool.false_eq_true, reduceIte, List.map_cons, List.map_nil, List.cons_append, List.nil_append, List.replicate, Nat.sub_self, Nat.reduceSub, Nat.reduceAdd, Int.reduceAdd, Int.reducePow, Int.reduceToNat, Int.reduceLE, Int.reduceLT, Nat.reduceLT, Nat.reduceLeDiff, Nat.reducePow, Int.reduceSub, Int.reduceMul, Int.reduceEq, Nat.reduceEqDiff, and_self, true_and, and_true, or_true, true_or, Int.reduceNeg, eq_self, cmp_str, tyO, tyD, isi_ii, isi_is, isi_bi, isi_bs, isi_ib, isi_bb, dec_self, szE, bnd_int, seq_tup, seq_frz, seq_tmp, add_tup, p_2_Lsize, e1, hr, e2]
  unfold F_Lpattern runF s_Lpattern
  rw [e_Lpattern]
  show (evSs g2 [.asg (.n 2) (.lst []), .asg (.n 3) (.lst []), .for_ (.n 4) (.rng1 (.call "_law_size" [.var 0])) bPat, .ret _] [some (.ref n), some (.ref kq), none, none, none, none, none, none] m).bind _ = _
  rw [evSs.eq_2, ea, Option.bind_some, evSs.eq_2, eb, Option.bind_some, evSs.eq_2, ec, Option.bind_some]
  show (evSs g2 [.ret _] _ _).bind _ = _
  simp only [evSs, evS.eq_1, evS.eq_2, evS.eq_3, evS.eq_4, evS.eq_5, evS.eq_6, evS.eq_7, evS.eq_8, evS.eq_9, evS.eq_10, evS.eq_13, evS.eq_14, evS.eq_15, evS.eq_16, evS.eq_17, evS_for, evS_whl, evE.eq_1, evE.eq_2, evE.eq_3, evE.eq_4, evE.eq_5, evE.eq_6, evE.eq_7, evE.eq_8, evE.eq_9, evE.eq_10, evE.eq_11, evE.eq_12, evE.eq_13, evE.eq_14, evE.eq_15, evE.eq_16, evE.eq_17, evE.eq_18, evE.eq_19, evE.eq_20, evE.eq_21, evE.eq_22, evE.eq_23, evE.eq_24, evE.eq_26, evE.eq_27, evE.eq_28, evE.eq_29, evE_comp, evA, evAnd, evOr, evP, evI, tst, bindT.eq_1, bindT.eq_2, bindTs.eq_1, bindTs.eq_2, stow_val, stow_tmp, truO, bltO, bop_int, bopI, cmp_int, Nb.ix_tup, ix_frz, ix_tmp, len_tup, len_frz, len_tmp, atI_0, atI_1, atI_2, atI_3, ixN_0, ixN_1, ixN_2, Option.bind_some, Option.map_some, Option.bind_none, Option.map_none, List.getElem?_cons_zero, List.getElem?_cons_succ, List.set_cons_zero, List.set_cons_succ, List.length_cons, List.length_nil, List.length_map, if_true, if_false, decide_true, decide_false, Bool.not_true, Bool.not_false, Bool.false_eq_true, reduceIte, List.map_cons, List.map_nil, List.cons_append, List.nil_append, List.replicate, Nat.sub_self, Nat.reduceSub, Nat.reduceAdd, Int.reduceAdd, Int.reducePow, Int.reduceToNat, Int.reduceLE, Int.reduceLT, Nat.reduceLT, Nat.reduceLeDiff, Nat.reducePow, Int.reduceSub, Int.reduceMul, Int.reduceEq, Nat.reduceEqDiff, and_self, true_and, and_true, or_true, true_or, Int.reduceNeg, eq_self, cmp_str, tyO, tyD, isi_ii, isi_is, isi_bi, isi_bs, isi_ib, isi_bb, dec_self, szE, bnd_int, seq_tup, seq_frz, seq_tmp, add_tup, seq_ref h1]
end LawP

namespace LawP
open PySem PySem.Spec L2 Nb Hd
/-! ages -/
theorem tp_get {ns : List Int} {tl : List D} {n b : Nat} {m : Mm} (h : Tp ns tl n b m) : ∃ k sp rs, m[n]? = some (.lst (.ref k :: .int sp :: .int rs :: tl)) := by
  obtain ⟨k, sp, rs, _, q, _⟩ := h
  exact ⟨k, sp, rs, q⟩
theorem Lage {ns : List Int} {n b q : Nat} {m : Mm} (h : Tp ns [.ref q] n (b + 1) m) (ha : m[q]? = some (.lst AGES)) (hq : q ≠ n) : ∃ d m', F_Lage [.ref n] m = some (.val d, m') ∧ d ∈ AGES ∧ Go ns [.ref q] n b m m' := by
  obtain ⟨r, m', e, r0, r1, g⟩ := draw2 7 (by decide) (by decide) h
  obtain ⟨d, hd, hm, _⟩ := atI_lt (l := AGES) r0 r1
  obtain ⟨k, sp, rs, ht⟩ := tp_get h
  have ha2 := g.ex.get ha hq
  have hl : AGES.length = 7 := rfl
  have n7 : ((7 : Nat) : Int) = 7 := rfl
  refine ⟨d, m', ?_, hm, g⟩
  unfold F_Lage runF s_Lage
  simp only [evSs, evS.eq_1, evS.eq_2, evS.eq_3, evS.eq_4, evS.eq_5, evS.eq_6, evS.eq_7, evS.eq_8, evS.eq_9, evS.eq_10, evS.eq_13, evS.eq_14, evS.eq_15, evS.eq_16, evS.eq_17, evS_for, evS_whl, evE.eq_1, evE.eq_2, evE.eq_3, evE.eq_4, evE.eq_5, evE.eq_6, evE.eq_7, evE.eq_8, evE.eq_9, evE.eq_10, evE.eq_11, evE.eq_12, evE.eq_13, evE.eq_14, evE.eq_15, evE.eq_16, evE.eq_17, evE.eq_18, evE.eq_19, evE.eq_20, evE.eq_21, evE.eq_22, evE.eq_23, evE.eq_24, evE.eq_26, evE.eq_27, evE.eq_28, evE.eq_29, evE_comp, evA, evAnd, evOr, evP, evI, tst, bindT.eq_1, bindT.eq_2, bindTs.eq_1, bindTs.eq_2, stow_val, stow_tmp, truO, bltO, bop_int, bopI, cmp_int, Nb.ix_tup, ix_frz, ix_tmp, len_tup, len_frz, len_tmp, atI_0, atI_1, atI_2, atI_3, ixN_0, ixN_1, ixN_2, Option.bind_some, Option.map_some, Option.bind_none, Option.map_none, List.getElem?_cons_zero, List.getElem?_cons_succ, List.set_cons_zero, List.set_cons_succ, List.length_cons, List.length_nil, List.length_map, if_true, if_false, decide_true, decide_false, Bool.not_true, Bool.not_false, Bool.false_eq_true, reduceIte, List.map_cons, List.map_nil, List.cons_append, List.nil_append, List.replicate, Nat.sub_self, Nat.reduceSub, Nat.reduceAdd, Int.reduceAdd, Int.reducePow, Int.reduceToNat, Int.reduceLE, Int.reduceLT, Nat.reduceLT, Nat.reduceLeDiff, Nat.reducePow, Int.reduceSub, Int.reduceMul, Int.reduceEq, Nat.reduceEqDiff, and_self, true_and, and_true, or_true, true_or, Int.reduceNeg, eq_self, cmp_str, tyO, tyD, isi_ii, isi_is, isi_bi, isi_bs, isi_ib, isi_bb, dec_self, szE, bnd_int, seq_tup, seq_frz, seq_tmp, add_tup, e_Lage, p_1_Ldraw, ix_lst ht, len_lst ha, hl, n7, e, ix_lst ha2, hd]
/-! templates -/
def bT1 : List S := [.app (.var 2) (.tup [.str "is", .call "_law_value" [.var 0]])]
def bT2 : List S := [.app (.var 2) (.tup [.ix (.lst [.str "as", .str "as", .str "next"]) (.bop .sub (.var 4) (.int 3)), .ix (.var 1) (.call "_law_draw" [.var 0, .blt .len (.var 1)])])]
def cT : E := .or [.cmp .lt (.var 4) (.int 3), .cmp .eq (.var 1) (.lst [])]
def bTpl : List S := [
    .asg (.n 4) (.call "_law_draw" [.var 0, .int 6]), 
    .ife cT bT1 bT2]
theorem tplStep {ns : List Int} {tl : List D} {n b kq L : Nat} {m0 m : Mm} {d : D} {x3 x4 : Option D} {K : List Str} {ts : List Tf} (hL : m0.length ≤ L) (G : Go ns tl n (b + 2) m0 m) (O : Off n L m) (e : m[L]? = some (.lst (ts.map Tf.d))) (eK : m[kq]? = some (.lst (K.map .str))) (hkn : kq ≠ n) (hK : ∀ x ∈ K, x ∈ NN) (hl : ts.length < 1000) (hlK : K.length < 1000) :
    ∃ y3 y4 t m', forB g2 (.n 3) bTpl d [some (.ref n), some (.ref kq), some (.ref L), x3, x4] m = some (.nx, [some (.ref n), some (.ref kq), some (.ref L), y3, y4], m') ∧ m'[L]? = some (.lst ((ts ++ [t]).map Tf.d)) ∧ Tf.ok K t ∧ Go ns tl n b m0 m' ∧ Off n L m' := by
  obtain ⟨r, m1, e1, r0, r1, G1⟩ := draw2 6 (by decide) (by decide) G.tp
  have f1 := G1.ex.get e O.1
  have O1 := G1.off _ O
  have k1 := G1.ex.get eK hkn
  have heq := strs_nil k1 fun x hx => (okNN x (hK x hx)).1
  have hl2 : ts.length < 16777216 := by omega
  by_cases h3 : r < 3 ∨ K = []
  · obtain ⟨v, m3, e3, hv, G3⟩ := Lvalue G1.tp
    have f3 := G3.ex.get f1 O.1
    have O3 := G3.off _ O1
    obtain ⟨q1, q2, q3⟩ := ((G.trans G1).trans G3).app1 O3 hL f3 (v := Tf.d (.is v))
    refine ⟨some d, some (.int r), .is v, _, ?_, by rw [List.map_append]; exact q1, hv, q2, q3⟩
    have hor : evE g2 cT [some (.ref n), some (.ref kq), some (.ref L), some d, some (.int r)] m1 = some (.val (.bl true), m1) := by
      unfold cT
      rcases h3 with h3 | h3
      · simp only [evSs, evS.eq_1, evS.eq_2, evS.eq_3, evS.eq_4, evS.eq_5, evS.eq_6, evS.eq_7, evS.eq_8, evS.eq_9, evS.eq_10, evS.eq_13, evS.eq_14, evS.eq_15, evS.eq_16, evS.eq_17, evS_for, evS_whl, evE.eq_1, evE.eq_2, evE.eq_3, evE.eq_4, evE.eq_5, evE.eq_6, evE.eq_7, evE.eq_8, evE.eq_9, evE.eq_10, evE.eq_11, evE.eq_12, evE.eq_13, evE.eq_14, evE.eq_15, evE.eq_16, evE.eq_17, evE.eq_18, evE.eq_19, evE.eq_20, evE.eq_21, evE.eq_22, evE.eq_23, evE.eq_24, evE.eq_26, evE.eq_27, evE.eq_28, evE.eq_29, evE_comp, evA, evAnd, evOr, evP, evI, tst, bindT.eq_1, bindT.eq_2, bindTs.eq_1, bindTs.eq_2, stow_val, stow_tmp, truO, bltO, bop_int, bopI, cmp_int, Nb.ix_tup, ix_frz, ix_tmp, len_tup, len_frz, len_tmp, atI_0, atI_1, atI_2, atI_3, ixN_0, ixN_1, ixN_2, Option.bind_some, Option.map_some, Option.bind_none, Option.map_none, List.getElem?_cons_zero, List.getElem?_cons_succ, List.set_cons_zero, List.set_cons_succ, List.length_cons, List.length_nil, List.length_map, if_true, if_false, decide_true, decide_false, Bool.not_true, Bool.not_false, Bool.false_eq_true, reduceIte, List.map_cons, List.map_nil, List.cons_append, List.nil_append, List.replicate, Nat.sub_self, Nat.reduceSub, Nat.reduceAdd, Int.reduceAdd, Int.reducePow, Int.reduceToNat, Int.reduceLE, Int.reduceLT, Nat.reduceLT, Nat.reduceLeDiff, Nat.reducePow, Int.reduceSub, Int.reduceMul, Int.reduceEq, Nat.reduceEqDiff, and_self, true_and, and_true, or_true, true_or, Int.reduceNeg, eq_self, cmp_str, tyO, tyD, isi_ii, isi_is, isi_bi, isi_bs, isi_ib, isi_bb, dec_self, szE, bnd_int, seq_tup, seq_frz, seq_tmp, add_tup, h3]
      · rw [h3] at heq
        by_cases h9 : r < 3
        · simp only [evSs, evS.eq_1, evS.eq_2, evS.eq_3, evS.eq_4, evS.eq_5, evS.eq_6, evS.eq_7, evS.eq_8, evS.eq_9, evS.eq_10, evS.eq_13, evS.eq_14, evS.eq_15, evS.eq_16, evS.eq_17, evS_for, evS_whl, evE.eq_1, evE.eq_2, evE.eq_3, evE.eq_4, evE.eq_5, evE.eq_6, evE.eq_7, evE.eq_8, evE.eq_9, evE.eq_10, evE.eq_11, evE.eq_12, evE.eq_13, evE.eq_14, evE.eq_15, evE.eq_16, evE.eq_17, evE.eq_18, evE.eq_19, evE.eq_20, evE.eq_21, evE.eq_22, evE.eq_23, evE.eq_24, evE.eq_26, evE.eq_27, evE.eq_28, evE.eq_29, evE_comp, evA, evAnd, evOr, evP, evI, tst, bindT.eq_1, bindT.eq_2, bindTs.eq_1, bindTs.eq_2, stow_val, stow_tmp, truO, bltO, bop_int, bopI, cmp_int, Nb.ix_tup, ix_frz, ix_tmp, len_tup, len_frz, len_tmp, atI_0, atI_1, atI_2, atI_3, ixN_0, ixN_1, ixN_2, Option.bind_some, Option.map_some, Option.bind_none, Option.map_none, List.getElem?_cons_zero, List.getElem?_cons_succ, List.set_cons_zero, List.set_cons_succ, List.length_cons, List.length_nil, List.length_map, if_true, if_false, decide_true, decide_false, Bool.not_true, Bool.not_false, Bool.false_eq_true, reduceIte, List.map_cons, List.map_nil, List.cons_append, List.nil_append, List.replicate, Nat.sub_self, Nat.reduceSub, Nat.reduceAdd, Int.reduceAdd, Int.reducePow, Int.reduceToNat, Int.reduceLE, Int.reduceLT, Nat.reduceLT, Nat.reduceLeDiff, Nat.reducePow, Int.reduceSub, Int.reduceMul, Int.reduceEq, Nat.reduceEqDiff, and_self, true_and, and_true, or_true, true_or, Int.reduceNeg, eq_self, cmp_str, tyO, tyD, isi_ii, isi_is, isi_bi, isi_bs, isi_ib, isi_bb, dec_self, szE, bnd_int, seq_tup, seq_frz, seq_tmp, add_tup, h9]
        · simp only [evSs, evS.eq_1, evS.eq_2, evS.eq_3, evS.eq_4, evS.eq_5, evS.eq_6, evS.eq_7, evS.eq_8, evS.eq_9, evS.eq_10, evS.eq_13, evS.eq_14, evS.eq_15, evS.eq_16, evS.eq_17, evS_for, evS_whl, evE.eq_1, evE.eq_2, evE.eq_3, evE.eq_4, evE.eq_5, evE.eq_6, evE.eq_7, evE.eq_8, evE.eq_9, evE.eq_10, evE.eq_11, evE.eq_12, evE.eq_13, evE.eq_14, evE.eq_15, evE.eq_16, evE.eq_17, evE.eq_18, evE.eq_19, evE.eq_20, evE.eq_21, evE.eq_22, evE.eq_23, evE.eq_24, evE.eq_26, evE.eq_27, evE.eq_28, evE.eq_29, evE_comp, evA, evAnd, evOr, evP, evI, tst, bindT.eq_1, bindT.eq_2, bindTs.eq_1, bindTs.eq_2, stow_val, stow_tmp, truO, bltO, bop_int, bopI, cmp_int, Nb.ix_tup, ix_frz, ix_tmp, len_tup, len_frz, len_tmp, atI_0, atI_1, atI_2, atI_3, ixN_0, ixN_1, ixN_2, Option.bind_some, Option.map_some, Option.bind_none, Option.map_none, List.getElem?_cons_zero, List.getElem?_cons_succ, List.set_cons_zero, List.set_cons_succ, List.length_cons, List.length_nil, List.length_map, if_true, if_false, decide_true, decide_false, Bool.not_true, Bool.not_false, Bool.false_eq_true, reduceIte, List.map_cons, List.map_nil, List.cons_append, List.nil_append, List.replicate, Nat.sub_self, Nat.reduceSub, Nat.reduceAdd, Int.reduceAdd, Int.reducePow, Int.reduceToNat, Int.reduceLE, Int.reduceLT, Nat.reduceLT, Nat.reduceLeDiff, Nat.reducePow, Int.reduceSub, Int.reduceMul, Int.reduceEq, Nat.reduceEqDiff, and_self, true_and, and_true, or_true, true_or, Int.reduceNeg, eq_self, cmp_str, tyO, tyD, isi_ii, isi_is, isi_bi, isi_bs, isi_ib, isi_bb, dec_self, szE, bnd_int, seq_tup, seq_frz, seq_tmp, add_tup, h9, heq, List.isEmpty_nil]
    unfold forB bTpl bT1
    rw [show bT2 = id bT2 from rfl]
    simp only [evSs, evS.eq_1, evS.eq_2, evS.eq_3, evS.eq_4, evS.eq_5, evS.eq_6, evS.eq_7, evS.eq_8, evS.eq_9, evS.eq_10, evS.eq_13, evS.eq_14, evS.eq_15, evS.eq_16, evS.eq_17, evS_for, evS_whl, evE.eq_1, evE.eq_2, evE.eq_3, evE.eq_4, evE.eq_5, evE.eq_6, evE.eq_7, evE.eq_8, evE.eq_9, evE.eq_10, evE.eq_11, evE.eq_12, evE.eq_13, evE.eq_14, evE.eq_15, evE.eq_16, evE.eq_17, evE.eq_18, evE.eq_19, evE.eq_20, evE.eq_21, evE.eq_22, evE.eq_23, evE.eq_24, evE.eq_26, evE.eq_27, evE.eq_28, evE.eq_29, evE_comp, evA, evAnd, evOr, evP, evI, tst, bindT.eq_1, bindT.eq_2, bindTs.eq_1, bindTs.eq_2, stow_val, stow_tmp, truO, bltO, bop_int, bopI, cmp_int, Nb.ix_tup, ix_frz, ix_tmp, len_tup, len_frz, len_tmp, atI_0, atI_1, atI_2, atI_3, ixN_0, ixN_1, ixN_2, Option.bind_some, Option.map_some, Option.bind_none, Option.map_none, List.getElem?_cons_zero, List.getElem?_cons_succ, List.set_cons_zero, List.set_cons_succ, List.length_cons, List.length_nil, List.length_map, if_true, if_false, decide_true, decide_false, Bool.not_true, Bool.not_false, Bool.false_eq_true, reduceIte, List.map_cons, List.map_nil, List.cons_append, List.nil_append, List.replicate, Nat.sub_self, Nat.reduceSub, Nat.reduceAdd, Int.reduceAdd, Int.reducePow, Int.reduceToNat, Int.reduceLE, Int.reduceLT, Nat.reduceLT, Nat.reduceLeDiff, Nat.reducePow, Int.reduceSub, Int.reduceMul, Int.reduceEq, Nat.reduceEqDiff, and_self, true_and, and_true, or_true, true_or, Int.reduceNeg, eq_self, cmp_str, tyO, tyD, isi_ii, isi_is, isi_bi, isi_bs, isi_ib, isi_bb, dec_self, szE, bnd_int, seq_tup, seq_frz, seq_tmp, add_tup, p_2_Ldraw, p_2_Lvalue, e1, hor, e3, lst_ref f1, upd_lst f3, hl2, Tf.d]
  · have h3a : ¬ r < 3 := fun z => h3 (.inl z)
    have h3b : ¬ K = [] := fun z => h3 (.inr z)
    have hpos : (0 : Int) < (K.length : Int) := by
      have := List.length_pos_iff.mpr h3b
      omega
    obtain ⟨s, m3, e3, s0, s1, G3⟩ := draw2 (K.length : Int) hpos (by omega) G1.tp
    obtain ⟨w, hw, hm, _⟩ := atI_lt (l := K.map D.str) s0 (by rw [List.length_map]; exact s1)
    obtain ⟨x, hx, rfl⟩ := List.mem_map.mp hm
    have f3 := G3.ex.get f1 O.1
    have k3 := G3.ex.get k1 hkn
    have O3 := G3.off _ O1
    obtain ⟨wd, t, hwd, htd, hto⟩ : ∃ wd t, atI [D.str "as", .str "as", .str "next"] (r - 3) = some (.str wd) ∧ Tf.d t = .tup [.str wd, .str x] ∧ Tf.ok K t := by
      have : r = 3 ∨ r = 4 ∨ r = 5 := by omega
      rcases this with rfl | rfl | rfl
      · exact ⟨_, .as_ x, rfl, rfl, hx⟩
      · exact ⟨_, .as_ x, rfl, rfl, hx⟩
      · exact ⟨_, .next x, rfl, rfl, hx⟩
    obtain ⟨q1, q2, q3⟩ := ((G.trans G1).trans G3).app1 O3 hL f3 (v := Tf.d t)
    refine ⟨some d, some (.int r), t, _, ?_, by rw [List.map_append]; exact q1, hto, q2, q3⟩
    have hne : K.isEmpty = false := by
      cases K with
      | nil => exact absurd rfl h3b
      | cons _ _ => rfl
    have hor : evE g2 cT [some (.ref n), some (.ref kq), some (.ref L), some d, some (.int r)] m1 = some (.val (.bl false), m1) := by
      unfold cT
      simp only [evSs, evS.eq_1, evS.eq_2, evS.eq_3, evS.eq_4, evS.eq_5, evS.eq_6, evS.eq_7, evS.eq_8, evS.eq_9, evS.eq_10, evS.eq_13, evS.eq_14, evS.eq_15, evS.eq_16, evS.eq_17, evS_for, evS_whl, evE.eq_1, evE.eq_2, evE.eq_3, evE.eq_4, evE.eq_5, evE.eq_6, evE.eq_7, evE.eq_8, evE.eq_9, evE.eq_10, evE.eq_11, evE.eq_12, evE.eq_13, evE.eq_14, evE.eq_15, evE.eq_16, evE.eq_17, evE.eq_18, evE.eq_19, evE.eq_20, evE.eq_21, evE.eq_22, evE.eq_23, evE.eq_24, evE.eq_26, evE.eq_27, evE.eq_28, evE.eq_29, evE_comp, evA, evAnd, evOr, evP, evI, tst, bindT.eq_1, bindT.eq_2, bindTs.eq_1, bindTs.eq_2, stow_val, stow_tmp, truO, bltO, bop_int, bopI, cmp_int, Nb.ix_tup, ix_frz, ix_tmp, len_tup, len_frz, len_tmp, atI_0, atI_1, atI_2, atI_3, ixN_0, ixN_1, ixN_2, Option.bind_some, Option.map_some, Option.bind_none, Option.map_none, List.getElem?_cons_zero, List.getElem?_cons_succ, List.set_cons_zero, List.set_cons_succ, List.length_cons, List.length_nil, List.length_map, if_true, if_false, decide_true, decide_false, Bool.not_true, Bool.not_false, Bool.false_eq_true, reduceIte, List.map_cons, List.map_nil, List.cons_append, List.nil_append, List.replicate, Nat.sub_self, Nat.reduceSub, Nat.reduceAdd, Int.reduceAdd, Int.reducePow, Int.reduceToNat, Int.reduceLE, Int.reduceLT, Nat.reduceLT, Nat.reduceLeDiff, Nat.reducePow, Int.reduceSub, Int.reduceMul, Int.reduceEq, Nat.reduceEqDiff, and_self, true_and, and_true, or_true, true_or, Int.reduceNeg, eq_self, cmp_str, tyO, tyD, isi_ii, isi_is, isi_bi, isi_bs, isi_ib, isi_bb, dec_self, szE, bnd_int, seq_tup, seq_frz, seq_tmp, add_tup, h3a, heq, hne]
    rw [htd]
    unfold forB bTpl bT2
    rw [show bT1 = id bT1 from rfl]
    simp only [evSs, evS.eq_1, evS.eq_2, evS.eq_3, evS.eq_4, evS.eq_5, evS.eq_6, evS.eq_7, evS.eq_8, evS.eq_9, evS.eq_10, evS.eq_13, evS.eq_14, evS.eq_15, evS.eq_16, evS.eq_17, evS_for, evS_whl, evE.eq_1, evE.eq_2, evE.eq_3, evE.eq_4, evE.eq_5, evE.eq_6, evE.eq_7, evE.eq_8, evE.eq_9, evE.eq_10, evE.eq_11, evE.eq_12, evE.eq_13, evE.eq_14, evE.eq_15, evE.eq_16, evE.eq_17, evE.eq_18, evE.eq_19, evE.eq_20, evE.eq_21, evE.eq_22, evE.eq_23, evE.eq_24, evE.eq_26, evE.eq_27, evE.eq_28, evE.eq_29, evE_comp, evA, evAnd, evOr, evP, evI, tst, bindT.eq_1, bindT.eq_2, bindTs.eq_1, bindTs.eq_2, stow_val, stow_tmp, truO, bltO, bop_int, bopI, cmp_int, Nb.ix_tup, ix_frz, ix_tmp, len_tup, len_frz, len_tmp, atI_0, atI_1, atI_2, atI_3, ixN_0, ixN_1, ixN_2, Option.bind_some, Option.map_some, Option.bind_none, Option.map_none, List.getElem?_cons_zero, List.getElem?_cons_succ, List.set_cons_zero, List.set_cons_succ, List.length_cons, List.length_nil, List.length_map, if_true, if_false, decide_true, decide_false, Bool.not_true, Bool.not_false, Bool.false_eq_true, reduceIte, List.map_cons, List.map_nil, List.cons_append, List.nil_append, List.replicate, Nat.sub_self, Nat.reduceSub, Nat.reduceAdd, Int.reduceAdd, Int.reducePow, Int.reduceToNat, Int.reduceLE, Int.reduceLT, Nat.reduceLT, Nat.reduceLeDiff, Nat.reducePow, Int.reduceSub, Int.reduceMul, Int.reduceEq, Nat.reduceEqDiff, and_self, true_and, and_true, or_true, true_or, Int.reduceNeg, eq_self, cmp_str, tyO, tyD, isi_ii, isi_is, isi_bi, isi_bs, isi_ib, isi_bb, dec_self, szE, bnd_int, seq_tup, seq_frz, seq_tmp, add_tup, p_2_Ldraw, e1, hor, hwd, len_lst k1, e3, ix_lst k3, hw, lst_ref f1, upd_lst f3, hl2]
theorem Ltemplate {ns : List Int} {tl : List D} {n b kq : Nat} {m : Mm} {K : List Str} (h : Tp ns tl n (b + 9) m) (eK : m[kq]? = some (.lst (K.map .str))) (hkn : kq ≠ n) (hK : ∀ x ∈ K, x ∈ NN) (hlK : K.length < 1000) :
    ∃ (ts : List Tf), ∃ m', F_Ltemplate [.ref n, .ref kq] m = some (.val (.tup (ts.map Tf.d)), m') ∧ TplOk K ts ∧ Go ns tl n b m m' := by
  have G0 := Go.app (h.less (c := b + 8 + 1) (by omega)) (a := [.lst []])
  obtain ⟨c, m1, e1, c0, c1, G1⟩ := Lsize G0.tp
  have hr : inR c = true := inR_of (by omega) (by omega)
  have hlen : (rngD 0 c).length = c.toNat := by
    rw [rng_len]
    congr 1
    omega
  have OL := G1.off _ (Off.new h (a := .lst []))
  have G01 := G0.trans G1
  have L := loopF_genG (ff := forB g2 (.n 3) bTpl) (gd := gdW (rngD 0 c, none)) (fun x : Option D × Option D => [some (.ref n), some (.ref kq), some (.ref m.length), x.1, x.2]) (fun _ => True) (fun _ => True)
    (fun ds m1 => ∃ ts : List Tf, ds = ts.map Tf.d ∧ ∀ t ∈ ts, Tf.ok K t) (ns := ns) (tl := tl) (n := n) (L := m.length) (m0 := m) 2 1 100 (fun _ _ _ _ => rfl)
    (fun d x ds b m1 _ j G O e hl => by
      obtain ⟨ts, rfl, j1⟩ := j
      rw [List.length_map] at hl
      obtain ⟨y3, y4, t, m2, q1, q2, q3, q4, q5⟩ := tplStep (d := d) (x3 := x.1) (x4 := x.2) (Nat.le_refl _) G O e (G.ex.get eK hkn) hkn hK (by omega) hlK
      refine ⟨(y3, y4), [Tf.d t], m2, q1, ⟨ts ++ [t], by rw [List.map_append]; rfl, fun g hg => ?_⟩, by rw [q2, List.map_append]; rfl, Nat.le_refl _, Nat.le_refl _, (fun v hv => trivial), q4, q5⟩
      rcases List.mem_append.mp hg with hg | hg
      · exact j1 g hg
      · rw [List.mem_singleton.mp hg]
        exact q3)
    (ds := rngD 0 c) (ds0 := []) (x := (none, none)) (b := b) (m := m1) (fun _ _ => trivial) ⟨[], rfl, (fun f hf => nomatch hf)⟩ (G01.less (by omega)) OL (G1.ex.get get_new OL.1) (by rw [List.length_nil]; omega)
  obtain ⟨x, vs, m2, e2, j, h1, h2, h3, _, G2, O2⟩ := L
  obtain ⟨ts, j0, j1⟩ := j
  rw [List.nil_append] at j0 h1
  subst j0
  rw [List.length_map] at h2 h3
  refine ⟨ts, m2, ?_, ⟨j1, by omega, by omega⟩, G2⟩
  have ea : evS g2 (.asg (.n 2) (.lst [])) [some (.ref n), some (.ref kq), none, none, none] m = some (.nx, [some (.ref n), some (.ref kq), some (.ref m.length), none, none], m ++ [.lst []]) := by
    simp only [evSs, evS.eq_1, evS.eq_2, evS.eq_3, evS.eq_4, evS.eq_5, evS.eq_6, evS.eq_7, evS.eq_8, evS.eq_9, evS.eq_10, evS.eq_13, evS.eq_14, evS.eq_15, evS.eq_16, evS.eq_17, evS_for, evS_whl, evE.eq_1, evE.eq_2, evE.eq_3, evE.eq_4, evE.eq_5, evE.eq_6, evE.eq_7, evE.eq_8, evE.eq_9, evE.eq_10, evE.eq_11, evE.eq_12, evE.eq_13, evE.eq_14, evE.eq_15, evE.eq_16, evE.eq_17, evE.eq_18, evE.eq_19, evE.eq_20, evE.eq_21, evE.eq_22, evE.eq_23, evE.eq_24, evE.eq_26, evE.eq_27, evE.eq_28, evE.eq_29, evE_comp, evA, evAnd, evOr, evP, evI, tst, bindT.eq_1, bindT.eq_2, bindTs.eq_1, bindTs.eq_2, stow_val, stow_tmp, truO, bltO, bop_int, bopI, cmp_int, Nb.ix_tup, ix_frz, ix_tmp, len_tup, len_frz, len_tmp, atI_0, atI_1, atI_2, atI_3, ixN_0, ixN_1, ixN_2, Option.bind_some, Option.map_some, Option.bind_none, Option.map_none, List.getElem?_cons_zero, List.getElem?_cons_succ, List.set_cons_zero, List.set_cons_succ, List.length_cons, List.length_nil, List.length_map, if_true, if_false, decide_true, decide_false, Bool.not_true, Bool.not_false, Bool.false_eq_true, reduceIte, List.map_cons, List.map_nil, List.cons_append, List.nil_append, List.replicate, Nat.sub_self, Nat.reduceSub, Nat.reduceAdd, Int.reduceAdd, Int.reducePow, Int.reduceToNat, Int.reduceLE, Int.reduceLT, Nat.reduceLT, Nat.reduceLeDiff, Nat.reducePow, Int.reduceSub, Int.reduceMul, Int.reduceEq, Nat.reduceEqDiff, and_self, true_and, and_true, or_true, true_or, Int.reduceNeg, eq_self, cmp_str, tyO, tyD, isi_ii, isi_is, isi_bi, isi_bs, isi_ib, isi_bb, dec_self, szE, bnd_int, seq_tup, seq_frz, seq_tmp, add_tup]
  have ec : evS g2 (.for_ (.n 3) (.rng1 (.call "_law_size" [.var 0])) bTpl) [some (.ref n), some (.ref kq), some (.ref m.length), none, none] (m ++ [.lst []]) = some (.nx, [some (.ref n), some (.ref kq), some (.ref m.length), x.1, x.2], m2) := by
    simp only [evSs, evS.eq_1, evS.eq_2, evS.eq_3, evS.eq_4, evS.eq_5, evS.eq_6, evS.eq_7, evS.eq_8, evS.eq_9, evS.eq_10, evS.eq_13, evS.eq_14, evS.eq_15, evS.eq_16, evS.eq_17, evS_for, evS_whl, evE.eq_1, evE.eq_2, evE.eq_3, evE.eq_4, evE.eq_5, evE.eq_6, evE.eq_7, evE.eq_8, evE.eq_9, evE.eq_10, evE.eq_11, evE.eq_12, evE.eq_13, evE.eq_14, evE.eq_15, evE.eq_16, evE.eq_17, evE.eq_18, evE.eq_19, evE.eq_20, evE.eq_21, evE.eq_22, evE.eq_23, evE.eq_24, evE.eq_26, evE.eq_27, evE.eq_28, evE.eq_29, evE_comp, evA, evAnd, evOr, evP, evI, tst, bindT.eq_1, bindT.eq_2, bindTs.eq_1, bindTs.eq_2, stow_val, stow_tmp, truO, bltO, bop_int, bopI, cmp_int, Nb.ix_tup, ix_frz, ix_tmp, len_tup, len_frz, len_tmp, atI_0, atI_1, atI_2, atI_3, ixN_0, ixN_1, ixN_2, Option.bind_some, Option.map_some, Option.bind_none, Option.map_none, List.getElem?_cons_zero, List.getElem?_cons_succ, List.set_cons_zero, List.set_cons_succ, List.length_cons, List.length_nil, List.length_map, if_true, if_false, decide_true, decide_false, Bool.not_true, Bool.not_false, Bool.false_eq_true, reduceIte, List.map_cons, List.map_nil, List.cons_append, List.nil_append, List.replicate, Nat.sub_self, Nat.reduceSub, Nat.reduceAdd, Int.reduceAdd, Int.reducePow, Int.reduceToNat, Int.reduceLE, Int.reduceLT, Nat.reduceLT, Nat.reduceLeDiff, Nat.reducePow, Int.reduceSub, Int.reduceMul, Int.reduceEq, Nat.reduceEqDiff, and_self, true_and, and_true, or_true, true_or, Int.reduceNeg, eq_self, cmp_str, tyO, tyD, isi_ii, isi_is, isi_bi, isi_bs, isi_ib, isi_bb, dec_self, szE, bnd_int, seq_tup, seq_frz, seq_tmp, add_tup, p_2_Lsize, e1, hr, e2]
  unfold F_Ltemplate runF s_Ltemplate
  rw [e_Ltemplate]
  show (evSs g2 [.asg (.n 2) (.lst []), .for_ (.n 3) (.rng1 (.call "_law_size" [.var 0])) bTpl, .ret _] [some (.ref n), some (.ref kq), none, none, none] m).bind _ = _
  rw [evSs.eq_2, ea, Option.bind_some, evSs.eq_2, ec, Option.bind_some]
  show (evSs g2 [.ret _] _ _).bind _ = _
  simp only [evSs, evS.eq_1, evS.eq_2, evS.eq_3, evS.eq_4, evS.eq_5, evS.eq_6, evS.eq_7, evS.eq_8, evS.eq_9, evS.eq_10, evS.eq_13, evS.eq_14, evS.eq_15, evS.eq_16, evS.eq_17, evS_for, evS_whl, evE.eq_1, evE.eq_2, evE.eq_3, evE.eq_4, evE.eq_5, evE.eq_6, evE.eq_7, evE.eq_8, evE.eq_9, evE.eq_10, evE.eq_11, evE.eq_12, evE.eq_13, evE.eq_14, evE.eq_15, evE.eq_16, evE.eq_17, evE.eq_18, evE.eq_19, evE.eq_20, evE.eq_21, evE.eq_22, evE.eq_23, evE.eq_24, evE.eq_26, evE.eq_27, evE.eq_28, evE.eq_29, evE_comp, evA, evAnd, evOr, evP, evI, tst, bindT.eq_1, bindT.eq_2, bindTs.eq_1, bindTs.eq_2, stow_val, stow_tmp, truO, bltO, bop_int, bopI, cmp_int, Nb.ix_tup, ix_frz, ix_tmp, len_tup, len_frz, len_tmp, atI_0, atI_1, atI_2, atI_3, ixN_0, ixN_1, ixN_2, Option.bind_some, Option.map_some, Option.bind_none, Option.map_none, List.getElem?_cons_zero, List.getElem?_cons_succ, List.set_cons_zero, List.set_cons_succ, List.length_cons, List.length_nil, List.length_map, if_true, if_false, decide_true, decide_false, Bool.not_true, Bool.not_false, Bool.false_eq_true, reduceIte, List.map_cons, List.map_nil, List.cons_append, List.nil_append, List.replicate, Nat.sub_self, Nat.reduceSub, Nat.reduceAdd, Int.reduceAdd, Int.reducePow, Int.reduceToNat, Int.reduceLE, Int.reduceLT, Nat.reduceLT, Nat.reduceLeDiff, Nat.reducePow, Int.reduceSub, Int.reduceMul, Int.reduceEq, Nat.reduceEqDiff, and_self, true_and, and_true, or_true, true_or, Int.reduceNeg, eq_self, cmp_str, tyO, tyD, isi_ii, isi_is, isi_bi, isi_bs, isi_ib, isi_bb, dec_self, szE, bnd_int, seq_tup, seq_frz, seq_tmp, add_tup, seq_ref h1]
end LawP

namespace LawP
open PySem PySem.Spec L2 Nb Hd
theorem ne_nil {K : List Str} (h : ¬ K = []) : K.isEmpty = false := by
  cases K with
  | nil => exact absurd rfl h
  | cons _ _ => rfl
def bE1 : List S := [.ret (.tup [.str "is", .call "_law_value" [.var 0]])]
theorem Lterm {ns : List Int} {tl : List D} {n b kq : Nat} {m : Mm} {K : List Str} (h : Tp ns tl n (b + 2) m) (eK : m[kq]? = some (.lst (K.map .str))) (hkn : kq ≠ n) (hK : ∀ x ∈ K, x ∈ NN) (hlK : K.length < 1000) :
    ∃ t m', F_Lterm [.ref n, .ref kq] m = some (.val (Tf.d t), m') ∧ Tf.ok K t ∧ (∀ x, t ≠ .next x) ∧ Go ns tl n b m m' := by
  have heq := strs_nil eK fun x hx => (okNN x (hK x hx)).1
  have run : ∀ (d : D) (m' : Mm), evSs g2 [.ife (.or [.cmp .eq (.var 1) (.lst []), .cmp .eq (.call "_law_draw" [.var 0, .int 2]) (.int 0)]) bE1 [], .ret (.tup [.str "as", .ix (.var 1) (.call "_law_draw" [.var 0, .blt .len (.var 1)])])] [some (.ref n), some (.ref kq)] m = some (.ret (.val d), [some (.ref n), some (.ref kq)], m') → F_Lterm [.ref n, .ref kq] m = some (.val d, m') := by
    intro d m' e
    unfold F_Lterm runF s_Lterm
    rw [e_Lterm]
    show (evSs g2 [.ife _ bE1 [], .ret _] [some (.ref n), some (.ref kq)] m).bind _ = _
    rw [e]
    rfl
  by_cases hk : K = []
  · obtain ⟨v, m1, e1, hv, G1⟩ := Lvalue (h.less (c := b + 1) (by omega))
    refine ⟨.is v, m1, run _ _ ?_, hv, (fun x z => nomatch z), G1⟩
    rw [hk] at heq
    unfold bE1
    simp only [evSs, evS.eq_1, evS.eq_2, evS.eq_3, evS.eq_4, evS.eq_5, evS.eq_6, evS.eq_7, evS.eq_8, evS.eq_9, evS.eq_10, evS.eq_13, evS.eq_14, evS.eq_15, evS.eq_16, evS.eq_17, evS_for, evS_whl, evE.eq_1, evE.eq_2, evE.eq_3, evE.eq_4, evE.eq_5, evE.eq_6, evE.eq_7, evE.eq_8, evE.eq_9, evE.eq_10, evE.eq_11, evE.eq_12, evE.eq_13, evE.eq_14, evE.eq_15, evE.eq_16, evE.eq_17, evE.eq_18, evE.eq_19, evE.eq_20, evE.eq_21, evE.eq_22, evE.eq_23, evE.eq_24, evE.eq_26, evE.eq_27, evE.eq_28, evE.eq_29, evE_comp, evA, evAnd, evOr, evP, evI, tst, bindT.eq_1, bindT.eq_2, bindTs.eq_1, bindTs.eq_2, stow_val, stow_tmp, truO, bltO, bop_int, bopI, cmp_int, Nb.ix_tup, ix_frz, ix_tmp, len_tup, len_frz, len_tmp, atI_0, atI_1, atI_2, atI_3, ixN_0, ixN_1, ixN_2, Option.bind_some, Option.map_some, Option.bind_none, Option.map_none, List.getElem?_cons_zero, List.getElem?_cons_succ, List.set_cons_zero, List.set_cons_succ, List.length_cons, List.length_nil, List.length_map, if_true, if_false, decide_true, decide_false, Bool.not_true, Bool.not_false, Bool.false_eq_true, reduceIte, List.map_cons, List.map_nil, List.cons_append, List.nil_append, List.replicate, Nat.sub_self, Nat.reduceSub, Nat.reduceAdd, Int.reduceAdd, Int.reducePow, Int.reduceToNat, Int.reduceLE, Int.reduceLT, Nat.reduceLT, Nat.reduceLeDiff, Nat.reducePow, Int.reduceSub, Int.reduceMul, Int.reduceEq, Nat.reduceEqDiff, and_self, true_and, and_true, or_true, true_or, Int.reduceNeg, eq_self, cmp_str, tyO, tyD, isi_ii, isi_is, isi_bi, isi_bs, isi_ib, isi_bb, dec_self, szE, bnd_int, seq_tup, seq_frz, seq_tmp, add_tup, heq, List.isEmpty_nil, p_2_Lvalue, e1, Tf.d]
  · have hne := ne_nil hk
    obtain ⟨r, m1, e1, r0, r1, G1⟩ := draw2 (b := b + 1) 2 (by decide) (by decide) h
    by_cases hr : r = 0
    · obtain ⟨v, m2, e2, hv, G2⟩ := Lvalue (b := b) G1.tp
      refine ⟨.is v, m2, run _ _ ?_, hv, (fun x z => nomatch z), G1.trans G2⟩
      unfold bE1
      simp only [evSs, evS.eq_1, evS.eq_2, evS.eq_3, evS.eq_4, evS.eq_5, evS.eq_6, evS.eq_7, evS.eq_8, evS.eq_9, evS.eq_10, evS.eq_13, evS.eq_14, evS.eq_15, evS.eq_16, evS.eq_17, evS_for, evS_whl, evE.eq_1, evE.eq_2, evE.eq_3, evE.eq_4, evE.eq_5, evE.eq_6, evE.eq_7, evE.eq_8, evE.eq_9, evE.eq_10, evE.eq_11, evE.eq_12, evE.eq_13, evE.eq_14, evE.eq_15, evE.eq_16, evE.eq_17, evE.eq_18, evE.eq_19, evE.eq_20, evE.eq_21, evE.eq_22, evE.eq_23, evE.eq_24, evE.eq_26, evE.eq_27, evE.eq_28, evE.eq_29, evE_comp, evA, evAnd, evOr, evP, evI, tst, bindT.eq_1, bindT.eq_2, bindTs.eq_1, bindTs.eq_2, stow_val, stow_tmp, truO, bltO, bop_int, bopI, cmp_int, Nb.ix_tup, ix_frz, ix_tmp, len_tup, len_frz, len_tmp, atI_0, atI_1, atI_2, atI_3, ixN_0, ixN_1, ixN_2, Option.bind_some, Option.map_some, Option.bind_none, Option.map_none, List.getElem?_cons_zero, List.getElem?_cons_succ, List.set_cons_zero, List.set_cons_succ, List.length_cons, List.length_nil, List.length_map, if_true, if_false, decide_true, decide_false, Bool.not_true, Bool.not_false, Bool.false_eq_true, reduceIte, List.map_cons, List.map_nil, List.cons_append, List.nil_append, List.replicate, Nat.sub_self, Nat.reduceSub, Nat.reduceAdd, Int.reduceAdd, Int.reducePow, Int.reduceToNat, Int.reduceLE, Int.reduceLT, Nat.reduceLT, Nat.reduceLeDiff, Nat.reducePow, Int.reduceSub, Int.reduceMul, Int.reduceEq, Nat.reduceEqDiff, and_self, true_and, and_true, or_true, true_or, Int.reduceNeg, eq_self, cmp_str, tyO, tyD, isi_ii, isi_is, isi_bi, isi_bs, isi_ib, isi_bb, dec_self, szE, bnd_int, seq_tup, seq_frz, seq_tmp, add_tup, heq, hne, p_2_Ldraw, p_2_Lvalue, e1, hr, e2, Tf.d]
    · have hpos : (0 : Int) < (K.length : Int) := by
        have := List.length_pos_iff.mpr hk
        omega
      obtain ⟨s, m3, e3, s0, s1, G3⟩ := draw2 (b := b) (K.length : Int) hpos (by omega) G1.tp
      obtain ⟨w, hw, hm, _⟩ := atI_lt (l := K.map D.str) s0 (by rw [List.length_map]; exact s1)
      obtain ⟨x, hx, rfl⟩ := List.mem_map.mp hm
      have k1 := G1.ex.get eK hkn
      have k3 := G3.ex.get k1 hkn
      refine ⟨.as_ x, m3, run _ _ ?_, hx, (fun x z => nomatch z), G1.trans G3⟩
      rw [show bE1 = id bE1 from rfl]
      simp only [evSs, evS.eq_1, evS.eq_2, evS.eq_3, evS.eq_4, evS.eq_5, evS.eq_6, evS.eq_7, evS.eq_8, evS.eq_9, evS.eq_10, evS.eq_13, evS.eq_14, evS.eq_15, evS.eq_16, evS.eq_17, evS_for, evS_whl, evE.eq_1, evE.eq_2, evE.eq_3, evE.eq_4, evE.eq_5, evE.eq_6, evE.eq_7, evE.eq_8, evE.eq_9, evE.eq_10, evE.eq_11, evE.eq_12, evE.eq_13, evE.eq_14, evE.eq_15, evE.eq_16, evE.eq_17, evE.eq_18, evE.eq_19, evE.eq_20, evE.eq_21, evE.eq_22, evE.eq_23, evE.eq_24, evE.eq_26, evE.eq_27, evE.eq_28, evE.eq_29, evE_comp, evA, evAnd, evOr, evP, evI, tst, bindT.eq_1, bindT.eq_2, bindTs.eq_1, bindTs.eq_2, stow_val, stow_tmp, truO, bltO, bop_int, bopI, cmp_int, Nb.ix_tup, ix_frz, ix_tmp, len_tup, len_frz, len_tmp, atI_0, atI_1, atI_2, atI_3, ixN_0, ixN_1, ixN_2, Option.bind_some, Option.map_some, Option.bind_none, Option.map_none, List.getElem?_cons_zero, List.getElem?_cons_succ, List.set_cons_zero, List.set_cons_succ, List.length_cons, List.length_nil, List.length_map, if_true, if_false, decide_true, decide_false, Bool.not_true, Bool.not_false, Bool.false_eq_true, reduceIte, List.map_cons, List.map_nil, List.cons_append, List.nil_append, List.replicate, Nat.sub_self, Nat.reduceSub, Nat.reduceAdd, Int.reduceAdd, Int.reducePow, Int.reduceToNat, Int.reduceLE, Int.reduceLT, Nat.reduceLT, Nat.reduceLeDiff, Nat.reducePow, Int.reduceSub, Int.reduceMul, Int.reduceEq, Nat.reduceEqDiff, and_self, true_and, and_true, or_true, true_or, Int.reduceNeg, eq_self, cmp_str, tyO, tyD, isi_ii, isi_is, isi_bi, isi_bs, isi_ib, isi_bb, dec_self, szE, bnd_int, seq_tup, seq_frz, seq_tmp, add_tup, heq, hne, p_2_Ldraw, e1, hr, len_lst k1, e3, ix_lst k3, hw, Tf.d]
/-! acts -/
def bA1 : List S := [.ret (.tup [.tup [.str "lay", .call "_law_template" [.var 0, .var 1], .call "_law_age" [.var 0]], .lst []])]
def bA2 : List S := [.ret (.tup [.tup [.str "same", .call "_law_term" [.var 0, .var 1], .call "_law_term" [.var 0, .var 1], .var 4], .lst []])]
def bA3 : List S := [.ret (.tup [.tup [.str "go", .var 4], .lst []])]
def bA4 : List S := [.ret (.tup [.tup [.str "look", .var 5, .var 4], .var 6])]
def zA : E := .tup [.tup [.ix (.lst [.str "take", .str "take", .str "take", .str "read"]) (.bop .sub (.var 3) (.int 4)), .var 5], .var 6]
def sP : S := .asg (.t [.n 5, .n 6]) (.call "_law_pattern" [.var 0, .var 1])
def sAct : List S := [
  .asg (.n 3) (.call "_law_draw" [.var 0, .int 12]), 
  .ife (.cmp .lt (.var 3) (.int 4)) bA1 [], 
  .asg (.n 4) (.ix (.var 2) (.call "_law_draw" [.var 0, .blt .len (.var 2)])), 
  .ife (.cmp .eq (.var 3) (.int 10)) bA2 [], 
  .ife (.cmp .eq (.var 3) (.int 11)) bA3 [], 
  sP, 
  .ife (.cmp .gt (.var 3) (.int 7)) bA4 [], 
  .ret zA]
theorem nne {ns : List Int} {tl : List D} {n b : Nat} {m : Mm} (h : Tp ns tl n b m) {q : Nat} (hq : m.length ≤ q) : q ≠ n := by
  have := h.lt
  omega
theorem Lact {ns : List Int} {n b kq oq aq : Nat} {m : Mm} {K : List Str} {Os : List Int} (h : Tp ns [.ref aq] n (b + 12) m) (ha : m[aq]? = some (.lst AGES)) (han : aq ≠ n) (eK : m[kq]? = some (.lst (K.map .str))) (hkn : kq ≠ n) (hK : ∀ x ∈ K, x ∈ NN) (hlK : K.length < 1000)
    (eO : m[oq]? = some (.lst (Os.map .int))) (hon : oq ≠ n) (hO : Os ≠ []) (hlO : Os.length < 1000) :
    ∃ (a : Act), ∃ B m', F_Lact [.ref n, .ref kq, .ref oq] m = some (.val (.tup [a.d, .ref B]), m') ∧ Act.ok K Os a ∧ m'[B]? = some (.lst (a.bnd.map .str)) ∧ m.length ≤ B ∧ Off n B m' ∧ Go ns [.ref aq] n b m m' := by
  have run : ∀ (d : D) (fr : Fr) (m' : Mm), evSs g3 sAct [some (.ref n), some (.ref kq), some (.ref oq), none, none, none, none] m = some (.ret (.val d), fr, m') → F_Lact [.ref n, .ref kq, .ref oq] m = some (.val d, m') := by
    intro d fr m' e
    unfold F_Lact runF s_Lact
    rw [e_Lact]
    show (evSs g3 sAct [some (.ref n), some (.ref kq), some (.ref oq), none, none, none, none] m).bind _ = _
    rw [e]
    rfl
  obtain ⟨r, m1, e1, r0, r1, G1⟩ := draw2 (b := b + 11) 12 (by decide) (by decide) h
  have k1 := G1.ex.get eK hkn
  have a1 := G1.ex.get ha han
  have o1 := G1.ex.get eO hon
  by_cases h4 : r < 4
  · obtain ⟨t, m2, e2, ht, G2⟩ := Ltemplate (b := b + 2) G1.tp k1 hkn hK hlK
    obtain ⟨g, m3, e3, hg, G3⟩ := Lage (b := b) (G2.tp.less (by omega)) (G2.ex.get a1 han) han
    have G4 := Go.app G3.tp (a := [.lst []])
    have G := ((G1.trans G2).trans G3).trans G4
    refine ⟨.lay t g, m3.length, m3 ++ [.lst []], run _ [some (.ref n), some (.ref kq), some (.ref oq), some (.int r), none, none, none] _ ?_, ⟨ht, hg⟩, get_new, ((G1.trans G2).trans G3).ex.1, Off.new G3.tp, G⟩
    unfold sAct bA1
    rw [show bA2 = id bA2 from rfl, show bA3 = id bA3 from rfl, show bA4 = id bA4 from rfl, show zA = id zA from rfl]
    simp only [evSs, evS.eq_1, evS.eq_2, evS.eq_3, evS.eq_4, evS.eq_5, evS.eq_6, evS.eq_7, evS.eq_8, evS.eq_9, evS.eq_10, evS.eq_13, evS.eq_14, evS.eq_15, evS.eq_16, evS.eq_17, evS_for, evS_whl, evE.eq_1, evE.eq_2, evE.eq_3, evE.eq_4, evE.eq_5, evE.eq_6, evE.eq_7, evE.eq_8, evE.eq_9, evE.eq_10, evE.eq_11, evE.eq_12, evE.eq_13, evE.eq_14, evE.eq_15, evE.eq_16, evE.eq_17, evE.eq_18, evE.eq_19, evE.eq_20, evE.eq_21, evE.eq_22, evE.eq_23, evE.eq_24, evE.eq_26, evE.eq_27, evE.eq_28, evE.eq_29, evE_comp, evA, evAnd, evOr, evP, evI, tst, bindT.eq_1, bindT.eq_2, bindTs.eq_1, bindTs.eq_2, stow_val, stow_tmp, truO, bltO, bop_int, bopI, cmp_int, Nb.ix_tup, ix_frz, ix_tmp, len_tup, len_frz, len_tmp, atI_0, atI_1, atI_2, atI_3, ixN_0, ixN_1, ixN_2, Option.bind_some, Option.map_some, Option.bind_none, Option.map_none, List.getElem?_cons_zero, List.getElem?_cons_succ, List.set_cons_zero, List.set_cons_succ, List.length_cons, List.length_nil, List.length_map, if_true, if_false, decide_true, decide_false, Bool.not_true, Bool.not_false, Bool.false_eq_true, reduceIte, List.map_cons, List.map_nil, List.cons_append, List.nil_append, List.replicate, Nat.sub_self, Nat.reduceSub, Nat.reduceAdd, Int.reduceAdd, Int.reducePow, Int.reduceToNat, Int.reduceLE, Int.reduceLT, Nat.reduceLT, Nat.reduceLeDiff, Nat.reducePow, Int.reduceSub, Int.reduceMul, Int.reduceEq, Nat.reduceEqDiff, and_self, true_and, and_true, or_true, true_or, Int.reduceNeg, eq_self, cmp_str, tyO, tyD, isi_ii, isi_is, isi_bi, isi_bs, isi_ib, isi_bb, dec_self, szE, bnd_int, seq_tup, seq_frz, seq_tmp, add_tup, p_3_Ldraw, p_3_Ltemplate, p_3_Lage, e1, h4, e2, e3, Act.d]
  · have hpos : (0 : Int) < (Os.length : Int) := by
      have := List.length_pos_iff.mpr hO
      omega
    obtain ⟨s, m2, e2, s0, s1, G2⟩ := draw2 (b := b + 10) (Os.length : Int) hpos (by omega) G1.tp
    obtain ⟨w, hw, hm, _⟩ := atI_lt (l := Os.map D.int) s0 (by rw [List.length_map]; exact s1)
    obtain ⟨bk, hb, rfl⟩ := List.mem_map.mp hm
    have o2 := G2.ex.get o1 hon
    have k2 := G2.ex.get k1 hkn
    have G12 := G1.trans G2
    have eS : ∀ (d : D) (fr : Fr) (m' : Mm), evSs g3 [.ife (.cmp .eq (.var 3) (.int 10)) bA2 [], .ife (.cmp .eq (.var 3) (.int 11)) bA3 [], sP, .ife (.cmp .gt (.var 3) (.int 7)) bA4 [], .ret zA] [some (.ref n), some (.ref kq), some (.ref oq), some (.int r), some (.int bk), none, none] m2 = some (.ret (.val d), fr, m') → F_Lact [.ref n, .ref kq, .ref oq] m = some (.val d, m') := by
      intro d fr m' e
      refine run d fr m' ?_
      have ea : evS g3 (.asg (.n 3) (.call "_law_draw" [.var 0, .int 12])) [some (.ref n), some (.ref kq), some (.ref oq), none, none, none, none] m = some (.nx, [some (.ref n), some (.ref kq), some (.ref oq), some (.int r), none, none, none], m1) := by
        simp only [evSs, evS.eq_1, evS.eq_2, evS.eq_3, evS.eq_4, evS.eq_5, evS.eq_6, evS.eq_7, evS.eq_8, evS.eq_9, evS.eq_10, evS.eq_13, evS.eq_14, evS.eq_15, evS.eq_16, evS.eq_17, evS_for, evS_whl, evE.eq_1, evE.eq_2, evE.eq_3, evE.eq_4, evE.eq_5, evE.eq_6, evE.eq_7, evE.eq_8, evE.eq_9, evE.eq_10, evE.eq_11, evE.eq_12, evE.eq_13, evE.eq_14, evE.eq_15, evE.eq_16, evE.eq_17, evE.eq_18, evE.eq_19, evE.eq_20, evE.eq_21, evE.eq_22, evE.eq_23, evE.eq_24, evE.eq_26, evE.eq_27, evE.eq_28, evE.eq_29, evE_comp, evA, evAnd, evOr, evP, evI, tst, bindT.eq_1, bindT.eq_2, bindTs.eq_1, bindTs.eq_2, stow_val, stow_tmp, truO, bltO, bop_int, bopI, cmp_int, Nb.ix_tup, ix_frz, ix_tmp, len_tup, len_frz, len_tmp, atI_0, atI_1, atI_2, atI_3, ixN_0, ixN_1, ixN_2, Option.bind_some, Option.map_some, Option.bind_none, Option.map_none, List.getElem?_cons_zero, List.getElem?_cons_succ, List.set_cons_zero, List.set_cons_succ, List.length_cons, List.length_nil, List.length_map, if_true, if_false, decide_true, decide_false, Bool.not_true, Bool.not_false, Bool.false_eq_true, reduceIte, List.map_cons, List.map_nil, List.cons_append, List.nil_append, List.replicate, Nat.sub_self, Nat.reduceSub, Nat.reduceAdd, Int.reduceAdd, Int.reducePow, Int.reduceToNat, Int.reduceLE, Int.reduceLT, Nat.reduceLT, Nat.reduceLeDiff, Nat.reducePow, Int.reduceSub, Int.reduceMul, Int.reduceEq, Nat.reduceEqDiff, and_self, true_and, and_true, or_true, true_or, Int.reduceNeg, eq_self, cmp_str, tyO, tyD, isi_ii, isi_is, isi_bi, isi_bs, isi_ib, isi_bb, dec_self, szE, bnd_int, seq_tup, seq_frz, seq_tmp, add_tup, p_3_Ldraw, e1]
      have eb : evS g3 (.ife (.cmp .lt (.var 3) (.int 4)) bA1 []) [some (.ref n), some (.ref kq), some (.ref oq), some (.int r), none, none, none] m1 = some (.nx, [some (.ref n), some (.ref kq), some (.ref oq), some (.int r), none, none, none], m1) := by
        rw [show bA1 = id bA1 from rfl]
        simp only [evSs, evS.eq_1, evS.eq_2, evS.eq_3, evS.eq_4, evS.eq_5, evS.eq_6, evS.eq_7, evS.eq_8, evS.eq_9, evS.eq_10, evS.eq_13, evS.eq_14, evS.eq_15, evS.eq_16, evS.eq_17, evS_for, evS_whl, evE.eq_1, evE.eq_2, evE.eq_3, evE.eq_4, evE.eq_5, evE.eq_6, evE.eq_7, evE.eq_8, evE.eq_9, evE.eq_10, evE.eq_11, evE.eq_12, evE.eq_13, evE.eq_14, evE.eq_15, evE.eq_16, evE.eq_17, evE.eq_18, evE.eq_19, evE.eq_20, evE.eq_21, evE.eq_22, evE.eq_23, evE.eq_24, evE.eq_26, evE.eq_27, evE.eq_28, evE.eq_29, evE_comp, evA, evAnd, evOr, evP, evI, tst, bindT.eq_1, bindT.eq_2, bindTs.eq_1, bindTs.eq_2, stow_val, stow_tmp, truO, bltO, bop_int, bopI, cmp_int, Nb.ix_tup, ix_frz, ix_tmp, len_tup, len_frz, len_tmp, atI_0, atI_1, atI_2, atI_3, ixN_0, ixN_1, ixN_2, Option.bind_some, Option.map_some, Option.bind_none, Option.map_none, List.getElem?_cons_zero, List.getElem?_cons_succ, List.set_cons_zero, List.set_cons_succ, List.length_cons, List.length_nil, List.length_map, if_true, if_false, decide_true, decide_false, Bool.not_true, Bool.not_false, Bool.false_eq_true, reduceIte, List.map_cons, List.map_nil, List.cons_append, List.nil_append, List.replicate, Nat.sub_self, Nat.reduceSub, Nat.reduceAdd, Int.reduceAdd, Int.reducePow, Int.reduceToNat, Int.reduceLE, Int.reduceLT, Nat.reduceLT, Nat.reduceLeDiff, Nat.reducePow, Int.reduceSub, Int.reduceMul, Int.reduceEq, Nat.reduceEqDiff, and_self, true_and, and_true, or_true, true_or, Int.reduceNeg, eq_self, cmp_str, tyO, tyD, isi_ii, isi_is, isi_bi, isi_bs, isi_ib, isi_bb, dec_self, szE, bnd_int, seq_tup, seq_frz, seq_tmp, add_tup, h4]
      have ec : evS g3 (.asg (.n 4) (.ix (.var 2) (.call "_law_draw" [.var 0, .blt .len (.var 2)]))) [some (.ref n), some (.ref kq), some (.ref oq), some (.int r), none, none, none] m1 = some (.nx, [some (.ref n), some (.ref kq), some (.ref oq), some (.int r), some (.int bk), none, none], m2) := by
        simp only [evSs, evS.eq_1, evS.eq_2, evS.eq_3, evS.eq_4, evS.eq_5, evS.eq_6, evS.eq_7, evS.eq_8, evS.eq_9, evS.eq_10, evS.eq_13, evS.eq_14, evS.eq_15, evS.eq_16, evS.eq_17, evS_for, evS_whl, evE.eq_1, evE.eq_2, evE.eq_3, evE.eq_4, evE.eq_5, evE.eq_6, evE.eq_7, evE.eq_8, evE.eq_9, evE.eq_10, evE.eq_11, evE.eq_12, evE.eq_13, evE.eq_14, evE.eq_15, evE.eq_16, evE.eq_17, evE.eq_18, evE.eq_19, evE.eq_20, evE.eq_21, evE.eq_22, evE.eq_23, evE.eq_24, evE.eq_26, evE.eq_27, evE.eq_28, evE.eq_29, evE_comp, evA, evAnd, evOr, evP, evI, tst, bindT.eq_1, bindT.eq_2, bindTs.eq_1, bindTs.eq_2, stow_val, stow_tmp, truO, bltO, bop_int, bopI, cmp_int, Nb.ix_tup, ix_frz, ix_tmp, len_tup, len_frz, len_tmp, atI_0, atI_1, atI_2, atI_3, ixN_0, ixN_1, ixN_2, Option.bind_some, Option.map_some, Option.bind_none, Option.map_none, List.getElem?_cons_zero, List.getElem?_cons_succ, List.set_cons_zero, List.set_cons_succ, List.length_cons, List.length_nil, List.length_map, if_true, if_false, decide_true, decide_false, Bool.not_true, Bool.not_false, Bool.false_eq_true, reduceIte, List.map_cons, List.map_nil, List.cons_append, List.nil_append, List.replicate, Nat.sub_self, Nat.reduceSub, Nat.reduceAdd, Int.reduceAdd, Int.reducePow, Int.reduceToNat, Int.reduceLE, Int.reduceLT, Nat.reduceLT, Nat.reduceLeDiff, Nat.reducePow, Int.reduceSub, Int.reduceMul, Int.reduceEq, Nat.reduceEqDiff, and_self, true_and, and_true, or_true, true_or, Int.reduceNeg, eq_self, cmp_str, tyO, tyD, isi_ii, isi_is, isi_bi, isi_bs, isi_ib, isi_bb, dec_self, szE, bnd_int, seq_tup, seq_frz, seq_tmp, add_tup, p_3_Ldraw, len_lst o1, e2, ix_lst o2, hw]
      unfold sAct
      rw [evSs.eq_2, ea, Option.bind_some, evSs.eq_2, eb, Option.bind_some, evSs.eq_2, ec, Option.bind_some]
      exact e
    by_cases h10 : r = 10
    · obtain ⟨t1, m3, e3, ht1, _, G3⟩ := Lterm (b := b + 2) (G2.tp.less (by omega)) k2 hkn hK hlK
      obtain ⟨t2, m4, e4, ht2, _, G4⟩ := Lterm (b := b) G3.tp (G3.ex.get k2 hkn) hkn hK hlK
      have G5 := Go.app G4.tp (a := [.lst []])
      refine ⟨.same t1 t2 bk, m4.length, m4 ++ [.lst []], eS _ [some (.ref n), some (.ref kq), some (.ref oq), some (.int r), some (.int bk), none, none] _ ?_, ⟨ht1, ht2, hb⟩, get_new, ((G12.trans G3).trans G4).ex.1, Off.new G4.tp, ((G12.trans G3).trans G4).trans G5⟩
      unfold bA2
      rw [show bA3 = id bA3 from rfl, show bA4 = id bA4 from rfl, show zA = id zA from rfl]
      simp only [evSs, evS.eq_1, evS.eq_2, evS.eq_3, evS.eq_4, evS.eq_5, evS.eq_6, evS.eq_7, evS.eq_8, evS.eq_9, evS.eq_10, evS.eq_13, evS.eq_14, evS.eq_15, evS.eq_16, evS.eq_17, evS_for, evS_whl, evE.eq_1, evE.eq_2, evE.eq_3, evE.eq_4, evE.eq_5, evE.eq_6, evE.eq_7, evE.eq_8, evE.eq_9, evE.eq_10, evE.eq_11, evE.eq_12, evE.eq_13, evE.eq_14, evE.eq_15, evE.eq_16, evE.eq_17, evE.eq_18, evE.eq_19, evE.eq_20, evE.eq_21, evE.eq_22, evE.eq_23, evE.eq_24, evE.eq_26, evE.eq_27, evE.eq_28, evE.eq_29, evE_comp, evA, evAnd, evOr, evP, evI, tst, bindT.eq_1, bindT.eq_2, bindTs.eq_1, bindTs.eq_2, stow_val, stow_tmp, truO, bltO, bop_int, bopI, cmp_int, Nb.ix_tup, ix_frz, ix_tmp, len_tup, len_frz, len_tmp, atI_0, atI_1, atI_2, atI_3, ixN_0, ixN_1, ixN_2, Option.bind_some, Option.map_some, Option.bind_none, Option.map_none, List.getElem?_cons_zero, List.getElem?_cons_succ, List.set_cons_zero, List.set_cons_succ, List.length_cons, List.length_nil, List.length_map, if_true, if_false, decide_true, decide_false, Bool.not_true, Bool.not_false, Bool.false_eq_true, reduceIte, List.map_cons, List.map_nil, List.cons_append, List.nil_append, List.replicate, Nat.sub_self, Nat.reduceSub, Nat.reduceAdd, Int.reduceAdd, Int.reducePow, Int.reduceToNat, Int.reduceLE, Int.reduceLT, Nat.reduceLT, Nat.reduceLeDiff, Nat.reducePow, Int.reduceSub, Int.reduceMul, Int.reduceEq, Nat.reduceEqDiff, and_self, true_and, and_true, or_true, true_or, Int.reduceNeg, eq_self, cmp_str, tyO, tyD, isi_ii, isi_is, isi_bi, isi_bs, isi_ib, isi_bb, dec_self, szE, bnd_int, seq_tup, seq_frz, seq_tmp, add_tup, p_3_Lterm, h10, e3, e4, Act.d]
    · by_cases h11 : r = 11
      · have G5 := Go.app (G2.tp.less (c := b) (by omega)) (a := [.lst []])
        refine ⟨.go bk, m2.length, m2 ++ [.lst []], eS _ [some (.ref n), some (.ref kq), some (.ref oq), some (.int r), some (.int bk), none, none] _ ?_, hb, get_new, G12.ex.1, Off.new (G2.tp.less (c := b) (by omega)), G12.trans G5⟩
        unfold bA3
        rw [show bA2 = id bA2 from rfl, show bA4 = id bA4 from rfl, show zA = id zA from rfl]
        simp only [evSs, evS.eq_1, evS.eq_2, evS.eq_3, evS.eq_4, evS.eq_5, evS.eq_6, evS.eq_7, evS.eq_8, evS.eq_9, evS.eq_10, evS.eq_13, evS.eq_14, evS.eq_15, evS.eq_16, evS.eq_17, evS_for, evS_whl, evE.eq_1, evE.eq_2, evE.eq_3, evE.eq_4, evE.eq_5, evE.eq_6, evE.eq_7, evE.eq_8, evE.eq_9, evE.eq_10, evE.eq_11, evE.eq_12, evE.eq_13, evE.eq_14, evE.eq_15, evE.eq_16, evE.eq_17, evE.eq_18, evE.eq_19, evE.eq_20, evE.eq_21, evE.eq_22, evE.eq_23, evE.eq_24, evE.eq_26, evE.eq_27, evE.eq_28, evE.eq_29, evE_comp, evA, evAnd, evOr, evP, evI, tst, bindT.eq_1, bindT.eq_2, bindTs.eq_1, bindTs.eq_2, stow_val, stow_tmp, truO, bltO, bop_int, bopI, cmp_int, Nb.ix_tup, ix_frz, ix_tmp, len_tup, len_frz, len_tmp, atI_0, atI_1, atI_2, atI_3, ixN_0, ixN_1, ixN_2, Option.bind_some, Option.map_some, Option.bind_none, Option.map_none, List.getElem?_cons_zero, List.getElem?_cons_succ, List.set_cons_zero, List.set_cons_succ, List.length_cons, List.length_nil, List.length_map, if_true, if_false, decide_true, decide_false, Bool.not_true, Bool.not_false, Bool.false_eq_true, reduceIte, List.map_cons, List.map_nil, List.cons_append, List.nil_append, List.replicate, Nat.sub_self, Nat.reduceSub, Nat.reduceAdd, Int.reduceAdd, Int.reducePow, Int.reduceToNat, Int.reduceLE, Int.reduceLT, Nat.reduceLT, Nat.reduceLeDiff, Nat.reducePow, Int.reduceSub, Int.reduceMul, Int.reduceEq, Nat.reduceEqDiff, and_self, true_and, and_true, or_true, true_or, Int.reduceNeg, eq_self, cmp_str, tyO, tyD, isi_ii, isi_is, isi_bi, isi_bs, isi_ib, isi_bb, dec_self, szE, bnd_int, seq_tup, seq_frz, seq_tmp, add_tup, h10, h11, Act.d]
      · obtain ⟨fs, B, m3, e3, hp, q1, q2, q3, G3⟩ := Lpattern (b := b) (G2.tp.less (by omega)) k2 hkn hK hlK
        have hB : m.length ≤ B := Nat.le_trans G12.ex.1 q2
        by_cases h7 : 7 < r
        · refine ⟨.look fs bk, B, m3, eS _ [some (.ref n), some (.ref kq), some (.ref oq), some (.int r), some (.int bk), some (.tup (fs.map Fd.d)), some (.ref B)] _ ?_, ⟨hp, hb⟩, q1, hB, q3, G12.trans G3⟩
          unfold bA4 sP
          rw [show bA2 = id bA2 from rfl, show bA3 = id bA3 from rfl, show zA = id zA from rfl]
          simp only [evSs, evS.eq_1, evS.eq_2, evS.eq_3, evS.eq_4, evS.eq_5, evS.eq_6, evS.eq_7, evS.eq_8, evS.eq_9, evS.eq_10, evS.eq_13, evS.eq_14, evS.eq_15, evS.eq_16, evS.eq_17, evS_for, evS_whl, evE.eq_1, evE.eq_2, evE.eq_3, evE.eq_4, evE.eq_5, evE.eq_6, evE.eq_7, evE.eq_8, evE.eq_9, evE.eq_10, evE.eq_11, evE.eq_12, evE.eq_13, evE.eq_14, evE.eq_15, evE.eq_16, evE.eq_17, evE.eq_18, evE.eq_19, evE.eq_20, evE.eq_21, evE.eq_22, evE.eq_23, evE.eq_24, evE.eq_26, evE.eq_27, evE.eq_28, evE.eq_29, evE_comp, evA, evAnd, evOr, evP, evI, tst, bindT.eq_1, bindT.eq_2, bindTs.eq_1, bindTs.eq_2, stow_val, stow_tmp, truO, bltO, bop_int, bopI, cmp_int, Nb.ix_tup, ix_frz, ix_tmp, len_tup, len_frz, len_tmp, atI_0, atI_1, atI_2, atI_3, ixN_0, ixN_1, ixN_2, Option.bind_some, Option.map_some, Option.bind_none, Option.map_none, List.getElem?_cons_zero, List.getElem?_cons_succ, List.set_cons_zero, List.set_cons_succ, List.length_cons, List.length_nil, List.length_map, if_true, if_false, decide_true, decide_false, Bool.not_true, Bool.not_false, Bool.false_eq_true, reduceIte, List.map_cons, List.map_nil, List.cons_append, List.nil_append, List.replicate, Nat.sub_self, Nat.reduceSub, Nat.reduceAdd, Int.reduceAdd, Int.reducePow, Int.reduceToNat, Int.reduceLE, Int.reduceLT, Nat.reduceLT, Nat.reduceLeDiff, Nat.reducePow, Int.reduceSub, Int.reduceMul, Int.reduceEq, Nat.reduceEqDiff, and_self, true_and, and_true, or_true, true_or, Int.reduceNeg, eq_self, cmp_str, tyO, tyD, isi_ii, isi_is, isi_bi, isi_bs, isi_ib, isi_bb, dec_self, szE, bnd_int, seq_tup, seq_frz, seq_tmp, add_tup, h10, h11, p_3_Lpattern, e3, h7, Act.d]
        · obtain ⟨wd, a, hwd, had, hao, hbd⟩ : ∃ wd a, atI [D.str "take", .str "take", .str "take", .str "read"] (r - 4) = some (.str wd) ∧ Act.d a = .tup [.str wd, .tup (fs.map Fd.d)] ∧ Act.ok K Os a ∧ a.bnd = bnds fs := by
            have : r = 4 ∨ r = 5 ∨ r = 6 ∨ r = 7 := by omega
            rcases this with rfl | rfl | rfl | rfl
            · exact ⟨_, .take fs, rfl, rfl, hp, rfl⟩
            · exact ⟨_, .take fs, rfl, rfl, hp, rfl⟩
            · exact ⟨_, .take fs, rfl, rfl, hp, rfl⟩
            · exact ⟨_, .read fs, rfl, rfl, hp, rfl⟩
          refine ⟨a, B, m3, eS _ [some (.ref n), some (.ref kq), some (.ref oq), some (.int r), some (.int bk), some (.tup (fs.map Fd.d)), some (.ref B)] _ ?_, hao, by rw [hbd]; exact q1, hB, q3, G12.trans G3⟩
          unfold zA sP
          rw [had, show bA2 = id bA2 from rfl, show bA3 = id bA3 from rfl, show bA4 = id bA4 from rfl]
          simp only [evSs, evS.eq_1, evS.eq_2, evS.eq_3, evS.eq_4, evS.eq_5, evS.eq_6, evS.eq_7, evS.eq_8, evS.eq_9, evS.eq_10, evS.eq_13, evS.eq_14, evS.eq_15, evS.eq_16, evS.eq_17, evS_for, evS_whl, evE.eq_1, evE.eq_2, evE.eq_3, evE.eq_4, evE.eq_5, evE.eq_6, evE.eq_7, evE.eq_8, evE.eq_9, evE.eq_10, evE.eq_11, evE.eq_12, evE.eq_13, evE.eq_14, evE.eq_15, evE.eq_16, evE.eq_17, evE.eq_18, evE.eq_19, evE.eq_20, evE.eq_21, evE.eq_22, evE.eq_23, evE.eq_24, evE.eq_26, evE.eq_27, evE.eq_28, evE.eq_29, evE_comp, evA, evAnd, evOr, evP, evI, tst, bindT.eq_1, bindT.eq_2, bindTs.eq_1, bindTs.eq_2, stow_val, stow_tmp, truO, bltO, bop_int, bopI, cmp_int, Nb.ix_tup, ix_frz, ix_tmp, len_tup, len_frz, len_tmp, atI_0, atI_1, atI_2, atI_3, ixN_0, ixN_1, ixN_2, Option.bind_some, Option.map_some, Option.bind_none, Option.map_none, List.getElem?_cons_zero, List.getElem?_cons_succ, List.set_cons_zero, List.set_cons_succ, List.length_cons, List.length_nil, List.length_map, if_true, if_false, decide_true, decide_false, Bool.not_true, Bool.not_false, Bool.false_eq_true, reduceIte, List.map_cons, List.map_nil, List.cons_append, List.nil_append, List.replicate, Nat.sub_self, Nat.reduceSub, Nat.reduceAdd, Int.reduceAdd, Int.reducePow, Int.reduceToNat, Int.reduceLE, Int.reduceLT, Nat.reduceLT, Nat.reduceLeDiff, Nat.reducePow, Int.reduceSub, Int.reduceMul, Int.reduceEq, Nat.reduceEqDiff, and_self, true_and, and_true, or_true, true_or, Int.reduceNeg, eq_self, cmp_str, tyO, tyD, isi_ii, isi_is, isi_bi, isi_bs, isi_ib, isi_bb, dec_self, szE, bnd_int, seq_tup, seq_frz, seq_tmp, add_tup, h10, h11, p_3_Lpattern, e3, h7, hwd]
end LawP

namespace LawP
open PySem PySem.Spec L2 Nb Hd
def wD (w : List Str) : D := .tup (w.map .str)
def addN (K : List Str) : List Str → List Str
  | [] => K
  | x :: r => addN (if x ∈ K then K else K ++ [x]) r
theorem addN_len : ∀ {xs K : List Str}, (addN K xs).length ≤ K.length + xs.length
  | [], K => Nat.le_refl _
  | x :: r, K => by
    have h := addN_len (xs := r) (K := if x ∈ K then K else K ++ [x])
    unfold addN
    rw [List.length_cons]
    split at h
    · rw [if_pos (by assumption)]
      omega
    · rw [if_neg (by assumption)]
      rw [List.length_append, List.length_singleton] at h
      omega
theorem addN_nn : ∀ {xs K : List Str}, (∀ x ∈ K, x ∈ NN) → (∀ x ∈ xs, x ∈ NN) → ∀ x ∈ addN K xs, x ∈ NN
  | [], K, h, _ => h
  | x :: r, K, h, hx => by
    unfold addN
    refine addN_nn (fun y hy => ?_) fun y hy => hx y (List.mem_cons_of_mem _ hy)
    split at hy
    · exact h y hy
    · rcases List.mem_append.mp hy with hy | hy
      · exact h y hy
      · rw [List.mem_singleton.mp hy]
        exact hx x List.mem_cons_self
/-- the block whose names are known all -/
def openB (WS : List (List Str)) (K : List Str) (b : Nat) : Bool := (WS.getD b []).all fun x => decide (x ∈ K)
def opens (WS : List (List Str)) (K : List Str) : List Int := ((List.range WS.length).filter (openB WS K)).map fun (k : Nat) => (k : Int)
def actsOk (WS : List (List Str)) : List Str → List Act → Prop
  | _, [] => True
  | K, a :: r => Act.ok K (opens WS K) a ∧ actsOk WS (addN K a.bnd) r
def kn (K : List Str) (as : List Act) : List Str := as.foldl (fun K a => addN K a.bnd) K
theorem kn_snoc {K : List Str} {as : List Act} {a : Act} : kn K (as ++ [a]) = addN (kn K as) a.bnd := by
  unfold kn
  rw [List.foldl_append]
  rfl
theorem actsOk_snoc {WS : List (List Str)} : ∀ {as : List Act} {K : List Str} {a : Act}, actsOk WS K as → Act.ok (kn K as) (opens WS (kn K as)) a → actsOk WS K (as ++ [a])
  | [], K, a, _, h => ⟨h, trivial⟩
  | b :: as, K, a, hs, h => ⟨hs.1, actsOk_snoc hs.2 h⟩
theorem Act.bnd_ok {K : List Str} {Os : List Int} {a : Act} (h : Act.ok K Os a) : (∀ x ∈ a.bnd, x ∈ NN) ∧ a.bnd.length ≤ 4 := by
  cases a with
  | look p b => exact ⟨bnds_nn h.1.ok, Nat.le_trans bnds_len h.1.hi⟩
  | take p => exact ⟨bnds_nn (PatOk.ok h), Nat.le_trans bnds_len (PatOk.hi h)⟩
  | read p => exact ⟨bnds_nn (PatOk.ok h), Nat.le_trans bnds_len (PatOk.hi h)⟩
  | _ => exact ⟨(fun x hx => nomatch hx), Nat.zero_le _⟩
/-! the blocks that are open -/
def cIn : E := .comp (.var 8) (.n 8) (.e (.ix (.var 1) (.var 11))) [.cmp .notin (.var 8) (.var 5)] [8]
def cOp : E := .cmp .eq cIn (.lst [])
def eOpen : E := .comp (.var 11) (.n 11) (.rng1 (.blt .len (.var 1))) [cOp] [11]
theorem cOp_run {n W Kq : Nat} {m : Mm} {WS : List (List Str)} {K : List Str} {x2 x3 x4 x6 x7 x8 x9 x10 : Option D} {b : Nat} (hb : b < WS.length) (hW : m[W]? = some (.lst (WS.map wD))) (hKq : m[Kq]? = some (.lst (K.map .str))) (hK : ∀ x ∈ K, x ∈ NN) (hWS : ∀ w ∈ WS, (∀ x ∈ w, x ∈ NN) ∧ w.length ≤ 2) :
    evE g4 cOp [some (.ref n), some (.ref W), x2, x3, x4, some (.ref Kq), x6, x7, x8, x9, x10, some (.int (b : Int))] m = some (.val (.bl (openB WS K b)), m) := by
  have hg : WS[b]? = some (WS.getD b []) := by
    rw [List.getD_eq_getElem?_getD, List.getElem?_eq_getElem hb]
    rfl
  have hmem : WS.getD b [] ∈ WS := List.mem_of_getElem? hg
  have hix : atI (WS.map wD) (b : Int) = some (wD (WS.getD b [])) := by
    rw [Nb.atI_nat, List.getElem?_map, hg]
    rfl
  obtain ⟨w1, w2⟩ := hWS _ hmem
  have hnot : ∀ x ∈ NN, cmpO m .notin (.val (.str x)) (.val (.ref Kq)) = some (!decide (x ∈ K)) := fun x hx => by
    show (inO m (.val (.str x)) (.val (.ref Kq))).map (fun b => !b) = _
    rw [in_strs hKq (okNN x hx).1 fun y hy => (okNN y (hK y hy)).1]
    rfl
  unfold openB
  generalize WS.getD b [] = w at *
  have L := loopC_filter (f := cpB g4 (.n 8) [8] [.cmp .notin (.var 8) (.var 5)] (.var 8) [some (.ref n), some (.ref W), x2, x3, x4, some (.ref Kq), x6, x7, x8, x9, x10, some (.int (b : Int))]) (gd := gdW (w.map D.str, none)) (m := m) (k := fun d => match d with
      | .str x => !decide (x ∈ K)
      | _ => false) rfl (ds := w.map D.str) (acc := []) (fun d hd => by
    obtain ⟨x, hx, rfl⟩ := List.mem_map.mp hd
    have q := hnot x (w1 x hx)
    unfold cpB
    by_cases hk : x ∈ K
    · rw [decide_eq_true hk] at q
      simp only [evSs, evS.eq_1, evS.eq_2, evS.eq_3, evS.eq_4, evS.eq_5, evS.eq_6, evS.eq_7, evS.eq_8, evS.eq_9, evS.eq_10, evS.eq_13, evS.eq_14, evS.eq_15, evS.eq_16, evS.eq_17, evS_for, evS_whl, evE.eq_1, evE.eq_2, evE.eq_3, evE.eq_4, evE.eq_5, evE.eq_6, evE.eq_7, evE.eq_8, evE.eq_9, evE.eq_10, evE.eq_11, evE.eq_12, evE.eq_13, evE.eq_14, evE.eq_15, evE.eq_16, evE.eq_17, evE.eq_18, evE.eq_19, evE.eq_20, evE.eq_21, evE.eq_22, evE.eq_23, evE.eq_24, evE.eq_26, evE.eq_27, evE.eq_28, evE.eq_29, evE_comp, evA, evAnd, evOr, evP, evI, tst, bindT.eq_1, bindT.eq_2, bindTs.eq_1, bindTs.eq_2, stow_val, stow_tmp, truO, bltO, bop_int, bopI, cmp_int, Nb.ix_tup, ix_frz, ix_tmp, len_tup, len_frz, len_tmp, atI_0, atI_1, atI_2, atI_3, ixN_0, ixN_1, ixN_2, Option.bind_some, Option.map_some, Option.bind_none, Option.map_none, List.getElem?_cons_zero, List.getElem?_cons_succ, List.set_cons_zero, List.set_cons_succ, List.length_cons, List.length_nil, List.length_map, if_true, if_false, decide_true, decide_false, Bool.not_true, Bool.not_false, Bool.false_eq_true, reduceIte, List.map_cons, List.map_nil, List.cons_append, List.nil_append, List.replicate, Nat.sub_self, Nat.reduceSub, Nat.reduceAdd, Int.reduceAdd, Int.reducePow, Int.reduceToNat, Int.reduceLE, Int.reduceLT, Nat.reduceLT, Nat.reduceLeDiff, Nat.reducePow, Int.reduceSub, Int.reduceMul, Int.reduceEq, Nat.reduceEqDiff, and_self, true_and, and_true, or_true, true_or, Int.reduceNeg, eq_self, cmp_str, tyO, tyD, isi_ii, isi_is, isi_bi, isi_bs, isi_ib, isi_bb, dec_self, szE, bnd_int, seq_tup, seq_frz, seq_tmp, add_tup, wipeF, q, hk]
    · rw [decide_eq_false hk] at q
      simp only [evSs, evS.eq_1, evS.eq_2, evS.eq_3, evS.eq_4, evS.eq_5, evS.eq_6, evS.eq_7, evS.eq_8, evS.eq_9, evS.eq_10, evS.eq_13, evS.eq_14, evS.eq_15, evS.eq_16, evS.eq_17, evS_for, evS_whl, evE.eq_1, evE.eq_2, evE.eq_3, evE.eq_4, evE.eq_5, evE.eq_6, evE.eq_7, evE.eq_8, evE.eq_9, evE.eq_10, evE.eq_11, evE.eq_12, evE.eq_13, evE.eq_14, evE.eq_15, evE.eq_16, evE.eq_17, evE.eq_18, evE.eq_19, evE.eq_20, evE.eq_21, evE.eq_22, evE.eq_23, evE.eq_24, evE.eq_26, evE.eq_27, evE.eq_28, evE.eq_29, evE_comp, evA, evAnd, evOr, evP, evI, tst, bindT.eq_1, bindT.eq_2, bindTs.eq_1, bindTs.eq_2, stow_val, stow_tmp, truO, bltO, bop_int, bopI, cmp_int, Nb.ix_tup, ix_frz, ix_tmp, len_tup, len_frz, len_tmp, atI_0, atI_1, atI_2, atI_3, ixN_0, ixN_1, ixN_2, Option.bind_some, Option.map_some, Option.bind_none, Option.map_none, List.getElem?_cons_zero, List.getElem?_cons_succ, List.set_cons_zero, List.set_cons_succ, List.length_cons, List.length_nil, List.length_map, if_true, if_false, decide_true, decide_false, Bool.not_true, Bool.not_false, Bool.false_eq_true, reduceIte, List.map_cons, List.map_nil, List.cons_append, List.nil_append, List.replicate, Nat.sub_self, Nat.reduceSub, Nat.reduceAdd, Int.reduceAdd, Int.reducePow, Int.reduceToNat, Int.reduceLE, Int.reduceLT, Nat.reduceLT, Nat.reduceLeDiff, Nat.reducePow, Int.reduceSub, Int.reduceMul, Int.reduceEq, Nat.reduceEqDiff, and_self, true_and, and_true, or_true, true_or, Int.reduceNeg, eq_self, cmp_str, tyO, tyD, isi_ii, isi_is, isi_bi, isi_bs, isi_ib, isi_bb, dec_self, szE, bnd_int, seq_tup, seq_frz, seq_tmp, add_tup, wipeF, q, hk]) (by rw [List.length_nil, List.length_map]; omega)
  rw [List.nil_append] at L
  have e4 := eq_tmp_nil (m := m) (ds := (w.map D.str).filter fun d => match d with
      | .str x => !decide (x ∈ K)
      | _ => false) (fun d hd => by
    obtain ⟨x, hx, rfl⟩ := List.mem_map.mp (List.mem_filter.mp hd).1
    exact Dt.cmp (k := 0) (q := 0) (n := n) (Dt.ok (okNN x (w1 x hx)).1 (Nat.le_refl _)) (by decide) (by decide))
  have e5 : ((w.map D.str).filter fun d => match d with
      | .str x => !decide (x ∈ K)
      | _ => false).isEmpty = w.all fun x => decide (x ∈ K) := by
    clear L e4 hix hmem w1 w2 hg
    induction w with
    | nil => rfl
    | cons x w ih =>
      rw [List.map_cons, List.all_cons]
      by_cases hk : x ∈ K
      · rw [List.filter_cons_of_neg (by simp [hk]), ih, decide_eq_true hk, Bool.true_and]
      · rw [List.filter_cons_of_pos (by simp [hk]), decide_eq_false hk]
        rfl
  rw [e5] at e4
  have wz : wkO m (.val (wD w)) = some (w.map D.str, none) := rfl
  unfold cOp cIn
  simp only [evSs, evS.eq_1, evS.eq_2, evS.eq_3, evS.eq_4, evS.eq_5, evS.eq_6, evS.eq_7, evS.eq_8, evS.eq_9, evS.eq_10, evS.eq_13, evS.eq_14, evS.eq_15, evS.eq_16, evS.eq_17, evS_for, evS_whl, evE.eq_1, evE.eq_2, evE.eq_3, evE.eq_4, evE.eq_5, evE.eq_6, evE.eq_7, evE.eq_8, evE.eq_9, evE.eq_10, evE.eq_11, evE.eq_12, evE.eq_13, evE.eq_14, evE.eq_15, evE.eq_16, evE.eq_17, evE.eq_18, evE.eq_19, evE.eq_20, evE.eq_21, evE.eq_22, evE.eq_23, evE.eq_24, evE.eq_26, evE.eq_27, evE.eq_28, evE.eq_29, evE_comp, evA, evAnd, evOr, evP, evI, tst, bindT.eq_1, bindT.eq_2, bindTs.eq_1, bindTs.eq_2, stow_val, stow_tmp, truO, bltO, bop_int, bopI, cmp_int, Nb.ix_tup, ix_frz, ix_tmp, len_tup, len_frz, len_tmp, atI_0, atI_1, atI_2, atI_3, ixN_0, ixN_1, ixN_2, Option.bind_some, Option.map_some, Option.bind_none, Option.map_none, List.getElem?_cons_zero, List.getElem?_cons_succ, List.set_cons_zero, List.set_cons_succ, List.length_cons, List.length_nil, List.length_map, if_true, if_false, decide_true, decide_false, Bool.not_true, Bool.not_false, Bool.false_eq_true, reduceIte, List.map_cons, List.map_nil, List.cons_append, List.nil_append, List.replicate, Nat.sub_self, Nat.reduceSub, Nat.reduceAdd, Int.reduceAdd, Int.reducePow, Int.reduceToNat, Int.reduceLE, Int.reduceLT, Nat.reduceLT, Nat.reduceLeDiff, Nat.reducePow, Int.reduceSub, Int.reduceMul, Int.reduceEq, Nat.reduceEqDiff, and_self, true_and, and_true, or_true, true_or, Int.reduceNeg, eq_self, cmp_str, tyO, tyD, isi_ii, isi_is, isi_bi, isi_bs, isi_ib, isi_bb, dec_self, szE, bnd_int, seq_tup, seq_frz, seq_tmp, add_tup, ix_lst hW, hix, wz, L, e4]
theorem fil_map {α : Type} (c : α → Bool) (f : α → D) : ∀ l : List α, (l.filterMap fun k => if c k = true then some (f k) else none) = (l.filter c).map f
  | [] => rfl
  | a :: l => by
    rw [List.filterMap_cons]
    by_cases h : c a = true
    · rw [if_pos h, List.filter_cons_of_pos h, List.map_cons, fil_map c f l]
    · rw [if_neg h, List.filter_cons_of_neg h, fil_map c f l]
theorem open_run {n W Kq : Nat} {m : Mm} {WS : List (List Str)} {K : List Str} {x2 x3 x4 x6 x7 x8 x9 x10 x11 : Option D} (hW : m[W]? = some (.lst (WS.map wD))) (hKq : m[Kq]? = some (.lst (K.map .str))) (hK : ∀ x ∈ K, x ∈ NN) (hWS : ∀ w ∈ WS, (∀ x ∈ w, x ∈ NN) ∧ w.length ≤ 2) (hl : WS.length < 100) :
    evE g4 eOpen [some (.ref n), some (.ref W), x2, x3, x4, some (.ref Kq), x6, x7, x8, x9, x10, x11] m = some (.tmp ((opens WS K).map .int), m) := by
  have h : evE g4 (.blt .len (.var 1)) [some (.ref n), some (.ref W), x2, x3, x4, some (.ref Kq), x6, x7, x8, x9, x10, x11] m = some (.val (.int (WS.length : Int)), m) := by
    simp only [evSs, evS.eq_1, evS.eq_2, evS.eq_3, evS.eq_4, evS.eq_5, evS.eq_6, evS.eq_7, evS.eq_8, evS.eq_9, evS.eq_10, evS.eq_13, evS.eq_14, evS.eq_15, evS.eq_16, evS.eq_17, evS_for, evS_whl, evE.eq_1, evE.eq_2, evE.eq_3, evE.eq_4, evE.eq_5, evE.eq_6, evE.eq_7, evE.eq_8, evE.eq_9, evE.eq_10, evE.eq_11, evE.eq_12, evE.eq_13, evE.eq_14, evE.eq_15, evE.eq_16, evE.eq_17, evE.eq_18, evE.eq_19, evE.eq_20, evE.eq_21, evE.eq_22, evE.eq_23, evE.eq_24, evE.eq_26, evE.eq_27, evE.eq_28, evE.eq_29, evE_comp, evA, evAnd, evOr, evP, evI, tst, bindT.eq_1, bindT.eq_2, bindTs.eq_1, bindTs.eq_2, stow_val, stow_tmp, truO, bltO, bop_int, bopI, cmp_int, Nb.ix_tup, ix_frz, ix_tmp, len_tup, len_frz, len_tmp, atI_0, atI_1, atI_2, atI_3, ixN_0, ixN_1, ixN_2, Option.bind_some, Option.map_some, Option.bind_none, Option.map_none, List.getElem?_cons_zero, List.getElem?_cons_succ, List.set_cons_zero, List.set_cons_succ, List.length_cons, List.length_nil, List.length_map, if_true, if_false, decide_true, decide_false, Bool.not_true, Bool.not_false, Bool.false_eq_true, reduceIte, List.map_cons, List.map_nil, List.cons_append, List.nil_append, List.replicate, Nat.sub_self, Nat.reduceSub, Nat.reduceAdd, Int.reduceAdd, Int.reducePow, Int.reduceToNat, Int.reduceLE, Int.reduceLT, Nat.reduceLT, Nat.reduceLeDiff, Nat.reducePow, Int.reduceSub, Int.reduceMul, Int.reduceEq, Nat.reduceEqDiff, and_self, true_and, and_true, or_true, true_or, Int.reduceNeg, eq_self, cmp_str, tyO, tyD, isi_ii, isi_is, isi_bi, isi_bs, isi_ib, isi_bb, dec_self, szE, bnd_int, seq_tup, seq_frz, seq_tmp, add_tup, len_lst hW]
  have hr : inR (WS.length : Int) = true := inR_of (by omega) (by omega)
  have L := loopC_fil (ff := cpB g4 (.n 11) [11] [cOp] (.var 11) [some (.ref n), some (.ref W), x2, x3, x4, some (.ref Kq), x6, x7, x8, x9, x10, x11]) (gd := gdW (rngD 0 (WS.length : Int), none)) (m := m) (h := fun d => match d with
      | .int k => if openB WS K k.toNat = true then some (.int k) else none
      | _ => none) rfl (ds := rngD 0 (WS.length : Int)) (acc := []) (fun d hd => by
    unfold rngD at hd
    obtain ⟨k, hk, rfl⟩ := List.mem_map.mp hd
    have hk : k < WS.length := by
      have := List.mem_range.mp hk
      omega
    have e0 : (0 : Int) + (k : Int) = (k : Int) := by omega
    rw [e0]
    have q := cOp_run (n := n) (x2 := x2) (x3 := x3) (x4 := x4) (x6 := x6) (x7 := x7) (x8 := x8) (x9 := x9) (x10 := x10) hk hW hKq hK hWS
    show _ = some (if openB WS K ((k : Int).toNat) = true then some (D.int (k : Int)) else none, m)
    rw [Int.toNat_natCast]
    unfold cpB
    generalize openB WS K k = z at *
    generalize ((k : Nat) : Int) = kk at *
    cases z with
    | true => simp only [evSs, evS.eq_1, evS.eq_2, evS.eq_3, evS.eq_4, evS.eq_5, evS.eq_6, evS.eq_7, evS.eq_8, evS.eq_9, evS.eq_10, evS.eq_13, evS.eq_14, evS.eq_15, evS.eq_16, evS.eq_17, evS_for, evS_whl, evE.eq_1, evE.eq_2, evE.eq_3, evE.eq_4, evE.eq_5, evE.eq_6, evE.eq_7, evE.eq_8, evE.eq_9, evE.eq_10, evE.eq_11, evE.eq_12, evE.eq_13, evE.eq_14, evE.eq_15, evE.eq_16, evE.eq_17, evE.eq_18, evE.eq_19, evE.eq_20, evE.eq_21, evE.eq_22, evE.eq_23, evE.eq_24, evE.eq_26, evE.eq_27, evE.eq_28, evE.eq_29, evE_comp, evA, evAnd, evOr, evP, evI, tst, bindT.eq_1, bindT.eq_2, bindTs.eq_1, bindTs.eq_2, stow_val, stow_tmp, truO, bltO, bop_int, bopI, cmp_int, Nb.ix_tup, ix_frz, ix_tmp, len_tup, len_frz, len_tmp, atI_0, atI_1, atI_2, atI_3, ixN_0, ixN_1, ixN_2, Option.bind_some, Option.map_some, Option.bind_none, Option.map_none, List.getElem?_cons_zero, List.getElem?_cons_succ, List.set_cons_zero, List.set_cons_succ, List.length_cons, List.length_nil, List.length_map, if_true, if_false, decide_true, decide_false, Bool.not_true, Bool.not_false, Bool.false_eq_true, reduceIte, List.map_cons, List.map_nil, List.cons_append, List.nil_append, List.replicate, Nat.sub_self, Nat.reduceSub, Nat.reduceAdd, Int.reduceAdd, Int.reducePow, Int.reduceToNat, Int.reduceLE, Int.reduceLT, Nat.reduceLT, Nat.reduceLeDiff, Nat.reducePow, Int.reduceSub, Int.reduceMul, Int.reduceEq, Nat.reduceEqDiff, and_self, true_and, and_true, or_true, true_or, Int.reduceNeg, eq_self, cmp_str, tyO, tyD, isi_ii, isi_is, isi_bi, isi_bs, isi_ib, isi_bb, dec_self, szE, bnd_int, seq_tup, seq_frz, seq_tmp, add_tup, wipeF, q]
    | false => simp only [evSs, evS.eq_1, evS.eq_2, evS.eq_3, evS.eq_4, evS.eq_5, evS.eq_6, evS.eq_7, evS.eq_8, evS.eq_9, evS.eq_10, evS.eq_13, evS.eq_14, evS.eq_15, evS.eq_16, evS.eq_17, evS_for, evS_whl, evE.eq_1, evE.eq_2, evE.eq_3, evE.eq_4, evE.eq_5, evE.eq_6, evE.eq_7, evE.eq_8, evE.eq_9, evE.eq_10, evE.eq_11, evE.eq_12, evE.eq_13, evE.eq_14, evE.eq_15, evE.eq_16, evE.eq_17, evE.eq_18, evE.eq_19, evE.eq_20, evE.eq_21, evE.eq_22, evE.eq_23, evE.eq_24, evE.eq_26, evE.eq_27, evE.eq_28, evE.eq_29, evE_comp, evA, evAnd, evOr, evP, evI, tst, bindT.eq_1, bindT.eq_2, bindTs.eq_1, bindTs.eq_2, stow_val, stow_tmp, truO, bltO, bop_int, bopI, cmp_int, Nb.ix_tup, ix_frz, ix_tmp, len_tup, len_frz, len_tmp, atI_0, atI_1, atI_2, atI_3, ixN_0, ixN_1, ixN_2, Option.bind_some, Option.map_some, Option.bind_none, Option.map_none, List.getElem?_cons_zero, List.getElem?_cons_succ, List.set_cons_zero, List.set_cons_succ, List.length_cons, List.length_nil, List.length_map, if_true, if_false, decide_true, decide_false, Bool.not_true, Bool.not_false, Bool.false_eq_true, reduceIte, List.map_cons, List.map_nil, List.cons_append, List.nil_append, List.replicate, Nat.sub_self, Nat.reduceSub, Nat.reduceAdd, Int.reduceAdd, Int.reducePow, Int.reduceToNat, Int.reduceLE, Int.reduceLT, Nat.reduceLT, Nat.reduceLeDiff, Nat.reducePow, Int.reduceSub, Int.reduceMul, Int.reduceEq, Nat.reduceEqDiff, and_self, true_and, and_true, or_true, true_or, Int.reduceNeg, eq_self, cmp_str, tyO, tyD, isi_ii, isi_is, isi_bi, isi_bs, isi_ib, isi_bb, dec_self, szE, bnd_int, seq_tup, seq_frz, seq_tmp, add_tup, wipeF, q]) (by rw [List.length_nil, rng_len, szE]; omega)
  rw [List.nil_append] at L
  have e2 : ((rngD 0 (WS.length : Int)).filterMap fun d => match d with
      | .int k => if openB WS K k.toNat = true then some (D.int k) else none
      | _ => none) = (opens WS K).map D.int := by
    unfold rngD opens
    rw [List.filterMap_map, List.map_map, ← fil_map (openB WS K) (D.int ∘ fun (k : Nat) => (k : Int))]
    rw [show ((WS.length : Int) - 0).toNat = WS.length by omega]
    refine congrArg (fun f => List.filterMap f (List.range WS.length)) (funext fun k => ?_)
    show (if openB WS K ((0 : Int) + (k : Int)).toNat = true then some (D.int ((0 : Int) + (k : Int))) else none) = if openB WS K k = true then some (D.int (k : Int)) else none
    rw [show (0 : Int) + (k : Int) = (k : Int) by omega, Int.toNat_natCast]
  rw [e2] at L
  unfold eOpen
  rw [evE_comp, rngLen h hr, Option.bind_some, L]
  rfl
theorem opens_ne {WS : List (List Str)} {K : List Str} (h : WS[0]? = some []) : opens WS K ≠ [] := by
  cases WS with
  | nil => cases h
  | cons w WS =>
    have h : w = [] := Option.some.inj h
    subst h
    have : (0 : Int) ∈ opens ([] :: WS) K := by
      unfold opens
      refine List.mem_map.mpr ⟨0, List.mem_filter.mpr ⟨List.mem_range.mpr (by rw [List.length_cons]; omega), rfl⟩, rfl⟩
    exact fun e => by
      rw [e] at this
      cases this
theorem opens_len {WS : List (List Str)} {K : List Str} : (opens WS K).length ≤ WS.length := by
  unfold opens
  rw [List.length_map]
  have := List.length_filter_le (openB WS K) (List.range WS.length)
  rw [List.length_range] at this
  exact this
/-! the names that an act binds -/
def bAdd : List S := [.ife (.cmp .notin (.var 8) (.var 5)) [.app (.var 5) (.var 8)] []]
theorem addLoop {ns : List Int} {tl : List D} {n b B Kq : Nat} {m0 : Mm} {es : List D} {x0 x1 x2 x3 x4 x6 x7 x9 x10 x11 : Option D} (hm : m0.length ≤ Kq) (hBK : B ≠ Kq) : ∀ {xs K : List Str} {m : Mm} {x8 : Option D}, (∀ x ∈ K, x ∈ NN) → (∀ x ∈ xs, x ∈ NN) → K.length + xs.length < 1000 → m[Kq]? = some (.lst (K.map .str)) → m[B]? = some (.lst es) → Go ns tl n b m0 m → Off n Kq m →
    ∃ y8 m', loopF (forB g4 (.n 8) bAdd) (gdW (es, some B)) (xs.map .str) [x0, x1, x2, x3, x4, some (.ref Kq), x6, x7, x8, x9, x10, x11] m = some (.nx, [x0, x1, x2, x3, x4, some (.ref Kq), x6, x7, y8, x9, x10, x11], m') ∧ m'[Kq]? = some (.lst ((addN K xs).map .str)) ∧ (∀ i, i ≠ Kq → m'[i]? = m[i]?) ∧ Go ns tl n b m0 m' ∧ Off n Kq m'
  | [], K, m, x8, _, _, _, h1, h2, G, O => ⟨x8, m, if_pos (gd_ref h2), h1, fun _ _ => rfl, G, O⟩
  | x :: xs, K, m, x8, hK, hx, hl, h1, h2, G, O => by
    have hxN := hx x List.mem_cons_self
    have q : cmpO m .notin (.val (.str x)) (.val (.ref Kq)) = some (!decide (x ∈ K)) := by
      show (inO m (.val (.str x)) (.val (.ref Kq))).map (fun b => !b) = _
      rw [in_strs h1 (okNN x hxN).1 fun y hy => (okNN y (hK y hy)).1]
      rfl
    rw [List.length_cons] at hl
    rw [List.map_cons]
    by_cases hk : x ∈ K
    · have st : forB g4 (.n 8) bAdd (.str x) [x0, x1, x2, x3, x4, some (.ref Kq), x6, x7, x8, x9, x10, x11] m = some (.nx, [x0, x1, x2, x3, x4, some (.ref Kq), x6, x7, some (.str x), x9, x10, x11], m) := by
        rw [decide_eq_true hk] at q
        unfold forB bAdd
        simp only [evSs, evS.eq_1, evS.eq_2, evS.eq_3, evS.eq_4, evS.eq_5, evS.eq_6, evS.eq_7, evS.eq_8, evS.eq_9, evS.eq_10, evS.eq_13, evS.eq_14, evS.eq_15, evS.eq_16, evS.eq_17, evS_for, evS_whl, evE.eq_1, evE.eq_2, evE.eq_3, evE.eq_4, evE.eq_5, evE.eq_6, evE.eq_7, evE.eq_8, evE.eq_9, evE.eq_10, evE.eq_11, evE.eq_12, evE.eq_13, evE.eq_14, evE.eq_15, evE.eq_16, evE.eq_17, evE.eq_18, evE.eq_19, evE.eq_20, evE.eq_21, evE.eq_22, evE.eq_23, evE.eq_24, evE.eq_26, evE.eq_27, evE.eq_28, evE.eq_29, evE_comp, evA, evAnd, evOr, evP, evI, tst, bindT.eq_1, bindT.eq_2, bindTs.eq_1, bindTs.eq_2, stow_val, stow_tmp, truO, bltO, bop_int, bopI, cmp_int, Nb.ix_tup, ix_frz, ix_tmp, len_tup, len_frz, len_tmp, atI_0, atI_1, atI_2, atI_3, ixN_0, ixN_1, ixN_2, Option.bind_some, Option.map_some, Option.bind_none, Option.map_none, List.getElem?_cons_zero, List.getElem?_cons_succ, List.set_cons_zero, List.set_cons_succ, List.length_cons, List.length_nil, List.length_map, if_true, if_false, decide_true, decide_false, Bool.not_true, Bool.not_false, Bool.false_eq_true, reduceIte, List.map_cons, List.map_nil, List.cons_append, List.nil_append, List.replicate, Nat.sub_self, Nat.reduceSub, Nat.reduceAdd, Int.reduceAdd, Int.reducePow, Int.reduceToNat, Int.reduceLE, Int.reduceLT, Nat.reduceLT, Nat.reduceLeDiff, Nat.reducePow, Int.reduceSub, Int.reduceMul, Int.reduceEq, Nat.reduceEqDiff, and_self, true_and, and_true, or_true, true_or, Int.reduceNeg, eq_self, cmp_str, tyO, tyD, isi_ii, isi_is, isi_bi, isi_bs, isi_ib, isi_bb, dec_self, szE, bnd_int, seq_tup, seq_frz, seq_tmp, add_tup, q]
      obtain ⟨y8, m', e, r1, r2, r3, r4⟩ := addLoop (x0 := x0) (x1 := x1) (x2 := x2) (x3 := x3) (x4 := x4) (x6 := x6) (x7 := x7) (x8 := some (.str x)) (x9 := x9) (x10 := x10) (x11 := x11) hm hBK hK (fun y hy => hx y (List.mem_cons_of_mem _ hy)) (by omega) h1 h2 G O
      refine ⟨y8, m', by rw [loopF_nx (gd_ref h2) st]; exact e, ?_, r2, r3, r4⟩
      unfold addN
      rw [if_pos hk]
      exact r1
    · have hlen : K.length < 16777216 := by omega
      obtain ⟨p1, p2, p3⟩ := G.app1 O hm h1 (v := .str x)
      have st : forB g4 (.n 8) bAdd (.str x) [x0, x1, x2, x3, x4, some (.ref Kq), x6, x7, x8, x9, x10, x11] m = some (.nx, [x0, x1, x2, x3, x4, some (.ref Kq), x6, x7, some (.str x), x9, x10, x11], m.set Kq (.lst (K.map .str ++ [.str x]))) := by
        rw [decide_eq_false hk] at q
        unfold forB bAdd
        simp only [evSs, evS.eq_1, evS.eq_2, evS.eq_3, evS.eq_4, evS.eq_5, evS.eq_6, evS.eq_7, evS.eq_8, evS.eq_9, evS.eq_10, evS.eq_13, evS.eq_14, evS.eq_15, evS.eq_16, evS.eq_17, evS_for, evS_whl, evE.eq_1, evE.eq_2, evE.eq_3, evE.eq_4, evE.eq_5, evE.eq_6, evE.eq_7, evE.eq_8, evE.eq_9, evE.eq_10, evE.eq_11, evE.eq_12, evE.eq_13, evE.eq_14, evE.eq_15, evE.eq_16, evE.eq_17, evE.eq_18, evE.eq_19, evE.eq_20, evE.eq_21, evE.eq_22, evE.eq_23, evE.eq_24, evE.eq_26, evE.eq_27, evE.eq_28, evE.eq_29, evE_comp, evA, evAnd, evOr, evP, evI, tst, bindT.eq_1, bindT.eq_2, bindTs.eq_1, bindTs.eq_2, stow_val, stow_tmp, truO, bltO, bop_int, bopI, cmp_int, Nb.ix_tup, ix_frz, ix_tmp, len_tup, len_frz, len_tmp, atI_0, atI_1, atI_2, atI_3, ixN_0, ixN_1, ixN_2, Option.bind_some, Option.map_some, Option.bind_none, Option.map_none, List.getElem?_cons_zero, List.getElem?_cons_succ, List.set_cons_zero, List.set_cons_succ, List.length_cons, List.length_nil, List.length_map, if_true, if_false, decide_true, decide_false, Bool.not_true, Bool.not_false, Bool.false_eq_true, reduceIte, List.map_cons, List.map_nil, List.cons_append, List.nil_append, List.replicate, Nat.sub_self, Nat.reduceSub, Nat.reduceAdd, Int.reduceAdd, Int.reducePow, Int.reduceToNat, Int.reduceLE, Int.reduceLT, Nat.reduceLT, Nat.reduceLeDiff, Nat.reducePow, Int.reduceSub, Int.reduceMul, Int.reduceEq, Nat.reduceEqDiff, and_self, true_and, and_true, or_true, true_or, Int.reduceNeg, eq_self, cmp_str, tyO, tyD, isi_ii, isi_is, isi_bi, isi_bs, isi_ib, isi_bb, dec_self, szE, bnd_int, seq_tup, seq_frz, seq_tmp, add_tup, q, lst_ref h1, upd_lst h1, hlen]
      have p1' : (m.set Kq (.lst (K.map .str ++ [.str x])))[Kq]? = some (.lst ((K ++ [x]).map .str)) := by
        rw [List.map_append]
        exact p1
      have hB : (m.set Kq (.lst (K.map .str ++ [.str x])))[B]? = some (.lst es) := by
        rw [List.getElem?_set_ne (Ne.symm hBK)]
        exact h2
      obtain ⟨y8, m', e, r1, r2, r3, r4⟩ := addLoop (x0 := x0) (x1 := x1) (x2 := x2) (x3 := x3) (x4 := x4) (x6 := x6) (x7 := x7) (x8 := some (.str x)) (x9 := x9) (x10 := x10) (x11 := x11) hm hBK (K := K ++ [x]) (fun y hy => by
        rcases List.mem_append.mp hy with hy | hy
        · exact hK y hy
        · rw [List.mem_singleton.mp hy]
          exact hxN) (fun y hy => hx y (List.mem_cons_of_mem _ hy)) (by rw [List.length_append, List.length_singleton]; omega) p1' hB p2 p3
      refine ⟨y8, m', by rw [loopF_nx (gd_ref h2) st]; exact e, ?_, fun i hi => ?_, r3, r4⟩
      · unfold addN
        rw [if_neg hk]
        exact r1
      · rw [r2 i hi, List.getElem?_set_ne (Ne.symm hi)]
end LawP

namespace LawP
open PySem PySem.Spec L2 Nb Hd
def sAc : S := .asg (.t [.n 9, .n 10]) (.call "_law_act" [.var 0, .var 5, .var 7])
def bAct : List S := [
      .asg (.n 7) eOpen, 
      sAc, 
      .app (.var 6) (.var 9), 
      .for_ (.n 8) (.e (.var 10)) bAdd]
def wOk (w : List Str) : Prop := (∀ x ∈ w, x ∈ NN) ∧ w.length ≤ 2
theorem actStep {ns : List Int} {n b W aq Kq Aq : Nat} {m0 m : Mm} {d : D} {x2 x3 x4 x7 x8 x9 x10 x11 : Option D} {WS : List (List Str)} {K : List Str} {as : List Act} (hKm : m0.length ≤ Kq) (hAm : m0.length ≤ Aq) (hKA : Kq ≠ Aq) (hW0 : m0[W]? = some (.lst (WS.map wD))) (hWn : W ≠ n) (ha0 : m0[aq]? = some (.lst AGES)) (han : aq ≠ n)
    (hWS : ∀ w ∈ WS, wOk w) (hl : WS.length < 100) (h0 : WS[0]? = some []) (G : Go ns [.ref aq] n (b + 12) m0 m) (OK : Off n Kq m) (OA : Off n Aq m) (hKq : m[Kq]? = some (.lst (K.map .str))) (hAq : m[Aq]? = some (.lst (as.map Act.d))) (hK : ∀ x ∈ K, x ∈ NN) (hlK : K.length < 500) (hla : as.length < 500) :
    ∃ y7 y8 y9 y10 a m', forB g4 (.n 2) bAct d [some (.ref n), some (.ref W), x2, x3, x4, some (.ref Kq), some (.ref Aq), x7, x8, x9, x10, x11] m = some (.nx, [some (.ref n), some (.ref W), some d, x3, x4, some (.ref Kq), some (.ref Aq), y7, y8, y9, y10, x11], m') ∧ m'[Aq]? = some (.lst ((as ++ [a]).map Act.d)) ∧ m'[Kq]? = some (.lst ((addN K a.bnd).map .str)) ∧ Act.ok K (opens WS K) a ∧ Go ns [.ref aq] n b m0 m' ∧ Off n Kq m' ∧ Off n Aq m' := by
  have hW := G.ex.get hW0 hWn
  have ha := G.ex.get ha0 han
  have e1 := open_run (n := n) (x2 := some d) (x3 := x3) (x4 := x4) (x6 := some (.ref Aq)) (x7 := x7) (x8 := x8) (x9 := x9) (x10 := x10) (x11 := x11) hW hKq hK hWS hl
  have G1 := Go.app G.tp (a := [.lst ((opens WS K).map .int)])
  have hon : m.length ≠ n := nne G.tp (Nat.le_refl _)
  have hol := opens_len (WS := WS) (K := K)
  have hKn : Kq ≠ n := OK.1
  obtain ⟨a, B, m2, e2, hao, hB, hBm, OB, G2⟩ := Lact (b := b) G1.tp (get_old ha) han (get_old hKq) hKn hK (by omega) get_new hon (opens_ne h0) (by omega)
  have hAlt := lt_of_get hAq
  have hKlt := lt_of_get hKq
  rw [List.length_append, List.length_singleton] at hBm
  have A2 : m2[Aq]? = some (.lst (as.map Act.d)) := G2.ex.get (get_old hAq) OA.1
  have K2 : m2[Kq]? = some (.lst (K.map .str)) := G2.ex.get (get_old hKq) hKn
  have G02 := (G.trans G1).trans G2
  have OA2 := G2.off _ (G1.off _ OA)
  have OK2 := G2.off _ (G1.off _ OK)
  obtain ⟨p1, p2, p3⟩ := G02.app1 OA2 hAm A2 (v := a.d)
  have hBA : B ≠ Aq := by omega
  have hBK : B ≠ Kq := by omega
  have K3 : (m2.set Aq (.lst (as.map Act.d ++ [a.d])))[Kq]? = some (.lst (K.map .str)) := by
    rw [List.getElem?_set_ne (Ne.symm hKA)]
    exact K2
  have B3 : (m2.set Aq (.lst (as.map Act.d ++ [a.d])))[B]? = some (.lst (a.bnd.map .str)) := by
    rw [List.getElem?_set_ne (Ne.symm hBA)]
    exact hB
  obtain ⟨b1, b2⟩ := Act.bnd_ok hao
  obtain ⟨y8, m4, e4, r1, r2, r3, r4⟩ := addLoop (b := b) (x0 := some (.ref n)) (x1 := some (.ref W)) (x2 := some d) (x3 := x3) (x4 := x4) (x6 := some (.ref Aq)) (x7 := some (.ref m.length)) (x8 := x8) (x9 := some a.d) (x10 := some (.ref B)) (x11 := x11) (es := a.bnd.map .str) hKm hBK hK b1 (by omega) K3 B3 p2 (OK2.get (List.getElem?_set_ne OA.1))
  refine ⟨some (.ref m.length), y8, some a.d, some (.ref B), a, m4, ?_, ?_, r1, hao, r3, r4, ?_⟩
  · have hl3 : as.length < 16777216 := by omega
    have eA : evS g4 (.asg (.n 7) eOpen) [some (.ref n), some (.ref W), some d, x3, x4, some (.ref Kq), some (.ref Aq), x7, x8, x9, x10, x11] m = some (.nx, [some (.ref n), some (.ref W), some d, x3, x4, some (.ref Kq), some (.ref Aq), some (.ref m.length), x8, x9, x10, x11], m ++ [.lst ((opens WS K).map .int)]) := by
      simp only [evSs, evS.eq_1, evS.eq_2, evS.eq_3, evS.eq_4, evS.eq_5, evS.eq_6, evS.eq_7, evS.eq_8, evS.eq_9, evS.eq_10, evS.eq_13, evS.eq_14, evS.eq_15, evS.eq_16, evS.eq_17, evS_for, evS_whl, evE.eq_1, evE.eq_2, evE.eq_3, evE.eq_4, evE.eq_5, evE.eq_6, evE.eq_7, evE.eq_8, evE.eq_9, evE.eq_10, evE.eq_11, evE.eq_12, evE.eq_13, evE.eq_14, evE.eq_15, evE.eq_16, evE.eq_17, evE.eq_18, evE.eq_19, evE.eq_20, evE.eq_21, evE.eq_22, evE.eq_23, evE.eq_24, evE.eq_26, evE.eq_27, evE.eq_28, evE.eq_29, evE_comp, evA, evAnd, evOr, evP, evI, tst, bindT.eq_1, bindT.eq_2, bindTs.eq_1, bindTs.eq_2, stow_val, stow_tmp, truO, bltO, bop_int, bopI, cmp_int, Nb.ix_tup, ix_frz, ix_tmp, len_tup, len_frz, len_tmp, atI_0, atI_1, atI_2, atI_3, ixN_0, ixN_1, ixN_2, Option.bind_some, Option.map_some, Option.bind_none, Option.map_none, List.getElem?_cons_zero, List.getElem?_cons_succ, List.set_cons_zero, List.set_cons_succ, List.length_cons, List.length_nil, List.length_map, if_true, if_false, decide_true, decide_false, Bool.not_true, Bool.not_false, Bool.false_eq_true, reduceIte, List.map_cons, List.map_nil, List.cons_append, List.nil_append, List.replicate, Nat.sub_self, Nat.reduceSub, Nat.reduceAdd, Int.reduceAdd, Int.reducePow, Int.reduceToNat, Int.reduceLE, Int.reduceLT, Nat.reduceLT, Nat.reduceLeDiff, Nat.reducePow, Int.reduceSub, Int.reduceMul, Int.reduceEq, Nat.reduceEqDiff, and_self, true_and, and_true, or_true, true_or, Int.reduceNeg, eq_self, cmp_str, tyO, tyD, isi_ii, isi_is, isi_bi, isi_bs, isi_ib, isi_bb, dec_self, szE, bnd_int, seq_tup, seq_frz, seq_tmp, add_tup, e1]
    have eB : evS g4 sAc [some (.ref n), some (.ref W), some d, x3, x4, some (.ref Kq), some (.ref Aq), some (.ref m.length), x8, x9, x10, x11] (m ++ [.lst ((opens WS K).map .int)]) = some (.nx, [some (.ref n), some (.ref W), some d, x3, x4, some (.ref Kq), some (.ref Aq), some (.ref m.length), x8, some a.d, some (.ref B), x11], m2) := by
      unfold sAc
      simp only [evSs, evS.eq_1, evS.eq_2, evS.eq_3, evS.eq_4, evS.eq_5, evS.eq_6, evS.eq_7, evS.eq_8, evS.eq_9, evS.eq_10, evS.eq_13, evS.eq_14, evS.eq_15, evS.eq_16, evS.eq_17, evS_for, evS_whl, evE.eq_1, evE.eq_2, evE.eq_3, evE.eq_4, evE.eq_5, evE.eq_6, evE.eq_7, evE.eq_8, evE.eq_9, evE.eq_10, evE.eq_11, evE.eq_12, evE.eq_13, evE.eq_14, evE.eq_15, evE.eq_16, evE.eq_17, evE.eq_18, evE.eq_19, evE.eq_20, evE.eq_21, evE.eq_22, evE.eq_23, evE.eq_24, evE.eq_26, evE.eq_27, evE.eq_28, evE.eq_29, evE_comp, evA, evAnd, evOr, evP, evI, tst, bindT.eq_1, bindT.eq_2, bindTs.eq_1, bindTs.eq_2, stow_val, stow_tmp, truO, bltO, bop_int, bopI, cmp_int, Nb.ix_tup, ix_frz, ix_tmp, len_tup, len_frz, len_tmp, atI_0, atI_1, atI_2, atI_3, ixN_0, ixN_1, ixN_2, Option.bind_some, Option.map_some, Option.bind_none, Option.map_none, List.getElem?_cons_zero, List.getElem?_cons_succ, List.set_cons_zero, List.set_cons_succ, List.length_cons, List.length_nil, List.length_map, if_true, if_false, decide_true, decide_false, Bool.not_true, Bool.not_false, Bool.false_eq_true, reduceIte, List.map_cons, List.map_nil, List.cons_append, List.nil_append, List.replicate, Nat.sub_self, Nat.reduceSub, Nat.reduceAdd, Int.reduceAdd, Int.reducePow, Int.reduceToNat, Int.reduceLE, Int.reduceLT, Nat.reduceLT, Nat.reduceLeDiff, Nat.reducePow, Int.reduceSub, Int.reduceMul, Int.reduceEq, Nat.reduceEqDiff, and_self, true_and, and_true, or_true, true_or, Int.reduceNeg, eq_self, cmp_str, tyO, tyD, isi_ii, isi_is, isi_bi, isi_bs, isi_ib, isi_bb, dec_self, szE, bnd_int, seq_tup, seq_frz, seq_tmp, add_tup, p_4_Lact, e2]
    have eC : evS g4 (.app (.var 6) (.var 9)) [some (.ref n), some (.ref W), some d, x3, x4, some (.ref Kq), some (.ref Aq), some (.ref m.length), x8, some a.d, some (.ref B), x11] m2 = some (.nx, [some (.ref n), some (.ref W), some d, x3, x4, some (.ref Kq), some (.ref Aq), some (.ref m.length), x8, some a.d, some (.ref B), x11], m2.set Aq (.lst (as.map Act.d ++ [a.d]))) := by
      simp only [evSs, evS.eq_1, evS.eq_2, evS.eq_3, evS.eq_4, evS.eq_5, evS.eq_6, evS.eq_7, evS.eq_8, evS.eq_9, evS.eq_10, evS.eq_13, evS.eq_14, evS.eq_15, evS.eq_16, evS.eq_17, evS_for, evS_whl, evE.eq_1, evE.eq_2, evE.eq_3, evE.eq_4, evE.eq_5, evE.eq_6, evE.eq_7, evE.eq_8, evE.eq_9, evE.eq_10, evE.eq_11, evE.eq_12, evE.eq_13, evE.eq_14, evE.eq_15, evE.eq_16, evE.eq_17, evE.eq_18, evE.eq_19, evE.eq_20, evE.eq_21, evE.eq_22, evE.eq_23, evE.eq_24, evE.eq_26, evE.eq_27, evE.eq_28, evE.eq_29, evE_comp, evA, evAnd, evOr, evP, evI, tst, bindT.eq_1, bindT.eq_2, bindTs.eq_1, bindTs.eq_2, stow_val, stow_tmp, truO, bltO, bop_int, bopI, cmp_int, Nb.ix_tup, ix_frz, ix_tmp, len_tup, len_frz, len_tmp, atI_0, atI_1, atI_2, atI_3, ixN_0, ixN_1, ixN_2, Option.bind_some, Option.map_some, Option.bind_none, Option.map_none, List.getElem?_cons_zero, List.getElem?_cons_succ, List.set_cons_zero, List.set_cons_succ, List.length_cons, List.length_nil, List.length_map, if_true, if_false, decide_true, decide_false, Bool.not_true, Bool.not_false, Bool.false_eq_true, reduceIte, List.map_cons, List.map_nil, List.cons_append, List.nil_append, List.replicate, Nat.sub_self, Nat.reduceSub, Nat.reduceAdd, Int.reduceAdd, Int.reducePow, Int.reduceToNat, Int.reduceLE, Int.reduceLT, Nat.reduceLT, Nat.reduceLeDiff, Nat.reducePow, Int.reduceSub, Int.reduceMul, Int.reduceEq, Nat.reduceEqDiff, and_self, true_and, and_true, or_true, true_or, Int.reduceNeg, eq_self, cmp_str, tyO, tyD, isi_ii, isi_is, isi_bi, isi_bs, isi_ib, isi_bb, dec_self, szE, bnd_int, seq_tup, seq_frz, seq_tmp, add_tup, lst_ref A2, upd_lst A2, hl3]
    have eD : evS g4 (.for_ (.n 8) (.e (.var 10)) bAdd) [some (.ref n), some (.ref W), some d, x3, x4, some (.ref Kq), some (.ref Aq), some (.ref m.length), x8, some a.d, some (.ref B), x11] (m2.set Aq (.lst (as.map Act.d ++ [a.d]))) = some (.nx, [some (.ref n), some (.ref W), some d, x3, x4, some (.ref Kq), some (.ref Aq), some (.ref m.length), y8, some a.d, some (.ref B), x11], m4) := by
      generalize m2.set Aq (.lst (as.map Act.d ++ [a.d])) = M at *
      simp only [evSs, evS.eq_1, evS.eq_2, evS.eq_3, evS.eq_4, evS.eq_5, evS.eq_6, evS.eq_7, evS.eq_8, evS.eq_9, evS.eq_10, evS.eq_13, evS.eq_14, evS.eq_15, evS.eq_16, evS.eq_17, evS_for, evS_whl, evE.eq_1, evE.eq_2, evE.eq_3, evE.eq_4, evE.eq_5, evE.eq_6, evE.eq_7, evE.eq_8, evE.eq_9, evE.eq_10, evE.eq_11, evE.eq_12, evE.eq_13, evE.eq_14, evE.eq_15, evE.eq_16, evE.eq_17, evE.eq_18, evE.eq_19, evE.eq_20, evE.eq_21, evE.eq_22, evE.eq_23, evE.eq_24, evE.eq_26, evE.eq_27, evE.eq_28, evE.eq_29, evE_comp, evA, evAnd, evOr, evP, evI, tst, bindT.eq_1, bindT.eq_2, bindTs.eq_1, bindTs.eq_2, stow_val, stow_tmp, truO, bltO, bop_int, bopI, cmp_int, Nb.ix_tup, ix_frz, ix_tmp, len_tup, len_frz, len_tmp, atI_0, atI_1, atI_2, atI_3, ixN_0, ixN_1, ixN_2, Option.bind_some, Option.map_some, Option.bind_none, Option.map_none, List.getElem?_cons_zero, List.getElem?_cons_succ, List.set_cons_zero, List.set_cons_succ, List.length_cons, List.length_nil, List.length_map, if_true, if_false, decide_true, decide_false, Bool.not_true, Bool.not_false, Bool.false_eq_true, reduceIte, List.map_cons, List.map_nil, List.cons_append, List.nil_append, List.replicate, Nat.sub_self, Nat.reduceSub, Nat.reduceAdd, Int.reduceAdd, Int.reducePow, Int.reduceToNat, Int.reduceLE, Int.reduceLT, Nat.reduceLT, Nat.reduceLeDiff, Nat.reducePow, Int.reduceSub, Int.reduceMul, Int.reduceEq, Nat.reduceEqDiff, and_self, true_and, and_true, or_true, true_or, Int.reduceNeg, eq_self, cmp_str, tyO, tyD, isi_ii, isi_is, isi_bi, isi_bs, isi_ib, isi_bb, dec_self, szE, bnd_int, seq_tup, seq_frz, seq_tmp, add_tup, wk_ref B3, e4]
    unfold forB bAct
    show (some [some (D.ref n), some (.ref W), some d, x3, x4, some (.ref Kq), some (.ref Aq), x7, x8, x9, x10, x11]).bind _ = _
    rw [Option.bind_some, evSs.eq_2, eA, Option.bind_some, evSs.eq_2, eB, Option.bind_some, evSs.eq_2, eC, Option.bind_some, evSs.eq_2, eD, Option.bind_some]
    rfl
  · rw [r2 Aq (Ne.symm hKA), p1, List.map_append]
    rfl
  · exact p3.get (r2 n (Ne.symm hKn))
/-! a block -/
def bkD (b : List Str × List Act) : D := .tup [wD b.1, .tup (b.2.map Act.d)]
def eCnt : E := .ix (.lst [.int 2, .int 3, .int 1, .int 4, .int 2, .int 0, .int 3, .int 8]) (.call "_law_draw" [.var 0, .int 8])
def bBlk : List S := [
    .asg (.n 5) (.blt .list (.var 4)), 
    .asg (.n 6) (.lst []), 
    .for_ (.n 2) (.rng1 eCnt) bAct, 
    .app (.var 3) (.tup [.var 4, .blt .tuple (.var 6)])]
theorem blkStep {ns : List Int} {n b W aq BL : Nat} {m0 m : Mm} {x2 x4 x5 x6 x7 x8 x9 x10 x11 : Option D} {WS : List (List Str)} {w : List Str} {bks : List (List Str × List Act)} (hBm : m0.length ≤ BL) (hWB : W ≠ BL) (hW : m[W]? = some (.lst (WS.map wD))) (hWn : W ≠ n) (ha : m[aq]? = some (.lst AGES)) (han : aq ≠ n)
    (hWS : ∀ w ∈ WS, wOk w) (hl : WS.length < 100) (h0 : WS[0]? = some []) (hw : w ∈ WS) (G : Go ns [.ref aq] n (b + 97) m0 m) (OB : Off n BL m) (hBL : m[BL]? = some (.lst (bks.map bkD))) (hlb : bks.length < 500) :
    ∃ y2 y5 y6 y7 y8 y9 y10 as m', forB g4 (.n 4) bBlk (wD w) [some (.ref n), some (.ref W), x2, some (.ref BL), x4, x5, x6, x7, x8, x9, x10, x11] m = some (.nx, [some (.ref n), some (.ref W), y2, some (.ref BL), some (wD w), y5, y6, y7, y8, y9, y10, x11], m') ∧ m'[BL]? = some (.lst ((bks ++ [(w, as)]).map bkD)) ∧ m'[W]? = some (.lst (WS.map wD)) ∧ m'[aq]? = some (.lst AGES) ∧ actsOk WS w as ∧ as.length ≤ 8 ∧ Go ns [.ref aq] n b m0 m' ∧ Off n BL m' := by
  have h := G.tp
  have G0 := Go.app (h.less (c := b + 96 + 1) (by omega)) (a := [.lst (w.map .str), .lst []])
  obtain ⟨r, m1, e1, r0, r1, G1⟩ := draw2 8 (by decide) (by decide) G0.tp
  obtain ⟨c, hc, c0, c1⟩ := cnt (l := [D.int 2, .int 3, .int 1, .int 4, .int 2, .int 0, .int 3, .int 8]) (lo := 0) (hi := 8) (by
    intro d hd
    simp only [List.mem_cons, List.not_mem_nil, or_false] at hd
    rcases hd with rfl | rfl | rfl | rfl | rfl | rfl | rfl | rfl <;> exact ⟨_, rfl, by decide, by decide⟩) r0 r1
  have hr : inR c = true := inR_of (by omega) (by omega)
  have hlen : (rngD 0 c).length ≤ 8 := by
    rw [rng_len]
    omega
  have OK := G1.off _ (Off.newA h (a := .lst (w.map .str)) (c := .lst []))
  have OA := G1.off _ (Off.newB h (a := .lst (w.map .str)) (c := .lst []))
  have G01 := G0.trans G1
  obtain ⟨w1, w2⟩ := hWS w hw
  have L := loopF_genG (ff := forB g4 (.n 2) bAct) (gd := gdW (rngD 0 c, none)) (fun x : Option D × Option D × Option D × Option D × Option D => [some (.ref n), some (.ref W), x.1, some (.ref BL), some (wD w), some (.ref m.length), some (.ref (m.length + 1)), x.2.1, x.2.2.1, x.2.2.2.1, x.2.2.2.2, x11]) (fun _ => True) (fun _ => True)
    (fun ds m1 => ∃ as : List Act, ds = as.map Act.d ∧ actsOk WS w as ∧ m1[m.length]? = some (.lst ((kn w as).map .str)) ∧ (∀ x ∈ kn w as, x ∈ NN) ∧ (kn w as).length ≤ 2 + 4 * as.length ∧ Off n m.length m1) (ns := ns) (tl := [.ref aq]) (n := n) (L := m.length + 1) (m0 := m) 12 1 50 (fun _ _ _ _ => rfl)
    (fun d x ds b m1 _ j G O e hl5 => by
      obtain ⟨as, rfl, j1, j2, j3, j4, j5⟩ := j
      rw [List.length_map] at hl5
      obtain ⟨y7, y8, y9, y10, a, m2, q1, q2, q3, q4, q5, q6, q7⟩ := actStep (d := d) (x2 := x.1) (x3 := some (.ref BL)) (x4 := some (wD w)) (x7 := x.2.1) (x8 := x.2.2.1) (x9 := x.2.2.2.1) (x10 := x.2.2.2.2) (x11 := x11) (Nat.le_refl _) (by omega) (by omega) hW hWn ha han hWS hl h0 G j5 O j2 e j3 (by omega) (by omega)
      obtain ⟨b1, b2⟩ := Act.bnd_ok q4
      have al := addN_len (xs := a.bnd) (K := kn w as)
      refine ⟨(some d, y7, y8, y9, y10), [a.d], m2, q1, ⟨as ++ [a], by rw [List.map_append]; rfl, actsOk_snoc j1 q4, by rw [kn_snoc]; exact q3, by rw [kn_snoc]; exact addN_nn j3 b1, by rw [kn_snoc, List.length_append, List.length_singleton]; omega, q6⟩, by rw [q2, List.map_append]; rfl, Nat.le_refl _, Nat.le_refl _, (fun v hv => trivial), q5, q7⟩)
    (ds := rngD 0 c) (ds0 := []) (x := (x2, x7, x8, x9, x10)) (b := b) (m := m1) (fun _ _ => trivial) ⟨[], rfl, trivial, G1.ex.get end2a OK.1, w1, (by show w.length ≤ 2 + 0; omega), OK⟩ (G01.less (by omega)) OA (G1.ex.get end2b OA.1) (by rw [List.length_nil]; omega)
  obtain ⟨x, vs, m2, e2, j, h1, h2, h3, _, G2, O2⟩ := L
  obtain ⟨as, j0, j1, j2, j3, j4, j5⟩ := j
  rw [List.nil_append] at j0 h1
  subst j0
  rw [List.length_map] at h2 h3
  have B2 := G2.ex.get hBL OB.1
  have OB2 := G2.off _ OB
  obtain ⟨p1, p2, p3⟩ := (G.trans G2).app1 OB2 hBm B2 (v := bkD (w, as))
  refine ⟨x.1, some (.ref m.length), some (.ref (m.length + 1)), x.2.1, x.2.2.1, x.2.2.2.1, x.2.2.2.2, as, m2.set BL (.lst (bks.map bkD ++ [bkD (w, as)])), ?_, by rw [p1, List.map_append]; rfl, ?_, ?_, j1, by omega, p2, p3⟩
  · have hlb2 : bks.length < 16777216 := by omega
    have hd : dctO m (.val (wD w)) = none := rfl
    have hs : seqO m (.val (wD w)) = some (w.map .str) := rfl
    have eA : evS g4 (.asg (.n 5) (.blt .list (.var 4))) [some (.ref n), some (.ref W), x2, some (.ref BL), some (wD w), x5, x6, x7, x8, x9, x10, x11] m = some (.nx, [some (.ref n), some (.ref W), x2, some (.ref BL), some (wD w), some (.ref m.length), x6, x7, x8, x9, x10, x11], m ++ [.lst (w.map .str)]) := by
      simp only [evSs, evS.eq_1, evS.eq_2, evS.eq_3, evS.eq_4, evS.eq_5, evS.eq_6, evS.eq_7, evS.eq_8, evS.eq_9, evS.eq_10, evS.eq_13, evS.eq_14, evS.eq_15, evS.eq_16, evS.eq_17, evS_for, evS_whl, evE.eq_1, evE.eq_2, evE.eq_3, evE.eq_4, evE.eq_5, evE.eq_6, evE.eq_7, evE.eq_8, evE.eq_9, evE.eq_10, evE.eq_11, evE.eq_12, evE.eq_13, evE.eq_14, evE.eq_15, evE.eq_16, evE.eq_17, evE.eq_18, evE.eq_19, evE.eq_20, evE.eq_21, evE.eq_22, evE.eq_23, evE.eq_24, evE.eq_26, evE.eq_27, evE.eq_28, evE.eq_29, evE_comp, evA, evAnd, evOr, evP, evI, tst, bindT.eq_1, bindT.eq_2, bindTs.eq_1, bindTs.eq_2, stow_val, stow_tmp, truO, bltO, bop_int, bopI, cmp_int, Nb.ix_tup, ix_frz, ix_tmp, len_tup, len_frz, len_tmp, atI_0, atI_1, atI_2, atI_3, ixN_0, ixN_1, ixN_2, Option.bind_some, Option.map_some, Option.bind_none, Option.map_none, List.getElem?_cons_zero, List.getElem?_cons_succ, List.set_cons_zero, List.set_cons_succ, List.length_cons, List.length_nil, List.length_map, if_true, if_false, decide_true, decide_false, Bool.not_true, Bool.not_false, Bool.false_eq_true, reduceIte, List.map_cons, List.map_nil, List.cons_append, List.nil_append, List.replicate, Nat.sub_self, Nat.reduceSub, Nat.reduceAdd, Int.reduceAdd, Int.reducePow, Int.reduceToNat, Int.reduceLE, Int.reduceLT, Nat.reduceLT, Nat.reduceLeDiff, Nat.reducePow, Int.reduceSub, Int.reduceMul, Int.reduceEq, Nat.reduceEqDiff, and_self, true_and, and_true, or_true, true_or, Int.reduceNeg, eq_self, cmp_str, tyO, tyD, isi_ii, isi_is, isi_bi, isi_bs, isi_ib, isi_bb, dec_self, szE, bnd_int, seq_tup, seq_frz, seq_tmp, add_tup, hd, hs]
    have eB : evS g4 (.asg (.n 6) (.lst [])) [some (.ref n), some (.ref W), x2, some (.ref BL), some (wD w), some (.ref m.length), x6, x7, x8, x9, x10, x11] (m ++ [.lst (w.map .str)]) = some (.nx, [some (.ref n), some (.ref W), x2, some (.ref BL), some (wD w), some (.ref m.length), some (.ref (m.length + 1)), x7, x8, x9, x10, x11], m ++ [.lst (w.map .str), .lst []]) := by
      simp only [evSs, evS.eq_1, evS.eq_2, evS.eq_3, evS.eq_4, evS.eq_5, evS.eq_6, evS.eq_7, evS.eq_8, evS.eq_9, evS.eq_10, evS.eq_13, evS.eq_14, evS.eq_15, evS.eq_16, evS.eq_17, evS_for, evS_whl, evE.eq_1, evE.eq_2, evE.eq_3, evE.eq_4, evE.eq_5, evE.eq_6, evE.eq_7, evE.eq_8, evE.eq_9, evE.eq_10, evE.eq_11, evE.eq_12, evE.eq_13, evE.eq_14, evE.eq_15, evE.eq_16, evE.eq_17, evE.eq_18, evE.eq_19, evE.eq_20, evE.eq_21, evE.eq_22, evE.eq_23, evE.eq_24, evE.eq_26, evE.eq_27, evE.eq_28, evE.eq_29, evE_comp, evA, evAnd, evOr, evP, evI, tst, bindT.eq_1, bindT.eq_2, bindTs.eq_1, bindTs.eq_2, stow_val, stow_tmp, truO, bltO, bop_int, bopI, cmp_int, Nb.ix_tup, ix_frz, ix_tmp, len_tup, len_frz, len_tmp, atI_0, atI_1, atI_2, atI_3, ixN_0, ixN_1, ixN_2, Option.bind_some, Option.map_some, Option.bind_none, Option.map_none, List.getElem?_cons_zero, List.getElem?_cons_succ, List.set_cons_zero, List.set_cons_succ, List.length_cons, List.length_nil, List.length_map, if_true, if_false, decide_true, decide_false, Bool.not_true, Bool.not_false, Bool.false_eq_true, reduceIte, List.map_cons, List.map_nil, List.cons_append, List.nil_append, List.replicate, Nat.sub_self, Nat.reduceSub, Nat.reduceAdd, Int.reduceAdd, Int.reducePow, Int.reduceToNat, Int.reduceLE, Int.reduceLT, Nat.reduceLT, Nat.reduceLeDiff, Nat.reducePow, Int.reduceSub, Int.reduceMul, Int.reduceEq, Nat.reduceEqDiff, and_self, true_and, and_true, or_true, true_or, Int.reduceNeg, eq_self, cmp_str, tyO, tyD, isi_ii, isi_is, isi_bi, isi_bs, isi_ib, isi_bb, dec_self, szE, bnd_int, seq_tup, seq_frz, seq_tmp, add_tup, List.length_append, List.append_assoc]
    have eC : evS g4 (.for_ (.n 2) (.rng1 eCnt) bAct) [some (.ref n), some (.ref W), x2, some (.ref BL), some (wD w), some (.ref m.length), some (.ref (m.length + 1)), x7, x8, x9, x10, x11] (m ++ [.lst (w.map .str), .lst []]) = some (.nx, [some (.ref n), some (.ref W), x.1, some (.ref BL), some (wD w), some (.ref m.length), some (.ref (m.length + 1)), x.2.1, x.2.2.1, x.2.2.2.1, x.2.2.2.2, x11], m2) := by
      have h : evE g4 eCnt [some (.ref n), some (.ref W), x2, some (.ref BL), some (wD w), some (.ref m.length), some (.ref (m.length + 1)), x7, x8, x9, x10, x11] (m ++ [.lst (w.map .str), .lst []]) = some (.val (.int c), m1) := by
        unfold eCnt
        simp only [evSs, evS.eq_1, evS.eq_2, evS.eq_3, evS.eq_4, evS.eq_5, evS.eq_6, evS.eq_7, evS.eq_8, evS.eq_9, evS.eq_10, evS.eq_13, evS.eq_14, evS.eq_15, evS.eq_16, evS.eq_17, evS_for, evS_whl, evE.eq_1, evE.eq_2, evE.eq_3, evE.eq_4, evE.eq_5, evE.eq_6, evE.eq_7, evE.eq_8, evE.eq_9, evE.eq_10, evE.eq_11, evE.eq_12, evE.eq_13, evE.eq_14, evE.eq_15, evE.eq_16, evE.eq_17, evE.eq_18, evE.eq_19, evE.eq_20, evE.eq_21, evE.eq_22, evE.eq_23, evE.eq_24, evE.eq_26, evE.eq_27, evE.eq_28, evE.eq_29, evE_comp, evA, evAnd, evOr, evP, evI, tst, bindT.eq_1, bindT.eq_2, bindTs.eq_1, bindTs.eq_2, stow_val, stow_tmp, truO, bltO, bop_int, bopI, cmp_int, Nb.ix_tup, ix_frz, ix_tmp, len_tup, len_frz, len_tmp, atI_0, atI_1, atI_2, atI_3, ixN_0, ixN_1, ixN_2, Option.bind_some, Option.map_some, Option.bind_none, Option.map_none, List.getElem?_cons_zero, List.getElem?_cons_succ, List.set_cons_zero, List.set_cons_succ, List.length_cons, List.length_nil, List.length_map, if_true, if_false, decide_true, decide_false, Bool.not_true, Bool.not_false, Bool.false_eq_true, reduceIte, List.map_cons, List.map_nil, List.cons_append, List.nil_append, List.replicate, Nat.sub_self, Nat.reduceSub, Nat.reduceAdd, Int.reduceAdd, Int.reducePow, Int.reduceToNat, Int.reduceLE, Int.reduceLT, Nat.reduceLT, Nat.reduceLeDiff, Nat.reducePow, Int.reduceSub, Int.reduceMul, Int.reduceEq, Nat.reduceEqDiff, and_self, true_and, and_true, or_true, true_or, Int.reduceNeg, eq_self, cmp_str, tyO, tyD, isi_ii, isi_is, isi_bi, isi_bs, isi_ib, isi_bb, dec_self, szE, bnd_int, seq_tup, seq_frz, seq_tmp, add_tup, p_4_Ldraw, e1, hc]
      rw [evS_for, rngLen h hr, Option.bind_some]
      exact e2
    have eD : evS g4 (.app (.var 3) (.tup [.var 4, .blt .tuple (.var 6)])) [some (.ref n), some (.ref W), x.1, some (.ref BL), some (wD w), some (.ref m.length), some (.ref (m.length + 1)), x.2.1, x.2.2.1, x.2.2.2.1, x.2.2.2.2, x11] m2 = some (.nx, [some (.ref n), some (.ref W), x.1, some (.ref BL), some (wD w), some (.ref m.length), some (.ref (m.length + 1)), x.2.1, x.2.2.1, x.2.2.2.1, x.2.2.2.2, x11], m2.set BL (.lst (bks.map bkD ++ [bkD (w, as)]))) := by
      have hbl : (bks.map bkD).length < 16777216 := by
        rw [List.length_map]
        exact hlb2
      clear hlb2
      have ebk : bkD (w, as) = .tup [wD w, .tup (as.map Act.d)] := rfl
      rw [ebk]
      generalize bks.map bkD = bl at *
      simp only [evSs, evS.eq_1, evS.eq_2, evS.eq_3, evS.eq_4, evS.eq_5, evS.eq_6, evS.eq_7, evS.eq_8, evS.eq_9, evS.eq_10, evS.eq_13, evS.eq_14, evS.eq_15, evS.eq_16, evS.eq_17, evS_for, evS_whl, evE.eq_1, evE.eq_2, evE.eq_3, evE.eq_4, evE.eq_5, evE.eq_6, evE.eq_7, evE.eq_8, evE.eq_9, evE.eq_10, evE.eq_11, evE.eq_12, evE.eq_13, evE.eq_14, evE.eq_15, evE.eq_16, evE.eq_17, evE.eq_18, evE.eq_19, evE.eq_20, evE.eq_21, evE.eq_22, evE.eq_23, evE.eq_24, evE.eq_26, evE.eq_27, evE.eq_28, evE.eq_29, evE_comp, evA, evAnd, evOr, evP, evI, tst, bindT.eq_1, bindT.eq_2, bindTs.eq_1, bindTs.eq_2, stow_val, stow_tmp, truO, bltO, bop_int, bopI, cmp_int, Nb.ix_tup, ix_frz, ix_tmp, len_tup, len_frz, len_tmp, atI_0, atI_1, atI_2, atI_3, ixN_0, ixN_1, ixN_2, Option.bind_some, Option.map_some, Option.bind_none, Option.map_none, List.getElem?_cons_zero, List.getElem?_cons_succ, List.set_cons_zero, List.set_cons_succ, List.length_cons, List.length_nil, List.length_map, if_true, if_false, decide_true, decide_false, Bool.not_true, Bool.not_false, Bool.false_eq_true, reduceIte, List.map_cons, List.map_nil, List.cons_append, List.nil_append, List.replicate, Nat.sub_self, Nat.reduceSub, Nat.reduceAdd, Int.reduceAdd, Int.reducePow, Int.reduceToNat, Int.reduceLE, Int.reduceLT, Nat.reduceLT, Nat.reduceLeDiff, Nat.reducePow, Int.reduceSub, Int.reduceMul, Int.reduceEq, Nat.reduceEqDiff, and_self, true_and, and_true, or_true, true_or, Int.reduceNeg, eq_self, cmp_str, tyO, tyD, isi_ii, isi_is, isi_bi, isi_bs, isi_ib, isi_bb, dec_self, szE, bnd_int, seq_tup, seq_frz, seq_tmp, add_tup, lst_ref B2, seq_ref h1, upd_lst B2, hbl, bkD]
    unfold forB bBlk
    show (some [some (D.ref n), some (.ref W), x2, some (.ref BL), some (wD w), x5, x6, x7, x8, x9, x10, x11]).bind _ = _
    rw [Option.bind_some, evSs.eq_2, eA, Option.bind_some, evSs.eq_2, eB, Option.bind_some, evSs.eq_2, eC, Option.bind_some, evSs.eq_2, eD, Option.bind_some]
    rfl
  · rw [List.getElem?_set_ne (Ne.symm hWB)]
    exact G2.ex.get hW hWn
  · by_cases hq : aq = BL
    · exact absurd hq (by
        intro e
        rw [← e, ha] at hBL
        have := congrArg (fun o => match o with
          | some (MO.lst (D.non :: _)) => true
          | _ => false) hBL
        cases bks with
        | nil => cases hBL
        | cons b bks => cases hBL)
    · rw [List.getElem?_set_ne (Ne.symm hq)]
      exact G2.ex.get ha han
end LawP

namespace LawP
open PySem PySem.Spec L2 Nb Hd
def progD (bks : List (List Str × List Act)) : D := .tup (bks.map bkD)
/-- a program as it is drawn: names wanted, acts that go by what is known -/
structure ProgOk (bks : List (List Str × List Act)) : Prop where
  lo : 1 ≤ bks.length
  hi : bks.length ≤ 6
  zero : (bks.map (·.1))[0]? = some []
  ok : ∀ b ∈ bks, wOk b.1 ∧ actsOk (bks.map (·.1)) b.1 b.2 ∧ b.2.length ≤ 8
theorem blkLoop {ns : List Int} {n W aq BL : Nat} {m0 : Mm} {WS : List (List Str)} (hBm : m0.length ≤ BL) (hWB : W ≠ BL) (hWn : W ≠ n) (han : aq ≠ n) (hWS : ∀ w ∈ WS, wOk w) (hl : WS.length < 100) (h0 : WS[0]? = some []) :
    ∀ (rest : List (List Str)) (bks : List (List Str × List Act)) (b : Nat) (x2 x4 x5 x6 x7 x8 x9 x10 : Option D) (m : Mm), (∀ w ∈ rest, w ∈ WS) → bks.length + rest.length < 400 → m[W]? = some (.lst (WS.map wD)) → m[aq]? = some (.lst AGES) → Go ns [.ref aq] n (b + 97 * rest.length) m0 m → Off n BL m → m[BL]? = some (.lst (bks.map bkD)) →
      ∃ y2 y4 y5 y6 y7 y8 y9 y10, ∃ (new : List (List Str × List Act)), ∃ m', loopF (forB g4 (.n 4) bBlk) (gdW (WS.map wD, some W)) (rest.map wD) [some (.ref n), some (.ref W), x2, some (.ref BL), x4, x5, x6, x7, x8, x9, x10, none] m = some (.nx, [some (.ref n), some (.ref W), y2, some (.ref BL), y4, y5, y6, y7, y8, y9, y10, none], m') ∧
        m'[BL]? = some (.lst ((bks ++ new).map bkD)) ∧ new.map (·.1) = rest ∧ (∀ b ∈ new, wOk b.1 ∧ actsOk WS b.1 b.2 ∧ b.2.length ≤ 8) ∧ Go ns [.ref aq] n b m0 m'
  | [], bks, b, x2, x4, x5, x6, x7, x8, x9, x10, m, _, _, hW, _, G, _, hB => ⟨x2, x4, x5, x6, x7, x8, x9, x10, [], m, loopF_end (gd_ref hW), by rw [List.append_nil]; exact hB, rfl, (fun b hb => nomatch hb), G⟩
  | w :: rest, bks, b, x2, x4, x5, x6, x7, x8, x9, x10, m, hr, hlb, hW, ha, G, O, hB => by
    rw [List.length_cons] at hlb G
    have hw := hr w List.mem_cons_self
    obtain ⟨y2, y5, y6, y7, y8, y9, y10, as, m1, q1, q2, q3, q4, q5, q6, q7, q8⟩ := blkStep (b := b + 97 * rest.length) (x2 := x2) (x4 := x4) (x5 := x5) (x6 := x6) (x7 := x7) (x8 := x8) (x9 := x9) (x10 := x10) (x11 := none) hBm hWB hW hWn ha han hWS hl h0 hw (G.less (by omega)) O hB (by omega)
    obtain ⟨z2, z4, z5, z6, z7, z8, z9, z10, new, m2, r1, r2, r3, r4, r5⟩ := blkLoop hBm hWB hWn han hWS hl h0 rest (bks ++ [(w, as)]) b y2 (some (wD w)) y5 y6 y7 y8 y9 y10 m1 (fun v hv => hr v (List.mem_cons_of_mem _ hv)) (by rw [List.length_append, List.length_singleton]; omega) q3 q4 q7 q8 q2
    refine ⟨z2, z4, z5, z6, z7, z8, z9, z10, (w, as) :: new, m2, (loopF_nx (gd_ref hW) q1).trans r1, by rw [r2, List.append_assoc]; rfl, by rw [List.map_cons, r3], fun c hc => ?_, r5⟩
    rcases List.mem_cons.mp hc with rfl | hc
    · exact ⟨hWS w hw, q5, q6⟩
    · exact r4 c hc
def bWant : List S := [.app (.var 1) (.ix (.lst [.tup [], .tup [.str "n"], .tup [.str "go", .str "n"], .tup [.str "nm"], .tup []]) (.call "_law_draw" [.var 0, .int 5]))]
def eWants : E := .ix (.lst [.int 0, .int 1, .int 2, .int 1, .int 0, .int 2, .int 5]) (.call "_law_draw" [.var 0, .int 7])
def WL : List (List Str) := [[], ["n"], ["go", "n"], ["nm"], []]
theorem wl_ok : ∀ w ∈ WL, wOk w := by
  intro w hw
  simp only [WL, List.mem_cons, List.not_mem_nil, or_false] at hw
  rcases hw with rfl | rfl | rfl | rfl | rfl
  · exact ⟨(fun x hx => nomatch hx), by decide⟩
  · exact ⟨fun x hx => by rw [List.mem_singleton.mp hx]; simp [NN], by decide⟩
  · refine ⟨fun x hx => ?_, by decide⟩
    simp only [List.mem_cons, List.not_mem_nil, or_false] at hx
    rcases hx with rfl | rfl <;> simp [NN]
  · exact ⟨fun x hx => by rw [List.mem_singleton.mp hx]; simp [NN], by decide⟩
  · exact ⟨(fun x hx => nomatch hx), by decide⟩
theorem Lprogram {ns : List Int} {n b aq : Nat} {m : Mm} (h : Tp ns [.ref aq] n (b + 600) m) (ha : m[aq]? = some (.lst AGES)) (han : aq ≠ n) :
    ∃ bks m', F_Lprogram [.ref n] m = some (.val (progD bks), m') ∧ ProgOk bks ∧ Go ns [.ref aq] n b m m' := by
  have G0 := Go.app (h.less (c := b + 599 + 1) (by omega)) (a := [.lst [wD []]])
  have OW0 := Off.new h (a := .lst [wD []])
  obtain ⟨r, m1, e1, r0, r1, G1⟩ := draw2 7 (by decide) (by decide) G0.tp
  obtain ⟨c, hc, c0, c1⟩ := cnt (l := [D.int 0, .int 1, .int 2, .int 1, .int 0, .int 2, .int 5]) (lo := 0) (hi := 5) (by
    intro d hd
    simp only [List.mem_cons, List.not_mem_nil, or_false] at hd
    rcases hd with rfl | rfl | rfl | rfl | rfl | rfl | rfl <;> exact ⟨_, rfl, by decide, by decide⟩) r0 r1
  have hr : inR c = true := inR_of (by omega) (by omega)
  have hlen : (rngD 0 c).length ≤ 5 := by
    rw [rng_len]
    omega
  have hWn : m.length ≠ n := nne h (Nat.le_refl _)
  have OW1 := G1.off _ OW0
  -- the names wanted
  have L := loopF_genG (ff := forB g4 (.n 2) bWant) (gd := gdW (rngD 0 c, none)) (fun x : Option D => [some (.ref n), some (.ref m.length), x, none, none, none, none, none, none, none, none, none]) (fun _ => True) (fun _ => True)
    (fun ds m1 => ∃ WS : List (List Str), ds = WS.map wD ∧ (∀ w ∈ WS, wOk w) ∧ WS[0]? = some []) (ns := ns) (tl := [.ref aq]) (n := n) (L := m.length) (m0 := m) 1 0 50 (fun _ _ _ _ => rfl)
    (fun d x ds b m1 _ j G O e hl => by
      obtain ⟨WS, rfl, j1, j2⟩ := j
      rw [List.length_map] at hl
      obtain ⟨s, m2, e2, s0, s1, G2⟩ := draw2 5 (by decide) (by decide) G.tp
      obtain ⟨z, hz, hzm, _⟩ := atI_lt (l := WL.map wD) s0 s1
      obtain ⟨w, hw, rfl⟩ := List.mem_map.mp hzm
      have hz : atI [D.tup [], .tup [.str "n"], .tup [.str "go", .str "n"], .tup [.str "nm"], .tup []] s = some (wD w) := hz
      have f2 := G2.ex.get e O.1
      obtain ⟨q1, q2, q3⟩ := (G.trans G2).app1 (G2.off _ O) (Nat.le_refl _) f2 (v := wD w)
      have hl2 : (WS.map wD).length < 16777216 := by
        rw [List.length_map]
        omega
      refine ⟨some d, [wD w], _, ?_, ⟨WS ++ [w], by rw [List.map_append]; rfl, fun v hv => ?_, ?_⟩, q1, Nat.le_refl _, Nat.zero_le _, (fun v hv => trivial), q2, q3⟩
      · unfold forB bWant
        generalize WS.map wD = wl at *
        simp only [evSs, evS.eq_1, evS.eq_2, evS.eq_3, evS.eq_4, evS.eq_5, evS.eq_6, evS.eq_7, evS.eq_8, evS.eq_9, evS.eq_10, evS.eq_13, evS.eq_14, evS.eq_15, evS.eq_16, evS.eq_17, evS_for, evS_whl, evE.eq_1, evE.eq_2, evE.eq_3, evE.eq_4, evE.eq_5, evE.eq_6, evE.eq_7, evE.eq_8, evE.eq_9, evE.eq_10, evE.eq_11, evE.eq_12, evE.eq_13, evE.eq_14, evE.eq_15, evE.eq_16, evE.eq_17, evE.eq_18, evE.eq_19, evE.eq_20, evE.eq_21, evE.eq_22, evE.eq_23, evE.eq_24, evE.eq_26, evE.eq_27, evE.eq_28, evE.eq_29, evE_comp, evA, evAnd, evOr, evP, evI, tst, bindT.eq_1, bindT.eq_2, bindTs.eq_1, bindTs.eq_2, stow_val, stow_tmp, truO, bltO, bop_int, bopI, cmp_int, Nb.ix_tup, ix_frz, ix_tmp, len_tup, len_frz, len_tmp, atI_0, atI_1, atI_2, atI_3, ixN_0, ixN_1, ixN_2, Option.bind_some, Option.map_some, Option.bind_none, Option.map_none, List.getElem?_cons_zero, List.getElem?_cons_succ, List.set_cons_zero, List.set_cons_succ, List.length_cons, List.length_nil, List.length_map, if_true, if_false, decide_true, decide_false, Bool.not_true, Bool.not_false, Bool.false_eq_true, reduceIte, List.map_cons, List.map_nil, List.cons_append, List.nil_append, List.replicate, Nat.sub_self, Nat.reduceSub, Nat.reduceAdd, Int.reduceAdd, Int.reducePow, Int.reduceToNat, Int.reduceLE, Int.reduceLT, Nat.reduceLT, Nat.reduceLeDiff, Nat.reducePow, Int.reduceSub, Int.reduceMul, Int.reduceEq, Nat.reduceEqDiff, and_self, true_and, and_true, or_true, true_or, Int.reduceNeg, eq_self, cmp_str, tyO, tyD, isi_ii, isi_is, isi_bi, isi_bs, isi_ib, isi_bb, dec_self, szE, bnd_int, seq_tup, seq_frz, seq_tmp, add_tup, p_4_Ldraw, e2, hz, lst_ref e, upd_lst f2, hl2]
      · rcases List.mem_append.mp hv with hv | hv
        · exact j1 v hv
        · rw [List.mem_singleton.mp hv]
          exact wl_ok w hw
      · cases WS with
        | nil => cases j2
        | cons v WS => exact j2)
    (ds := rngD 0 c) (ds0 := [wD []]) (x := none) (b := b + 582) (m := m1) (fun _ _ => trivial) ⟨[[]], rfl, fun w hw => by rw [List.mem_singleton.mp hw]; exact wl_ok [] (by simp [WL]), rfl⟩ ((G0.trans G1).less (by omega)) OW1 (G1.ex.get get_new hWn) (by rw [List.length_singleton]; omega)
  obtain ⟨x2, vs, m2, e2, j, h1, h2, _, _, G2, O2⟩ := L
  obtain ⟨WS, j0, hWS, hW0⟩ := j
  rw [j0] at h1
  have hWl : WS.length ≤ 6 := by
    have := congrArg List.length j0
    rw [List.length_append, List.length_singleton, List.length_map] at this
    omega
  have hW1 : 1 ≤ WS.length := by
    cases WS with
    | nil => cases hW0
    | cons _ _ => rw [List.length_cons]; omega
  -- the blocks
  have ha2 := G2.ex.get ha han
  have G3 := Go.app G2.tp (a := [.lst []])
  have hWlt := lt_of_get h1
  have hmle := G2.ex.1
  obtain ⟨y2, y4, y5, y6, y7, y8, y9, y10, bks, m3, e3, l1, l2, l3, G4⟩ := blkLoop (n := n) (aq := aq) (W := m.length) (BL := m2.length) (m0 := m) hmle (by omega) hWn han hWS (by omega) hW0 WS [] b x2 none none none none none none none (m2 ++ [.lst []]) (fun w hw => hw) (by rw [List.length_nil]; omega) (get_old h1) (get_old ha2) ((G2.trans G3).less (by omega)) (Off.new G2.tp) get_new
  rw [List.nil_append] at l1
  have hbl : bks.length = WS.length := by rw [← l2, List.length_map]
  refine ⟨bks, m3, ?_, ⟨by omega, by omega, by rw [l2]; exact hW0, fun b hb => by rw [l2]; exact l3 b hb⟩, G4⟩
  have eA : evS g4 (.asg (.n 1) (.lst [.tup []])) [some (.ref n), none, none, none, none, none, none, none, none, none, none, none] m = some (.nx, [some (.ref n), some (.ref m.length), none, none, none, none, none, none, none, none, none, none], m ++ [.lst [wD []]]) := by
    have : wD [] = .tup [] := rfl
    rw [this]
    simp only [evSs, evS.eq_1, evS.eq_2, evS.eq_3, evS.eq_4, evS.eq_5, evS.eq_6, evS.eq_7, evS.eq_8, evS.eq_9, evS.eq_10, evS.eq_13, evS.eq_14, evS.eq_15, evS.eq_16, evS.eq_17, evS_for, evS_whl, evE.eq_1, evE.eq_2, evE.eq_3, evE.eq_4, evE.eq_5, evE.eq_6, evE.eq_7, evE.eq_8, evE.eq_9, evE.eq_10, evE.eq_11, evE.eq_12, evE.eq_13, evE.eq_14, evE.eq_15, evE.eq_16, evE.eq_17, evE.eq_18, evE.eq_19, evE.eq_20, evE.eq_21, evE.eq_22, evE.eq_23, evE.eq_24, evE.eq_26, evE.eq_27, evE.eq_28, evE.eq_29, evE_comp, evA, evAnd, evOr, evP, evI, tst, bindT.eq_1, bindT.eq_2, bindTs.eq_1, bindTs.eq_2, stow_val, stow_tmp, truO, bltO, bop_int, bopI, cmp_int, Nb.ix_tup, ix_frz, ix_tmp, len_tup, len_frz, len_tmp, atI_0, atI_1, atI_2, atI_3, ixN_0, ixN_1, ixN_2, Option.bind_some, Option.map_some, Option.bind_none, Option.map_none, List.getElem?_cons_zero, List.getElem?_cons_succ, List.set_cons_zero, List.set_cons_succ, List.length_cons, List.length_nil, List.length_map, if_true, if_false, decide_true, decide_false, Bool.not_true, Bool.not_false, Bool.false_eq_true, reduceIte, List.map_cons, List.map_nil, List.cons_append, List.nil_append, List.replicate, Nat.sub_self, Nat.reduceSub, Nat.reduceAdd, Int.reduceAdd, Int.reducePow, Int.reduceToNat, Int.reduceLE, Int.reduceLT, Nat.reduceLT, Nat.reduceLeDiff, Nat.reducePow, Int.reduceSub, Int.reduceMul, Int.reduceEq, Nat.reduceEqDiff, and_self, true_and, and_true, or_true, true_or, Int.reduceNeg, eq_self, cmp_str, tyO, tyD, isi_ii, isi_is, isi_bi, isi_bs, isi_ib, isi_bb, dec_self, szE, bnd_int, seq_tup, seq_frz, seq_tmp, add_tup]
  have eB : evS g4 (.for_ (.n 2) (.rng1 eWants) bWant) [some (.ref n), some (.ref m.length), none, none, none, none, none, none, none, none, none, none] (m ++ [.lst [wD []]]) = some (.nx, [some (.ref n), some (.ref m.length), x2, none, none, none, none, none, none, none, none, none], m2) := by
    have h : evE g4 eWants [some (.ref n), some (.ref m.length), none, none, none, none, none, none, none, none, none, none] (m ++ [.lst [wD []]]) = some (.val (.int c), m1) := by
      unfold eWants
      simp only [evSs, evS.eq_1, evS.eq_2, evS.eq_3, evS.eq_4, evS.eq_5, evS.eq_6, evS.eq_7, evS.eq_8, evS.eq_9, evS.eq_10, evS.eq_13, evS.eq_14, evS.eq_15, evS.eq_16, evS.eq_17, evS_for, evS_whl, evE.eq_1, evE.eq_2, evE.eq_3, evE.eq_4, evE.eq_5, evE.eq_6, evE.eq_7, evE.eq_8, evE.eq_9, evE.eq_10, evE.eq_11, evE.eq_12, evE.eq_13, evE.eq_14, evE.eq_15, evE.eq_16, evE.eq_17, evE.eq_18, evE.eq_19, evE.eq_20, evE.eq_21, evE.eq_22, evE.eq_23, evE.eq_24, evE.eq_26, evE.eq_27, evE.eq_28, evE.eq_29, evE_comp, evA, evAnd, evOr, evP, evI, tst, bindT.eq_1, bindT.eq_2, bindTs.eq_1, bindTs.eq_2, stow_val, stow_tmp, truO, bltO, bop_int, bopI, cmp_int, Nb.ix_tup, ix_frz, ix_tmp, len_tup, len_frz, len_tmp, atI_0, atI_1, atI_2, atI_3, ixN_0, ixN_1, ixN_2, Option.bind_some, Option.map_some, Option.bind_none, Option.map_none, List.getElem?_cons_zero, List.getElem?_cons_succ, List.set_cons_zero, List.set_cons_succ, List.length_cons, List.length_nil, List.length_map, if_true, if_false, decide_true, decide_false, Bool.not_true, Bool.not_false, Bool.false_eq_true, reduceIte, List.map_cons, List.map_nil, List.cons_append, List.nil_append, List.replicate, Nat.sub_self, Nat.reduceSub, Nat.reduceAdd, Int.reduceAdd, Int.reducePow, Int.reduceToNat, Int.reduceLE, Int.reduceLT, Nat.reduceLT, Nat.reduceLeDiff, Nat.reducePow, Int.reduceSub, Int.reduceMul, Int.reduceEq, Nat.reduceEqDiff, and_self, true_and, and_true, or_true, true_or, Int.reduceNeg, eq_self, cmp_str, tyO, tyD, isi_ii, isi_is, isi_bi, isi_bs, isi_ib, isi_bb, dec_self, szE, bnd_int, seq_tup, seq_frz, seq_tmp, add_tup, p_4_Ldraw, e1, hc]
    rw [evS_for, rngLen h hr, Option.bind_some]
    exact e2
  have eC : evS g4 (.asg (.n 3) (.lst [])) [some (.ref n), some (.ref m.length), x2, none, none, none, none, none, none, none, none, none] m2 = some (.nx, [some (.ref n), some (.ref m.length), x2, some (.ref m2.length), none, none, none, none, none, none, none, none], m2 ++ [.lst []]) := by
    simp only [evSs, evS.eq_1, evS.eq_2, evS.eq_3, evS.eq_4, evS.eq_5, evS.eq_6, evS.eq_7, evS.eq_8, evS.eq_9, evS.eq_10, evS.eq_13, evS.eq_14, evS.eq_15, evS.eq_16, evS.eq_17, evS_for, evS_whl, evE.eq_1, evE.eq_2, evE.eq_3, evE.eq_4, evE.eq_5, evE.eq_6, evE.eq_7, evE.eq_8, evE.eq_9, evE.eq_10, evE.eq_11, evE.eq_12, evE.eq_13, evE.eq_14, evE.eq_15, evE.eq_16, evE.eq_17, evE.eq_18, evE.eq_19, evE.eq_20, evE.eq_21, evE.eq_22, evE.eq_23, evE.eq_24, evE.eq_26, evE.eq_27, evE.eq_28, evE.eq_29, evE_comp, evA, evAnd, evOr, evP, evI, tst, bindT.eq_1, bindT.eq_2, bindTs.eq_1, bindTs.eq_2, stow_val, stow_tmp, truO, bltO, bop_int, bopI, cmp_int, Nb.ix_tup, ix_frz, ix_tmp, len_tup, len_frz, len_tmp, atI_0, atI_1, atI_2, atI_3, ixN_0, ixN_1, ixN_2, Option.bind_some, Option.map_some, Option.bind_none, Option.map_none, List.getElem?_cons_zero, List.getElem?_cons_succ, List.set_cons_zero, List.set_cons_succ, List.length_cons, List.length_nil, List.length_map, if_true, if_false, decide_true, decide_false, Bool.not_true, Bool.not_false, Bool.false_eq_true, reduceIte, List.map_cons, List.map_nil, List.cons_append, List.nil_append, List.replicate, Nat.sub_self, Nat.reduceSub, Nat.reduceAdd, Int.reduceAdd, Int.reducePow, Int.reduceToNat, Int.reduceLE, Int.reduceLT, Nat.reduceLT, Nat.reduceLeDiff, Nat.reducePow, Int.reduceSub, Int.reduceMul, Int.reduceEq, Nat.reduceEqDiff, and_self, true_and, and_true, or_true, true_or, Int.reduceNeg, eq_self, cmp_str, tyO, tyD, isi_ii, isi_is, isi_bi, isi_bs, isi_ib, isi_bb, dec_self, szE, bnd_int, seq_tup, seq_frz, seq_tmp, add_tup]
  have eD : evS g4 (.for_ (.n 4) (.e (.var 1)) bBlk) [some (.ref n), some (.ref m.length), x2, some (.ref m2.length), none, none, none, none, none, none, none, none] (m2 ++ [.lst []]) = some (.nx, [some (.ref n), some (.ref m.length), y2, some (.ref m2.length), y4, y5, y6, y7, y8, y9, y10, none], m3) := by
    have hw : (m2 ++ [MO.lst []])[m.length]? = some (.lst (WS.map wD)) := get_old h1
    generalize m2 ++ [MO.lst []] = M at *
    generalize WS.map wD = wl at *
    simp only [evSs, evS.eq_1, evS.eq_2, evS.eq_3, evS.eq_4, evS.eq_5, evS.eq_6, evS.eq_7, evS.eq_8, evS.eq_9, evS.eq_10, evS.eq_13, evS.eq_14, evS.eq_15, evS.eq_16, evS.eq_17, evS_for, evS_whl, evE.eq_1, evE.eq_2, evE.eq_3, evE.eq_4, evE.eq_5, evE.eq_6, evE.eq_7, evE.eq_8, evE.eq_9, evE.eq_10, evE.eq_11, evE.eq_12, evE.eq_13, evE.eq_14, evE.eq_15, evE.eq_16, evE.eq_17, evE.eq_18, evE.eq_19, evE.eq_20, evE.eq_21, evE.eq_22, evE.eq_23, evE.eq_24, evE.eq_26, evE.eq_27, evE.eq_28, evE.eq_29, evE_comp, evA, evAnd, evOr, evP, evI, tst, bindT.eq_1, bindT.eq_2, bindTs.eq_1, bindTs.eq_2, stow_val, stow_tmp, truO, bltO, bop_int, bopI, cmp_int, Nb.ix_tup, ix_frz, ix_tmp, len_tup, len_frz, len_tmp, atI_0, atI_1, atI_2, atI_3, ixN_0, ixN_1, ixN_2, Option.bind_some, Option.map_some, Option.bind_none, Option.map_none, List.getElem?_cons_zero, List.getElem?_cons_succ, List.set_cons_zero, List.set_cons_succ, List.length_cons, List.length_nil, List.length_map, if_true, if_false, decide_true, decide_false, Bool.not_true, Bool.not_false, Bool.false_eq_true, reduceIte, List.map_cons, List.map_nil, List.cons_append, List.nil_append, List.replicate, Nat.sub_self, Nat.reduceSub, Nat.reduceAdd, Int.reduceAdd, Int.reducePow, Int.reduceToNat, Int.reduceLE, Int.reduceLT, Nat.reduceLT, Nat.reduceLeDiff, Nat.reducePow, Int.reduceSub, Int.reduceMul, Int.reduceEq, Nat.reduceEqDiff, and_self, true_and, and_true, or_true, true_or, Int.reduceNeg, eq_self, cmp_str, tyO, tyD, isi_ii, isi_is, isi_bi, isi_bs, isi_ib, isi_bb, dec_self, szE, bnd_int, seq_tup, seq_frz, seq_tmp, add_tup, wk_ref hw, e3]
  unfold F_Lprogram runF s_Lprogram
  rw [e_Lprogram]
  show (evSs g4 [.asg (.n 1) (.lst [.tup []]), .for_ (.n 2) (.rng1 eWants) bWant, .asg (.n 3) (.lst []), .for_ (.n 4) (.e (.var 1)) bBlk, .ret _] [some (.ref n), none, none, none, none, none, none, none, none, none, none, none] m).bind _ = _
  rw [evSs.eq_2, eA, Option.bind_some, evSs.eq_2, eB, Option.bind_some, evSs.eq_2, eC, Option.bind_some, evSs.eq_2, eD, Option.bind_some]
  show (evSs g4 [.ret _] _ _).bind _ = _
  unfold progD
  generalize bks.map bkD = bl at *
  simp only [evSs, evS.eq_1, evS.eq_2, evS.eq_3, evS.eq_4, evS.eq_5, evS.eq_6, evS.eq_7, evS.eq_8, evS.eq_9, evS.eq_10, evS.eq_13, evS.eq_14, evS.eq_15, evS.eq_16, evS.eq_17, evS_for, evS_whl, evE.eq_1, evE.eq_2, evE.eq_3, evE.eq_4, evE.eq_5, evE.eq_6, evE.eq_7, evE.eq_8, evE.eq_9, evE.eq_10, evE.eq_11, evE.eq_12, evE.eq_13, evE.eq_14, evE.eq_15, evE.eq_16, evE.eq_17, evE.eq_18, evE.eq_19, evE.eq_20, evE.eq_21, evE.eq_22, evE.eq_23, evE.eq_24, evE.eq_26, evE.eq_27, evE.eq_28, evE.eq_29, evE_comp, evA, evAnd, evOr, evP, evI, tst, bindT.eq_1, bindT.eq_2, bindTs.eq_1, bindTs.eq_2, stow_val, stow_tmp, truO, bltO, bop_int, bopI, cmp_int, Nb.ix_tup, ix_frz, ix_tmp, len_tup, len_frz, len_tmp, atI_0, atI_1, atI_2, atI_3, ixN_0, ixN_1, ixN_2, Option.bind_some, Option.map_some, Option.bind_none, Option.map_none, List.getElem?_cons_zero, List.getElem?_cons_succ, List.set_cons_zero, List.set_cons_succ, List.length_cons, List.length_nil, List.length_map, if_true, if_false, decide_true, decide_false, Bool.not_true, Bool.not_false, Bool.false_eq_true, reduceIte, List.map_cons, List.map_nil, List.cons_append, List.nil_append, List.replicate, Nat.sub_self, Nat.reduceSub, Nat.reduceAdd, Int.reduceAdd, Int.reducePow, Int.reduceToNat, Int.reduceLE, Int.reduceLT, Nat.reduceLT, Nat.reduceLeDiff, Nat.reducePow, Int.reduceSub, Int.reduceMul, Int.reduceEq, Nat.reduceEqDiff, and_self, true_and, and_true, or_true, true_or, Int.reduceNeg, eq_self, cmp_str, tyO, tyD, isi_ii, isi_is, isi_bi, isi_bs, isi_ib, isi_bb, dec_self, szE, bnd_int, seq_tup, seq_frz, seq_tmp, add_tup, seq_ref l1]
end LawP

namespace LawP
open PySem PySem.Spec L2 Nb Hd
/-! ### fields of any kind -/
inductive Gf where | is (v : D) | bare (x : Str) | bind (x : Str) | as_ (x : Str) | next (x : Str)
def BW : List Str := ["any", "word", "number"]
def Gf.d : Gf → D
  | .is v => .tup [.str "is", v]
  | .bare x => .tup [.str x]
  | .bind x => .tup [.str "bind", .str x]
  | .as_ x => .tup [.str "as", .str x]
  | .next x => .tup [.str "next", .str x]
def Gf.w : Gf → Str
  | .is _ => "is"
  | .bare x => x
  | .bind _ => "bind"
  | .as_ _ => "as"
  | .next _ => "next"
def Gf.ok : Gf → Prop
  | .is _ => True
  | .bare x => x ∈ BW
  | .bind x => x ∈ NN
  | .as_ x => x ∈ NN
  | .next x => x ∈ NN
def Gf.nm : Gf → Option Str
  | .bind x => some x
  | _ => none
def gb (gs : List Gf) : List Str := gs.filterMap Gf.nm
theorem gb_app {fs gs : List Gf} : gb (fs ++ gs) = gb fs ++ gb gs := List.filterMap_append
theorem gb_nn {gs : List Gf} (h : ∀ g ∈ gs, g.ok) : ∀ x ∈ gb gs, x ∈ NN := fun x hx => by
  obtain ⟨g, hg, e⟩ := List.mem_filterMap.mp hx
  have := h g hg
  cases g with
  | bind y =>
    cases e
    exact this
  | _ => cases e
def Fd.g : Fd → Gf
  | .is v => .is v
  | .any => .bare "any"
  | .word => .bare "word"
  | .number => .bare "number"
  | .bind x => .bind x
  | .as_ x => .as_ x
def Tf.g : Tf → Gf
  | .is v => .is v
  | .as_ x => .as_ x
  | .next x => .next x
theorem fg_d (f : Fd) : f.g.d = f.d := by cases f <;> rfl
theorem tg_d (t : Tf) : t.g.d = t.d := by cases t <;> rfl
theorem fgs_d (fs : List Fd) : (fs.map Fd.g).map Gf.d = fs.map Fd.d := by
  rw [List.map_map]
  exact List.map_congr_left fun f _ => fg_d f
theorem tgs_d (ts : List Tf) : (ts.map Tf.g).map Gf.d = ts.map Tf.d := by
  rw [List.map_map]
  exact List.map_congr_left fun f _ => tg_d f
theorem fg_ok {f : Fd} (h : Fd.ok f) : f.g.ok := by
  cases f with
  | is v => trivial
  | any => simp [Fd.g, Gf.ok, BW]
  | word => simp [Fd.g, Gf.ok, BW]
  | number => simp [Fd.g, Gf.ok, BW]
  | bind x => exact h
  | as_ x => exact h
theorem tg_ok {K : List Str} (hK : ∀ x ∈ K, x ∈ NN) {t : Tf} (h : Tf.ok K t) : t.g.ok := by
  cases t with
  | is v => trivial
  | as_ x => exact hK x h
  | next x => exact hK x h
theorem gb_fd : ∀ fs : List Fd, gb (fs.map Fd.g) = bnds fs
  | [] => rfl
  | f :: fs => by
    have ih := gb_fd fs
    unfold gb bnds at *
    rw [List.map_cons, List.filterMap_cons, List.filterMap_cons, ih]
    cases f <;> rfl
theorem bw_ne {x : Str} (h : x ∈ BW) : decide (x = "bind") = false ∧ decide (x ∈ (["as", "next"] : List Str)) = false ∧ PyData.strOk x = true := by
  have q : (BW.all fun x => !decide (x = "bind") && !decide (x ∈ (["as", "next"] : List Str)) && PyData.strOk x) = true := by decide +kernel
  have := List.all_eq_true.mp q x h
  simp only [Bool.and_eq_true, Bool.not_eq_true'] at this
  exact ⟨this.1.1, this.1.2, this.2⟩
theorem gf0 {m : Mm} {g : Gf} : ixO m (.val g.d) (.val (.int 0)) = some (.str g.w) := by
  cases g <;> (simp only [Gf.d, Gf.w]; rw [Nb.ix_tup, atI_0])
theorem gw_ok {g : Gf} (h : g.ok) : PyData.strOk g.w = true := by
  cases g with
  | bare x => exact (bw_ne h).2.2
  | is v => exact (by decide +kernel : PyData.strOk "is" = true)
  | bind x => exact (by decide +kernel : PyData.strOk "bind" = true)
  | as_ x => exact (by decide +kernel : PyData.strOk "as" = true)
  | next x => exact (by decide +kernel : PyData.strOk "next" = true)
theorem gw_bind {g : Gf} (h : g.ok) : decide (g.w = "bind") = g.nm.isSome := by
  cases g with
  | bare x => exact (bw_ne h).1
  | bind x => exact decide_eq_true rfl
  | is v => exact ne_is_bind
  | as_ x => exact ne_as_bind
  | next x => exact ne_next_bind
theorem gf1 {m : Mm} {g : Gf} {x : Str} (h : g.nm = some x) : ixO m (.val g.d) (.val (.int 1)) = some (.str x) := by
  cases g <;> cases h
  simp only [Gf.d]
  rw [Nb.ix_tup, atI_1]
/-! ### the names that fields bind -/
theorem names_in {m : Mm} {d0 : D} {q : Nat} {gs : List Gf} {o : Option Nat} (hw : wkO m (.val d0) = some (gs.map Gf.d, o)) (hg : gdW (gs.map Gf.d, o) m = true) (hq : m[q]? = some (.lst [.str "bind"])) (hok : ∀ g ∈ gs, g.ok) (hl : gs.length < 1000) : F_Lnames_in [d0, .ref q] m = some (.tmp ((gb gs).map .str), m) := by
  have hq' : m[q]? = some (.lst ((["bind"] : List Str).map D.str)) := hq
  have L : loopC (cpB g0 (.n 2) [2] [.cmp .isin (.ix (.var 2) (.int 0)) (.var 1)] (.ix (.var 2) (.int 1)) [some d0, some (.ref q), none]) (gdW (gs.map Gf.d, o)) (gs.map Gf.d) [] m = some ([] ++ gs.filterMap (fun f => (Gf.nm f).map D.str), m) := by
    refine loopC_filK hg (fun g hgm => ?_) (by rw [szE, List.length_nil]; omega)
    have h0 := gf0 (m := m) (g := g)
    have hb := gw_bind (hok g hgm)
    have hin : cmpO m .isin (.val (.str g.w)) (.val (.ref q)) = some g.nm.isSome := by
      show inO m (.val (.str g.w)) (.val (.ref q)) = _
      rw [in_strs hq' (gw_ok (hok g hgm)) (fun y hy => by rw [List.mem_singleton.mp hy]; decide +kernel), ← hb]
      simp
    unfold cpB
    cases hn : g.nm with
    | none =>
      rw [hn] at hin
      generalize g.d = gd at *
      simp only [evSs, evS.eq_1, evS.eq_2, evS.eq_3, evS.eq_4, evS.eq_5, evS.eq_6, evS.eq_7, evS.eq_8, evS.eq_9, evS.eq_10, evS.eq_13, evS.eq_14, evS.eq_15, evS.eq_16, evS.eq_17, evS_for, evS_whl, evE.eq_1, evE.eq_2, evE.eq_3, evE.eq_4, evE.eq_5, evE.eq_6, evE.eq_7, evE.eq_8, evE.eq_9, evE.eq_10, evE.eq_11, evE.eq_12, evE.eq_13, evE.eq_14, evE.eq_15, evE.eq_16, evE.eq_17, evE.eq_18, evE.eq_19, evE.eq_20, evE.eq_21, evE.eq_22, evE.eq_23, evE.eq_24, evE.eq_26, evE.eq_27, evE.eq_28, evE.eq_29, evE_comp, evA, evAnd, evOr, evP, evI, tst, bindT.eq_1, bindT.eq_2, bindTs.eq_1, bindTs.eq_2, stow_val, stow_tmp, truO, bltO, bop_int, bopI, cmp_int, Nb.ix_tup, ix_frz, ix_tmp, len_tup, len_frz, len_tmp, atI_0, atI_1, atI_2, atI_3, ixN_0, ixN_1, ixN_2, Option.bind_some, Option.map_some, Option.bind_none, Option.map_none, List.getElem?_cons_zero, List.getElem?_cons_succ, List.set_cons_zero, List.set_cons_succ, List.length_cons, List.length_nil, List.length_map, if_true, if_false, decide_true, decide_false, Bool.not_true, Bool.not_false, Bool.false_eq_true, reduceIte, List.map_cons, List.map_nil, List.cons_append, List.nil_append, List.replicate, Nat.sub_self, Nat.reduceSub, Nat.reduceAdd, Int.reduceAdd, Int.reducePow, Int.reduceToNat, Int.reduceLE, Int.reduceLT, Nat.reduceLT, Nat.reduceLeDiff, Nat.reducePow, Int.reduceSub, Int.reduceMul, Int.reduceEq, Nat.reduceEqDiff, and_self, true_and, and_true, or_true, true_or, Int.reduceNeg, eq_self, cmp_str, tyO, tyD, isi_ii, isi_is, isi_bi, isi_bs, isi_ib, isi_bb, dec_self, szE, bnd_int, seq_tup, seq_frz, seq_tmp, add_tup, wipeF, h0, hin, Option.isSome_none]
    | some x =>
      have h1 := gf1 (m := m) hn
      rw [hn] at hin
      generalize g.d = gd at *
      simp only [evSs, evS.eq_1, evS.eq_2, evS.eq_3, evS.eq_4, evS.eq_5, evS.eq_6, evS.eq_7, evS.eq_8, evS.eq_9, evS.eq_10, evS.eq_13, evS.eq_14, evS.eq_15, evS.eq_16, evS.eq_17, evS_for, evS_whl, evE.eq_1, evE.eq_2, evE.eq_3, evE.eq_4, evE.eq_5, evE.eq_6, evE.eq_7, evE.eq_8, evE.eq_9, evE.eq_10, evE.eq_11, evE.eq_12, evE.eq_13, evE.eq_14, evE.eq_15, evE.eq_16, evE.eq_17, evE.eq_18, evE.eq_19, evE.eq_20, evE.eq_21, evE.eq_22, evE.eq_23, evE.eq_24, evE.eq_26, evE.eq_27, evE.eq_28, evE.eq_29, evE_comp, evA, evAnd, evOr, evP, evI, tst, bindT.eq_1, bindT.eq_2, bindTs.eq_1, bindTs.eq_2, stow_val, stow_tmp, truO, bltO, bop_int, bopI, cmp_int, Nb.ix_tup, ix_frz, ix_tmp, len_tup, len_frz, len_tmp, atI_0, atI_1, atI_2, atI_3, ixN_0, ixN_1, ixN_2, Option.bind_some, Option.map_some, Option.bind_none, Option.map_none, List.getElem?_cons_zero, List.getElem?_cons_succ, List.set_cons_zero, List.set_cons_succ, List.length_cons, List.length_nil, List.length_map, if_true, if_false, decide_true, decide_false, Bool.not_true, Bool.not_false, Bool.false_eq_true, reduceIte, List.map_cons, List.map_nil, List.cons_append, List.nil_append, List.replicate, Nat.sub_self, Nat.reduceSub, Nat.reduceAdd, Int.reduceAdd, Int.reducePow, Int.reduceToNat, Int.reduceLE, Int.reduceLT, Nat.reduceLT, Nat.reduceLeDiff, Nat.reducePow, Int.reduceSub, Int.reduceMul, Int.reduceEq, Nat.reduceEqDiff, and_self, true_and, and_true, or_true, true_or, Int.reduceNeg, eq_self, cmp_str, tyO, tyD, isi_ii, isi_is, isi_bi, isi_bs, isi_ib, isi_bb, dec_self, szE, bnd_int, seq_tup, seq_frz, seq_tmp, add_tup, wipeF, h0, hin, Option.isSome_some, h1]
  have e : gs.filterMap (fun f => (Gf.nm f).map D.str) = (gb gs).map .str := by
    unfold gb
    rw [List.map_filterMap]
  rw [List.nil_append, e] at L
  unfold F_Lnames_in runF s_Lnames_in
  simp only [evSs, evS.eq_1, evS.eq_2, evS.eq_3, evS.eq_4, evS.eq_5, evS.eq_6, evS.eq_7, evS.eq_8, evS.eq_9, evS.eq_10, evS.eq_13, evS.eq_14, evS.eq_15, evS.eq_16, evS.eq_17, evS_for, evS_whl, evE.eq_1, evE.eq_2, evE.eq_3, evE.eq_4, evE.eq_5, evE.eq_6, evE.eq_7, evE.eq_8, evE.eq_9, evE.eq_10, evE.eq_11, evE.eq_12, evE.eq_13, evE.eq_14, evE.eq_15, evE.eq_16, evE.eq_17, evE.eq_18, evE.eq_19, evE.eq_20, evE.eq_21, evE.eq_22, evE.eq_23, evE.eq_24, evE.eq_26, evE.eq_27, evE.eq_28, evE.eq_29, evE_comp, evA, evAnd, evOr, evP, evI, tst, bindT.eq_1, bindT.eq_2, bindTs.eq_1, bindTs.eq_2, stow_val, stow_tmp, truO, bltO, bop_int, bopI, cmp_int, Nb.ix_tup, ix_frz, ix_tmp, len_tup, len_frz, len_tmp, atI_0, atI_1, atI_2, atI_3, ixN_0, ixN_1, ixN_2, Option.bind_some, Option.map_some, Option.bind_none, Option.map_none, List.getElem?_cons_zero, List.getElem?_cons_succ, List.set_cons_zero, List.set_cons_succ, List.length_cons, List.length_nil, List.length_map, if_true, if_false, decide_true, decide_false, Bool.not_true, Bool.not_false, Bool.false_eq_true, reduceIte, List.map_cons, List.map_nil, List.cons_append, List.nil_append, List.replicate, Nat.sub_self, Nat.reduceSub, Nat.reduceAdd, Int.reduceAdd, Int.reducePow, Int.reduceToNat, Int.reduceLE, Int.reduceLT, Nat.reduceLT, Nat.reduceLeDiff, Nat.reducePow, Int.reduceSub, Int.reduceMul, Int.reduceEq, Nat.reduceEqDiff, and_self, true_and, and_true, or_true, true_or, Int.reduceNeg, eq_self, cmp_str, tyO, tyD, isi_ii, isi_is, isi_bi, isi_bs, isi_ib, isi_bb, dec_self, szE, bnd_int, seq_tup, seq_frz, seq_tmp, add_tup, e_Lnames_in, hw, L]
/-! ### bound by an act -/
theorem binds_run {m : Mm} {fs : List Fd} (hl : fs.length ≤ 4) : F_binds [.tup (fs.map Fd.d)] m = some (.val (.tup ((ris (bnds fs)).map .str)), m) := by
  have L : loopC (cpB g0 (.n 1) [1] [.cmp .eq (.ix (.var 1) (.int 0)) (.str "bind")] (.ix (.var 1) (.int 1)) [some (.tup (fs.map Fd.d)), none]) (gdW (fs.map Fd.d, none)) (fs.map Fd.d) [] m = some ([] ++ fs.filterMap (fun f => (Fd.nm f).map D.str), m) := by
    refine loopC_filK rfl (fun f hf => ?_) (by rw [szE, List.length_nil]; omega)
    unfold cpB
    cases f <;> simp only [evSs, evS.eq_1, evS.eq_2, evS.eq_3, evS.eq_4, evS.eq_5, evS.eq_6, evS.eq_7, evS.eq_8, evS.eq_9, evS.eq_10, evS.eq_13, evS.eq_14, evS.eq_15, evS.eq_16, evS.eq_17, evS_for, evS_whl, evE.eq_1, evE.eq_2, evE.eq_3, evE.eq_4, evE.eq_5, evE.eq_6, evE.eq_7, evE.eq_8, evE.eq_9, evE.eq_10, evE.eq_11, evE.eq_12, evE.eq_13, evE.eq_14, evE.eq_15, evE.eq_16, evE.eq_17, evE.eq_18, evE.eq_19, evE.eq_20, evE.eq_21, evE.eq_22, evE.eq_23, evE.eq_24, evE.eq_26, evE.eq_27, evE.eq_28, evE.eq_29, evE_comp, evA, evAnd, evOr, evP, evI, tst, bindT.eq_1, bindT.eq_2, bindTs.eq_1, bindTs.eq_2, stow_val, stow_tmp, truO, bltO, bop_int, bopI, cmp_int, Nb.ix_tup, ix_frz, ix_tmp, len_tup, len_frz, len_tmp, atI_0, atI_1, atI_2, atI_3, ixN_0, ixN_1, ixN_2, Option.bind_some, Option.map_some, Option.bind_none, Option.map_none, List.getElem?_cons_zero, List.getElem?_cons_succ, List.set_cons_zero, List.set_cons_succ, List.length_cons, List.length_nil, List.length_map, if_true, if_false, decide_true, decide_false, Bool.not_true, Bool.not_false, Bool.false_eq_true, reduceIte, List.map_cons, List.map_nil, List.cons_append, List.nil_append, List.replicate, Nat.sub_self, Nat.reduceSub, Nat.reduceAdd, Int.reduceAdd, Int.reducePow, Int.reduceToNat, Int.reduceLE, Int.reduceLT, Nat.reduceLT, Nat.reduceLeDiff, Nat.reducePow, Int.reduceSub, Int.reduceMul, Int.reduceEq, Nat.reduceEqDiff, and_self, true_and, and_true, or_true, true_or, Int.reduceNeg, eq_self, cmp_str, tyO, tyD, isi_ii, isi_is, isi_bi, isi_bs, isi_ib, isi_bb, dec_self, szE, bnd_int, seq_tup, seq_frz, seq_tmp, add_tup, wipeF, Fd.d, Fd.nm, ne_is_any, ne_is_word, ne_is_number, ne_is_bind, ne_is_as, ne_is_next, ne_any_is, ne_any_word, ne_any_number, ne_any_bind, ne_any_as, ne_any_next, ne_word_is, ne_word_any, ne_word_number, ne_word_bind, ne_word_as, ne_word_next, ne_number_is, ne_number_any, ne_number_word, ne_number_bind, ne_number_as, ne_number_next, ne_bind_is, ne_bind_any, ne_bind_word, ne_bind_number, ne_bind_as, ne_bind_next, ne_as_is, ne_as_any, ne_as_word, ne_as_number, ne_as_bind, ne_as_next, ne_next_is, ne_next_any, ne_next_word, ne_next_number, ne_next_bind, ne_next_as, isi_ss, isi_si, isi_sb, isi_tt, isi_ti, isi_ts]
  have q : fs.filterMap (fun f => (Fd.nm f).map D.str) = (bnds fs).map .str := by
    unfold bnds
    rw [List.map_filterMap]
  rw [List.nil_append, q] at L
  have hs := ss_tmp (m := m) (xs := bnds fs) (by have := List.length_filterMap_le Fd.nm fs; unfold bnds; omega)
  unfold F_binds runF s_binds
  simp only [evSs, evS.eq_1, evS.eq_2, evS.eq_3, evS.eq_4, evS.eq_5, evS.eq_6, evS.eq_7, evS.eq_8, evS.eq_9, evS.eq_10, evS.eq_13, evS.eq_14, evS.eq_15, evS.eq_16, evS.eq_17, evS_for, evS_whl, evE.eq_1, evE.eq_2, evE.eq_3, evE.eq_4, evE.eq_5, evE.eq_6, evE.eq_7, evE.eq_8, evE.eq_9, evE.eq_10, evE.eq_11, evE.eq_12, evE.eq_13, evE.eq_14, evE.eq_15, evE.eq_16, evE.eq_17, evE.eq_18, evE.eq_19, evE.eq_20, evE.eq_21, evE.eq_22, evE.eq_23, evE.eq_24, evE.eq_26, evE.eq_27, evE.eq_28, evE.eq_29, evE_comp, evA, evAnd, evOr, evP, evI, tst, bindT.eq_1, bindT.eq_2, bindTs.eq_1, bindTs.eq_2, stow_val, stow_tmp, truO, bltO, bop_int, bopI, cmp_int, Nb.ix_tup, ix_frz, ix_tmp, len_tup, len_frz, len_tmp, atI_0, atI_1, atI_2, atI_3, ixN_0, ixN_1, ixN_2, Option.bind_some, Option.map_some, Option.bind_none, Option.map_none, List.getElem?_cons_zero, List.getElem?_cons_succ, List.set_cons_zero, List.set_cons_succ, List.length_cons, List.length_nil, List.length_map, if_true, if_false, decide_true, decide_false, Bool.not_true, Bool.not_false, Bool.false_eq_true, reduceIte, List.map_cons, List.map_nil, List.cons_append, List.nil_append, List.replicate, Nat.sub_self, Nat.reduceSub, Nat.reduceAdd, Int.reduceAdd, Int.reducePow, Int.reduceToNat, Int.reduceLE, Int.reduceLT, Nat.reduceLT, Nat.reduceLeDiff, Nat.reducePow, Int.reduceSub, Int.reduceMul, Int.reduceEq, Nat.reduceEqDiff, and_self, true_and, and_true, or_true, true_or, Int.reduceNeg, eq_self, cmp_str, tyO, tyD, isi_ii, isi_is, isi_bi, isi_bs, isi_ib, isi_bb, dec_self, szE, bnd_int, seq_tup, seq_frz, seq_tmp, add_tup, e_binds, wkO, L, hs]
def Act.w : Act → Str
  | .lay _ _ => "lay"
  | .same _ _ _ => "same"
  | .go _ => "go"
  | .look _ _ => "look"
  | .take _ => "take"
  | .read _ => "read"
theorem act0 {m : Mm} {a : Act} : ixO m (.val a.d) (.val (.int 0)) = some (.str a.w) := by
  cases a <;> (simp only [Act.d, Act.w]; rw [Nb.ix_tup, atI_0])
def askA : Act → Option (List Fd)
  | .look p _ => some p
  | .take p => some p
  | .read p => some p
  | _ => none
theorem ask_in {m : Mm} {a : Act} : cmpO m .isin (.val (.str a.w)) (.val (.tup [.str "take", .str "read", .str "look"])) = some (askA a).isSome := by
  show inO m (.val (.str a.w)) (.val (.tup ((["take", "read", "look"] : List Str).map D.str))) = _
  rw [in_tupT]
  cases a <;> (simp only [Act.w, askA, Option.isSome_none, Option.isSome_some]; first | exact congrArg some (decide_eq_true (by decide +kernel)) | exact congrArg some (decide_eq_false (by decide +kernel)) | rfl)
theorem ask1 {m : Mm} {a : Act} {p : List Fd} (h : askA a = some p) : ixO m (.val a.d) (.val (.int 1)) = some (.tup (p.map Fd.d)) := by
  cases a <;> cases h <;> (simp only [Act.d]; rw [Nb.ix_tup, atI_1])
theorem ask_bnd {a : Act} : a.bnd = match askA a with
  | some p => bnds p
  | none => [] := by cases a <;> rfl
theorem ask_ok {a : Act} {K : List Str} {O : List Int} (h : Act.ok K O a) {p : List Fd} (e : askA a = some p) : PatOk K p := by
  cases a <;> cases e
  · exact h.1
  · exact h
  · exact h
theorem bound_by {m : Mm} {a : Act} {K : List Str} {O : List Int} (h : Act.ok K O a) : F_bound_by [a.d] m = some (.val (.tup ((ris a.bnd).map .str)), m) := by
  have h0 := act0 (m := m) (a := a)
  have hi := ask_in (m := m) (a := a)
  have hg : g1.gam "GETTING" = some (.tup [.str "take", .str "read", .str "look"]) := rfl
  rw [ask_bnd]
  unfold F_bound_by runF s_bound_by
  cases e : askA a with
  | none =>
    rw [e] at hi
    show _ = some (Out.val (.tup ((ris []).map D.str)), m)
    rw [ris_nil]
    generalize a.d = ad at *
    simp only [evSs, evS.eq_1, evS.eq_2, evS.eq_3, evS.eq_4, evS.eq_5, evS.eq_6, evS.eq_7, evS.eq_8, evS.eq_9, evS.eq_10, evS.eq_13, evS.eq_14, evS.eq_15, evS.eq_16, evS.eq_17, evS_for, evS_whl, evE.eq_1, evE.eq_2, evE.eq_3, evE.eq_4, evE.eq_5, evE.eq_6, evE.eq_7, evE.eq_8, evE.eq_9, evE.eq_10, evE.eq_11, evE.eq_12, evE.eq_13, evE.eq_14, evE.eq_15, evE.eq_16, evE.eq_17, evE.eq_18, evE.eq_19, evE.eq_20, evE.eq_21, evE.eq_22, evE.eq_23, evE.eq_24, evE.eq_26, evE.eq_27, evE.eq_28, evE.eq_29, evE_comp, evA, evAnd, evOr, evP, evI, tst, bindT.eq_1, bindT.eq_2, bindTs.eq_1, bindTs.eq_2, stow_val, stow_tmp, truO, bltO, bop_int, bopI, cmp_int, Nb.ix_tup, ix_frz, ix_tmp, len_tup, len_frz, len_tmp, atI_0, atI_1, atI_2, atI_3, ixN_0, ixN_1, ixN_2, Option.bind_some, Option.map_some, Option.bind_none, Option.map_none, List.getElem?_cons_zero, List.getElem?_cons_succ, List.set_cons_zero, List.set_cons_succ, List.length_cons, List.length_nil, List.length_map, if_true, if_false, decide_true, decide_false, Bool.not_true, Bool.not_false, Bool.false_eq_true, reduceIte, List.map_cons, List.map_nil, List.cons_append, List.nil_append, List.replicate, Nat.sub_self, Nat.reduceSub, Nat.reduceAdd, Int.reduceAdd, Int.reducePow, Int.reduceToNat, Int.reduceLE, Int.reduceLT, Nat.reduceLT, Nat.reduceLeDiff, Nat.reducePow, Int.reduceSub, Int.reduceMul, Int.reduceEq, Nat.reduceEqDiff, and_self, true_and, and_true, or_true, true_or, Int.reduceNeg, eq_self, cmp_str, tyO, tyD, isi_ii, isi_is, isi_bi, isi_bs, isi_ib, isi_bb, dec_self, szE, bnd_int, seq_tup, seq_frz, seq_tmp, add_tup, e_bound_by, hg, h0, hi, Option.isSome_none]
  | some p =>
    have h1 := ask1 (m := m) e
    have hb := binds_run (m := m) (ask_ok h e).hi
    rw [e] at hi
    generalize a.d = ad at *
    simp only [evSs, evS.eq_1, evS.eq_2, evS.eq_3, evS.eq_4, evS.eq_5, evS.eq_6, evS.eq_7, evS.eq_8, evS.eq_9, evS.eq_10, evS.eq_13, evS.eq_14, evS.eq_15, evS.eq_16, evS.eq_17, evS_for, evS_whl, evE.eq_1, evE.eq_2, evE.eq_3, evE.eq_4, evE.eq_5, evE.eq_6, evE.eq_7, evE.eq_8, evE.eq_9, evE.eq_10, evE.eq_11, evE.eq_12, evE.eq_13, evE.eq_14, evE.eq_15, evE.eq_16, evE.eq_17, evE.eq_18, evE.eq_19, evE.eq_20, evE.eq_21, evE.eq_22, evE.eq_23, evE.eq_24, evE.eq_26, evE.eq_27, evE.eq_28, evE.eq_29, evE_comp, evA, evAnd, evOr, evP, evI, tst, bindT.eq_1, bindT.eq_2, bindTs.eq_1, bindTs.eq_2, stow_val, stow_tmp, truO, bltO, bop_int, bopI, cmp_int, Nb.ix_tup, ix_frz, ix_tmp, len_tup, len_frz, len_tmp, atI_0, atI_1, atI_2, atI_3, ixN_0, ixN_1, ixN_2, Option.bind_some, Option.map_some, Option.bind_none, Option.map_none, List.getElem?_cons_zero, List.getElem?_cons_succ, List.set_cons_zero, List.set_cons_succ, List.length_cons, List.length_nil, List.length_map, if_true, if_false, decide_true, decide_false, Bool.not_true, Bool.not_false, Bool.false_eq_true, reduceIte, List.map_cons, List.map_nil, List.cons_append, List.nil_append, List.replicate, Nat.sub_self, Nat.reduceSub, Nat.reduceAdd, Int.reduceAdd, Int.reducePow, Int.reduceToNat, Int.reduceLE, Int.reduceLT, Nat.reduceLT, Nat.reduceLeDiff, Nat.reducePow, Int.reduceSub, Int.reduceMul, Int.reduceEq, Nat.reduceEqDiff, and_self, true_and, and_true, or_true, true_or, Int.reduceNeg, eq_self, cmp_str, tyO, tyD, isi_ii, isi_is, isi_bi, isi_bs, isi_ib, isi_bb, dec_self, szE, bnd_int, seq_tup, seq_frz, seq_tmp, add_tup, e_bound_by, hg, h0, hi, Option.isSome_some, h1, p_1_binds, hb]
/-! ### known at a place -/
/-- all that is bound there -/
def kb (w : List Str) (as : List Act) : List Str := w ++ as.flatMap Act.bnd
def bKn : List S := [.ext (.var 3) (.call "bound_by" [.var 4])]
theorem knLoop {m : Mm} {es : List D} {x0 x1 x2 x5 x6 : Option D} : ∀ (as : List Act) (fd : List Str) (x4 : Option D), (∀ a ∈ as, ∃ K O, Act.ok K O a) → fd.length + 4 * as.length < 1000 →
    ∃ y4, ∃ (fd' : List Str), loopF (forB g2 (.n 4) bKn) (gdW (es, none)) (as.map Act.d) [x0, x1, x2, some (.ref m.length), x4, x5, x6] (m ++ [.lst (fd.map .str)]) = some (.nx, [x0, x1, x2, some (.ref m.length), y4, x5, x6], m ++ [.lst (fd'.map .str)]) ∧ fd'.length ≤ fd.length + 4 * as.length ∧ ∀ y, y ∈ fd' ↔ y ∈ fd ∨ y ∈ as.flatMap Act.bnd
  | [], fd, x4, _, _ => ⟨x4, fd, loopF_end rfl, by omega, fun y => by simp⟩
  | a :: as, fd, x4, h, hl => by
    rw [List.length_cons] at hl
    obtain ⟨K, O, ha⟩ := h a List.mem_cons_self
    obtain ⟨_, hb4⟩ := Act.bnd_ok ha
    have hr := ris_len (xs := a.bnd)
    have e1 := bound_by (m := m ++ [.lst (fd.map .str)]) ha
    obtain ⟨y4, fd', e2, h1, h2⟩ := knLoop (m := m) (es := es) (x0 := x0) (x1 := x1) (x2 := x2) (x5 := x5) (x6 := x6) as (fd ++ ris a.bnd) (some a.d) (fun b hb => h b (List.mem_cons_of_mem _ hb)) (by rw [List.length_append]; omega)
    rw [List.length_append] at h1
    refine ⟨y4, fd', ?_, by rw [List.length_cons]; omega, fun y => ?_⟩
    · rw [List.map_cons]
      refine (loopF_nx rfl ?_).trans e2
      have hm : (m ++ [MO.lst (fd.map .str)])[m.length]? = some (.lst (fd.map .str)) := get_new
      have hx : fd.length + ((ris a.bnd).map D.str).length ≤ 16777216 := by
        rw [List.length_map]
        omega
      unfold forB bKn
      rw [List.map_append]
      generalize a.d = ad at *
      generalize (ris a.bnd).map D.str = rd at *
      simp only [evSs, evS.eq_1, evS.eq_2, evS.eq_3, evS.eq_4, evS.eq_5, evS.eq_6, evS.eq_7, evS.eq_8, evS.eq_9, evS.eq_10, evS.eq_13, evS.eq_14, evS.eq_15, evS.eq_16, evS.eq_17, evS_for, evS_whl, evE.eq_1, evE.eq_2, evE.eq_3, evE.eq_4, evE.eq_5, evE.eq_6, evE.eq_7, evE.eq_8, evE.eq_9, evE.eq_10, evE.eq_11, evE.eq_12, evE.eq_13, evE.eq_14, evE.eq_15, evE.eq_16, evE.eq_17, evE.eq_18, evE.eq_19, evE.eq_20, evE.eq_21, evE.eq_22, evE.eq_23, evE.eq_24, evE.eq_26, evE.eq_27, evE.eq_28, evE.eq_29, evE_comp, evA, evAnd, evOr, evP, evI, tst, bindT.eq_1, bindT.eq_2, bindTs.eq_1, bindTs.eq_2, stow_val, stow_tmp, truO, bltO, bop_int, bopI, cmp_int, Nb.ix_tup, ix_frz, ix_tmp, len_tup, len_frz, len_tmp, atI_0, atI_1, atI_2, atI_3, ixN_0, ixN_1, ixN_2, Option.bind_some, Option.map_some, Option.bind_none, Option.map_none, List.getElem?_cons_zero, List.getElem?_cons_succ, List.set_cons_zero, List.set_cons_succ, List.length_cons, List.length_nil, List.length_map, if_true, if_false, decide_true, decide_false, Bool.not_true, Bool.not_false, Bool.false_eq_true, reduceIte, List.map_cons, List.map_nil, List.cons_append, List.nil_append, List.replicate, Nat.sub_self, Nat.reduceSub, Nat.reduceAdd, Int.reduceAdd, Int.reducePow, Int.reduceToNat, Int.reduceLE, Int.reduceLT, Nat.reduceLT, Nat.reduceLeDiff, Nat.reducePow, Int.reduceSub, Int.reduceMul, Int.reduceEq, Nat.reduceEqDiff, and_self, true_and, and_true, or_true, true_or, Int.reduceNeg, eq_self, cmp_str, tyO, tyD, isi_ii, isi_is, isi_bi, isi_bs, isi_ib, isi_bb, dec_self, szE, bnd_int, seq_tup, seq_frz, seq_tmp, add_tup, p_2_bound_by, e1, lst_ref hm, upd_lst hm, extO, hx, set_end]
    · rw [h2, List.mem_append, ris_mem, List.flatMap_cons, List.mem_append]
      exact or_assoc
end LawP

namespace LawP
open PySem PySem.Spec L2 Nb Hd
theorem cut_take {α : Type} {xs : List α} {j : Nat} : cutA xs none (some (j : Int)) = xs.take j := by
  unfold cutA
  rw [HT.sIx_nat, HT.sIx_none, List.drop_zero, Nat.sub_zero]
  by_cases h : j ≤ xs.length
  · rw [Nat.min_eq_left h]
  · rw [Nat.min_eq_right (by omega), List.take_length, List.take_of_length_le (by omega)]
theorem cut_one {α : Type} {xs : List α} {j : Nat} : cutA xs (some (j : Int)) (some ((j : Int) + 1)) = (xs.drop j).take 1 := by
  have e : ((j : Int) + 1) = ((j + 1 : Nat) : Int) := by omega
  unfold cutA
  rw [e, HT.sIx_nat, HT.sIx_nat]
  by_cases h : j < xs.length
  · rw [Nat.min_eq_left (by omega), Nat.min_eq_left (by omega), Nat.add_sub_cancel_left]
  · rw [Nat.min_eq_right (by omega), Nat.min_eq_right (by omega), Nat.sub_self, List.take_zero, List.drop_of_length_le (by omega), List.take_nil]
theorem slc_tup {m : Mm} {ds : List D} {lo hi : Option Int} : slcO m (.val (.tup ds)) lo hi = some (.val (.tup (cutA ds lo hi))) := rfl
/-- acts that are right where they stand -/
def ActsG (as : List Act) : Prop := ∀ a ∈ as, ∃ K O, Act.ok K O a
theorem known_at {m : Mm} {bks : List (List Str × List Act)} {i j : Nat} {w : List Str} {as : List Act} (hi : bks[i]? = some (w, as)) (hok : ActsG as) (hw : w.length ≤ 2) (hla : as.length ≤ 8) :
    ∃ a, F_known_at [progD bks, .int i, .int j] m = some (.val (.tup ((ris (kb w (as.take j))).map .str)), m ++ a) := by
  have htl : (as.take j).length ≤ 8 := Nat.le_trans (List.length_take_le' _ _) hla
  obtain ⟨y4, fd, e, h1, h2⟩ := knLoop (m := m) (es := (as.take j).map Act.d) (x0 := some (progD bks)) (x1 := some (.int i)) (x2 := some (.int j)) (x5 := some (wD w)) (x6 := some (.tup (as.map Act.d))) (as.take j) w none (fun a ha => hok a (List.mem_of_mem_take ha)) (by omega)
  have hs := ss_ref (m := m ++ [.lst (fd.map .str)]) (n := m.length) (xs := fd) get_new (by omega)
  have hr : ris fd = ris (kb w (as.take j)) := ris_eq fun y => by
    rw [h2]
    unfold kb
    rw [List.mem_append]
  rw [hr] at hs
  have hix : atI (bks.map bkD) (i : Int) = some (.tup [wD w, .tup (as.map Act.d)]) := by
    rw [Nb.atI_nat, List.getElem?_map, hi]
    rfl
  refine ⟨[.lst (fd.map .str)], ?_⟩
  have e0 : evS g2 (.asg (.t [.n 5, .n 6]) (.ix (.var 0) (.var 1))) [some (progD bks), some (.int i), some (.int j), none, none, none, none] m = some (.nx, [some (progD bks), some (.int i), some (.int j), none, none, some (wD w), some (.tup (as.map Act.d))], m) := by
    unfold progD
    generalize bks.map bkD = bl at *
    simp only [evSs, evS.eq_1, evS.eq_2, evS.eq_3, evS.eq_4, evS.eq_5, evS.eq_6, evS.eq_7, evS.eq_8, evS.eq_9, evS.eq_10, evS.eq_13, evS.eq_14, evS.eq_15, evS.eq_16, evS.eq_17, evS_for, evS_whl, evE.eq_1, evE.eq_2, evE.eq_3, evE.eq_4, evE.eq_5, evE.eq_6, evE.eq_7, evE.eq_8, evE.eq_9, evE.eq_10, evE.eq_11, evE.eq_12, evE.eq_13, evE.eq_14, evE.eq_15, evE.eq_16, evE.eq_17, evE.eq_18, evE.eq_19, evE.eq_20, evE.eq_21, evE.eq_22, evE.eq_23, evE.eq_24, evE.eq_26, evE.eq_27, evE.eq_28, evE.eq_29, evE_comp, evA, evAnd, evOr, evP, evI, tst, bindT.eq_1, bindT.eq_2, bindTs.eq_1, bindTs.eq_2, stow_val, stow_tmp, truO, bltO, bop_int, bopI, cmp_int, Nb.ix_tup, ix_frz, ix_tmp, len_tup, len_frz, len_tmp, atI_0, atI_1, atI_2, atI_3, ixN_0, ixN_1, ixN_2, Option.bind_some, Option.map_some, Option.bind_none, Option.map_none, List.getElem?_cons_zero, List.getElem?_cons_succ, List.set_cons_zero, List.set_cons_succ, List.length_cons, List.length_nil, List.length_map, if_true, if_false, decide_true, decide_false, Bool.not_true, Bool.not_false, Bool.false_eq_true, reduceIte, List.map_cons, List.map_nil, List.cons_append, List.nil_append, List.replicate, Nat.sub_self, Nat.reduceSub, Nat.reduceAdd, Int.reduceAdd, Int.reducePow, Int.reduceToNat, Int.reduceLE, Int.reduceLT, Nat.reduceLT, Nat.reduceLeDiff, Nat.reducePow, Int.reduceSub, Int.reduceMul, Int.reduceEq, Nat.reduceEqDiff, and_self, true_and, and_true, or_true, true_or, Int.reduceNeg, eq_self, cmp_str, tyO, tyD, isi_ii, isi_is, isi_bi, isi_bs, isi_ib, isi_bb, dec_self, szE, bnd_int, seq_tup, seq_frz, seq_tmp, add_tup, hix]
  have hd : dctO m (.val (wD w)) = none := rfl
  have hq : seqO m (.val (wD w)) = some (w.map .str) := rfl
  have e1 : evS g2 (.asg (.n 3) (.blt .list (.var 5))) [some (progD bks), some (.int i), some (.int j), none, none, some (wD w), some (.tup (as.map Act.d))] m = some (.nx, [some (progD bks), some (.int i), some (.int j), some (.ref m.length), none, some (wD w), some (.tup (as.map Act.d))], m ++ [.lst (w.map .str)]) := by
    simp only [evSs, evS.eq_1, evS.eq_2, evS.eq_3, evS.eq_4, evS.eq_5, evS.eq_6, evS.eq_7, evS.eq_8, evS.eq_9, evS.eq_10, evS.eq_13, evS.eq_14, evS.eq_15, evS.eq_16, evS.eq_17, evS_for, evS_whl, evE.eq_1, evE.eq_2, evE.eq_3, evE.eq_4, evE.eq_5, evE.eq_6, evE.eq_7, evE.eq_8, evE.eq_9, evE.eq_10, evE.eq_11, evE.eq_12, evE.eq_13, evE.eq_14, evE.eq_15, evE.eq_16, evE.eq_17, evE.eq_18, evE.eq_19, evE.eq_20, evE.eq_21, evE.eq_22, evE.eq_23, evE.eq_24, evE.eq_26, evE.eq_27, evE.eq_28, evE.eq_29, evE_comp, evA, evAnd, evOr, evP, evI, tst, bindT.eq_1, bindT.eq_2, bindTs.eq_1, bindTs.eq_2, stow_val, stow_tmp, truO, bltO, bop_int, bopI, cmp_int, Nb.ix_tup, ix_frz, ix_tmp, len_tup, len_frz, len_tmp, atI_0, atI_1, atI_2, atI_3, ixN_0, ixN_1, ixN_2, Option.bind_some, Option.map_some, Option.bind_none, Option.map_none, List.getElem?_cons_zero, List.getElem?_cons_succ, List.set_cons_zero, List.set_cons_succ, List.length_cons, List.length_nil, List.length_map, if_true, if_false, decide_true, decide_false, Bool.not_true, Bool.not_false, Bool.false_eq_true, reduceIte, List.map_cons, List.map_nil, List.cons_append, List.nil_append, List.replicate, Nat.sub_self, Nat.reduceSub, Nat.reduceAdd, Int.reduceAdd, Int.reducePow, Int.reduceToNat, Int.reduceLE, Int.reduceLT, Nat.reduceLT, Nat.reduceLeDiff, Nat.reducePow, Int.reduceSub, Int.reduceMul, Int.reduceEq, Nat.reduceEqDiff, and_self, true_and, and_true, or_true, true_or, Int.reduceNeg, eq_self, cmp_str, tyO, tyD, isi_ii, isi_is, isi_bi, isi_bs, isi_ib, isi_bb, dec_self, szE, bnd_int, seq_tup, seq_frz, seq_tmp, add_tup, hd, hq]
  have e2 : evS g2 (.for_ (.n 4) (.e (.slc (.var 6) none (some (.var 2)))) bKn) [some (progD bks), some (.int i), some (.int j), some (.ref m.length), none, some (wD w), some (.tup (as.map Act.d))] (m ++ [.lst (w.map .str)]) = some (.nx, [some (progD bks), some (.int i), some (.int j), some (.ref m.length), y4, some (wD w), some (.tup (as.map Act.d))], m ++ [.lst (fd.map .str)]) := by
    have hc : cutA (as.map Act.d) none (some (j : Int)) = (as.take j).map Act.d := by rw [cut_take, List.map_take]
    rw [evS_for]
    generalize as.map Act.d = al at *
    simp only [evSs, evS.eq_1, evS.eq_2, evS.eq_3, evS.eq_4, evS.eq_5, evS.eq_6, evS.eq_7, evS.eq_8, evS.eq_9, evS.eq_10, evS.eq_13, evS.eq_14, evS.eq_15, evS.eq_16, evS.eq_17, evS_for, evS_whl, evE.eq_1, evE.eq_2, evE.eq_3, evE.eq_4, evE.eq_5, evE.eq_6, evE.eq_7, evE.eq_8, evE.eq_9, evE.eq_10, evE.eq_11, evE.eq_12, evE.eq_13, evE.eq_14, evE.eq_15, evE.eq_16, evE.eq_17, evE.eq_18, evE.eq_19, evE.eq_20, evE.eq_21, evE.eq_22, evE.eq_23, evE.eq_24, evE.eq_26, evE.eq_27, evE.eq_28, evE.eq_29, evE_comp, evA, evAnd, evOr, evP, evI, tst, bindT.eq_1, bindT.eq_2, bindTs.eq_1, bindTs.eq_2, stow_val, stow_tmp, truO, bltO, bop_int, bopI, cmp_int, Nb.ix_tup, ix_frz, ix_tmp, len_tup, len_frz, len_tmp, atI_0, atI_1, atI_2, atI_3, ixN_0, ixN_1, ixN_2, Option.bind_some, Option.map_some, Option.bind_none, Option.map_none, List.getElem?_cons_zero, List.getElem?_cons_succ, List.set_cons_zero, List.set_cons_succ, List.length_cons, List.length_nil, List.length_map, if_true, if_false, decide_true, decide_false, Bool.not_true, Bool.not_false, Bool.false_eq_true, reduceIte, List.map_cons, List.map_nil, List.cons_append, List.nil_append, List.replicate, Nat.sub_self, Nat.reduceSub, Nat.reduceAdd, Int.reduceAdd, Int.reducePow, Int.reduceToNat, Int.reduceLE, Int.reduceLT, Nat.reduceLT, Nat.reduceLeDiff, Nat.reducePow, Int.reduceSub, Int.reduceMul, Int.reduceEq, Nat.reduceEqDiff, and_self, true_and, and_true, or_true, true_or, Int.reduceNeg, eq_self, cmp_str, tyO, tyD, isi_ii, isi_is, isi_bi, isi_bs, isi_ib, isi_bb, dec_self, szE, bnd_int, seq_tup, seq_frz, seq_tmp, add_tup, slc_tup, hc, wkO]
    exact e
  unfold F_known_at runF s_known_at
  rw [e_known_at]
  show (evSs g2 [.asg (.t [.n 5, .n 6]) (.ix (.var 0) (.var 1)), .asg (.n 3) (.blt .list (.var 5)), .for_ (.n 4) (.e (.slc (.var 6) none (some (.var 2)))) bKn, .ret _] [some (progD bks), some (.int i), some (.int j), none, none, none, none] m).bind _ = _
  rw [evSs.eq_2, e0, Option.bind_some, evSs.eq_2, e1, Option.bind_some, evSs.eq_2, e2, Option.bind_some]
  simp only [evSs, evS.eq_1, evS.eq_2, evS.eq_3, evS.eq_4, evS.eq_5, evS.eq_6, evS.eq_7, evS.eq_8, evS.eq_9, evS.eq_10, evS.eq_13, evS.eq_14, evS.eq_15, evS.eq_16, evS.eq_17, evS_for, evS_whl, evE.eq_1, evE.eq_2, evE.eq_3, evE.eq_4, evE.eq_5, evE.eq_6, evE.eq_7, evE.eq_8, evE.eq_9, evE.eq_10, evE.eq_11, evE.eq_12, evE.eq_13, evE.eq_14, evE.eq_15, evE.eq_16, evE.eq_17, evE.eq_18, evE.eq_19, evE.eq_20, evE.eq_21, evE.eq_22, evE.eq_23, evE.eq_24, evE.eq_26, evE.eq_27, evE.eq_28, evE.eq_29, evE_comp, evA, evAnd, evOr, evP, evI, tst, bindT.eq_1, bindT.eq_2, bindTs.eq_1, bindTs.eq_2, stow_val, stow_tmp, truO, bltO, bop_int, bopI, cmp_int, Nb.ix_tup, ix_frz, ix_tmp, len_tup, len_frz, len_tmp, atI_0, atI_1, atI_2, atI_3, ixN_0, ixN_1, ixN_2, Option.bind_some, Option.map_some, Option.bind_none, Option.map_none, List.getElem?_cons_zero, List.getElem?_cons_succ, List.set_cons_zero, List.set_cons_succ, List.length_cons, List.length_nil, List.length_map, if_true, if_false, decide_true, decide_false, Bool.not_true, Bool.not_false, Bool.false_eq_true, reduceIte, List.map_cons, List.map_nil, List.cons_append, List.nil_append, List.replicate, Nat.sub_self, Nat.reduceSub, Nat.reduceAdd, Int.reduceAdd, Int.reducePow, Int.reduceToNat, Int.reduceLE, Int.reduceLT, Nat.reduceLT, Nat.reduceLeDiff, Nat.reducePow, Int.reduceSub, Int.reduceMul, Int.reduceEq, Nat.reduceEqDiff, and_self, true_and, and_true, or_true, true_or, Int.reduceNeg, eq_self, cmp_str, tyO, tyD, isi_ii, isi_is, isi_bi, isi_bs, isi_ib, isi_bb, dec_self, szE, bnd_int, seq_tup, seq_frz, seq_tmp, add_tup, hs]
/-! ### what is due -/
def bPut : List S := [.sub (.var 2) (.var 3) (.bl true)]
theorem putLoop {m : Mm} {F : Nat} (hF : m.length ≤ F) {es : List D} {x0 x1 x4 : Option D} : ∀ (xs l : List Str) (a : Mm) (x3 : Option D), (m ++ a)[F]? = some (.dct (kvT l)) → l.length + xs.length < 1000 →
    ∃ y3, ∃ (l' : List Str), ∃ a', loopF (forB g1 (.n 3) bPut) (gdW (es, none)) (xs.map D.str) [x0, x1, some (.ref F), x3, x4] (m ++ a) = some (.nx, [x0, x1, some (.ref F), y3, x4], m ++ a') ∧ (m ++ a')[F]? = some (.dct (kvT l')) ∧ l'.length ≤ l.length + xs.length ∧ (l.Nodup → l'.Nodup) ∧ ∀ y, y ∈ l' ↔ y ∈ l ∨ y ∈ xs
  | [], l, a, x3, e, _ => ⟨x3, l, a, loopF_end rfl, e, Nat.le_refl _, id, fun y => by simp⟩
  | x :: xs, l, a, x3, e, hl => by
    rw [List.length_cons] at hl
    have lp := put1_len (x := x) (l := l)
    obtain ⟨b, hb⟩ := set_behind (m := m) (a := a) (o := .dct (kvT (put1 x l))) hF
    have r1 : (m ++ b)[F]? = some (.dct (kvT (put1 x l))) := by
      rw [← hb]
      exact get_set (lt_of_get e)
    have hp := put_T (x := x) e (by omega)
    rw [hb] at hp
    obtain ⟨y3, l', a', e1, e2, e3, e4, e5⟩ := putLoop hF (es := es) (x0 := x0) (x1 := x1) (x4 := x4) xs (put1 x l) b (some (.str x)) r1 (by omega)
    refine ⟨y3, l', a', ?_, e2, by rw [List.length_cons]; omega, fun h => e4 (put1_nd h), fun y => ?_⟩
    · rw [List.map_cons]
      refine (loopF_nx rfl ?_).trans e1
      unfold forB bPut
      simp only [evSs, evS.eq_1, evS.eq_2, evS.eq_3, evS.eq_4, evS.eq_5, evS.eq_6, evS.eq_7, evS.eq_8, evS.eq_9, evS.eq_10, evS.eq_13, evS.eq_14, evS.eq_15, evS.eq_16, evS.eq_17, evS_for, evS_whl, evE.eq_1, evE.eq_2, evE.eq_3, evE.eq_4, evE.eq_5, evE.eq_6, evE.eq_7, evE.eq_8, evE.eq_9, evE.eq_10, evE.eq_11, evE.eq_12, evE.eq_13, evE.eq_14, evE.eq_15, evE.eq_16, evE.eq_17, evE.eq_18, evE.eq_19, evE.eq_20, evE.eq_21, evE.eq_22, evE.eq_23, evE.eq_24, evE.eq_26, evE.eq_27, evE.eq_28, evE.eq_29, evE_comp, evA, evAnd, evOr, evP, evI, tst, bindT.eq_1, bindT.eq_2, bindTs.eq_1, bindTs.eq_2, stow_val, stow_tmp, truO, bltO, bop_int, bopI, cmp_int, Nb.ix_tup, ix_frz, ix_tmp, len_tup, len_frz, len_tmp, atI_0, atI_1, atI_2, atI_3, ixN_0, ixN_1, ixN_2, Option.bind_some, Option.map_some, Option.bind_none, Option.map_none, List.getElem?_cons_zero, List.getElem?_cons_succ, List.set_cons_zero, List.set_cons_succ, List.length_cons, List.length_nil, List.length_map, if_true, if_false, decide_true, decide_false, Bool.not_true, Bool.not_false, Bool.false_eq_true, reduceIte, List.map_cons, List.map_nil, List.cons_append, List.nil_append, List.replicate, Nat.sub_self, Nat.reduceSub, Nat.reduceAdd, Int.reduceAdd, Int.reducePow, Int.reduceToNat, Int.reduceLE, Int.reduceLT, Nat.reduceLT, Nat.reduceLeDiff, Nat.reducePow, Int.reduceSub, Int.reduceMul, Int.reduceEq, Nat.reduceEqDiff, and_self, true_and, and_true, or_true, true_or, Int.reduceNeg, eq_self, cmp_str, tyO, tyD, isi_ii, isi_is, isi_bi, isi_bs, isi_ib, isi_bb, dec_self, szE, bnd_int, seq_tup, seq_frz, seq_tmp, add_tup, hp]
    · rw [e5, put1_mem, List.mem_cons]
      exact ⟨fun h => h.elim (fun h => h.elim (fun h => .inr (.inl h)) .inl) (fun h => .inr (.inr h)), fun h => h.elim (fun h => .inl (.inr h)) (fun h => h.elim (fun h => .inl (.inl h)) .inr)⟩
def bDueA : List S := [
    .ife (.cmp .isin (.ix (.var 4) (.int 0)) (.tup [.str "take", .str "read", .str "look"])) [
      .for_ (.n 3) (.e (.call "_law_names_in" [.ix (.var 4) (.int 1), .lst [.str "bind"]])) bPut] []]
theorem dueLoop {m : Mm} {F : Nat} (hF : m.length ≤ F) {es : List D} {x0 x1 : Option D} : ∀ (as : List Act) (l : List Str) (a : Mm) (x3 x4 : Option D), ActsG as → (m ++ a)[F]? = some (.dct (kvT l)) → l.length + 4 * as.length < 1000 →
    ∃ y3 y4, ∃ (l' : List Str), ∃ a', loopF (forB g1 (.n 4) bDueA) (gdW (es, none)) (as.map Act.d) [x0, x1, some (.ref F), x3, x4] (m ++ a) = some (.nx, [x0, x1, some (.ref F), y3, y4], m ++ a') ∧ (m ++ a')[F]? = some (.dct (kvT l')) ∧ l'.length ≤ l.length + 4 * as.length ∧ (l.Nodup → l'.Nodup) ∧ ∀ y, y ∈ l' ↔ y ∈ l ∨ y ∈ as.flatMap Act.bnd
  | [], l, a, x3, x4, _, e, _ => ⟨x3, x4, l, a, loopF_end rfl, e, Nat.le_refl _, id, fun y => by simp⟩
  | c :: as, l, a, x3, x4, hok, e, hl => by
    rw [List.length_cons] at hl
    obtain ⟨K, O, hc⟩ := hok c List.mem_cons_self
    obtain ⟨_, hb4⟩ := Act.bnd_ok hc
    have hok' : ActsG as := fun b hb => hok b (List.mem_cons_of_mem _ hb)
    have h0 := act0 (m := m ++ a) (a := c)
    have hi := ask_in (m := m ++ a) (a := c)
    obtain ⟨y3, l1, a1, t1, r1, r2, r3, r4⟩ : ∃ y3, ∃ (l1 : List Str), ∃ a1, forB g1 (.n 4) bDueA c.d [x0, x1, some (.ref F), x3, x4] (m ++ a) = some (.nx, [x0, x1, some (.ref F), y3, some c.d], m ++ a1) ∧ (m ++ a1)[F]? = some (.dct (kvT l1)) ∧ l1.length ≤ l.length + 4 ∧ (l.Nodup → l1.Nodup) ∧ ∀ y, y ∈ l1 ↔ y ∈ l ∨ y ∈ c.bnd := by
      have hbd := ask_bnd (a := c)
      cases ek : askA c with
      | none =>
        rw [ek] at hi hbd
        refine ⟨x3, l, a, ?_, e, by omega, id, fun y => by rw [hbd]; simp⟩
        unfold forB bDueA
        generalize c.d = cd at *
        simp only [evSs, evS.eq_1, evS.eq_2, evS.eq_3, evS.eq_4, evS.eq_5, evS.eq_6, evS.eq_7, evS.eq_8, evS.eq_9, evS.eq_10, evS.eq_13, evS.eq_14, evS.eq_15, evS.eq_16, evS.eq_17, evS_for, evS_whl, evE.eq_1, evE.eq_2, evE.eq_3, evE.eq_4, evE.eq_5, evE.eq_6, evE.eq_7, evE.eq_8, evE.eq_9, evE.eq_10, evE.eq_11, evE.eq_12, evE.eq_13, evE.eq_14, evE.eq_15, evE.eq_16, evE.eq_17, evE.eq_18, evE.eq_19, evE.eq_20, evE.eq_21, evE.eq_22, evE.eq_23, evE.eq_24, evE.eq_26, evE.eq_27, evE.eq_28, evE.eq_29, evE_comp, evA, evAnd, evOr, evP, evI, tst, bindT.eq_1, bindT.eq_2, bindTs.eq_1, bindTs.eq_2, stow_val, stow_tmp, truO, bltO, bop_int, bopI, cmp_int, Nb.ix_tup, ix_frz, ix_tmp, len_tup, len_frz, len_tmp, atI_0, atI_1, atI_2, atI_3, ixN_0, ixN_1, ixN_2, Option.bind_some, Option.map_some, Option.bind_none, Option.map_none, List.getElem?_cons_zero, List.getElem?_cons_succ, List.set_cons_zero, List.set_cons_succ, List.length_cons, List.length_nil, List.length_map, if_true, if_false, decide_true, decide_false, Bool.not_true, Bool.not_false, Bool.false_eq_true, reduceIte, List.map_cons, List.map_nil, List.cons_append, List.nil_append, List.replicate, Nat.sub_self, Nat.reduceSub, Nat.reduceAdd, Int.reduceAdd, Int.reducePow, Int.reduceToNat, Int.reduceLE, Int.reduceLT, Nat.reduceLT, Nat.reduceLeDiff, Nat.reducePow, Int.reduceSub, Int.reduceMul, Int.reduceEq, Nat.reduceEqDiff, and_self, true_and, and_true, or_true, true_or, Int.reduceNeg, eq_self, cmp_str, tyO, tyD, isi_ii, isi_is, isi_bi, isi_bs, isi_ib, isi_bb, dec_self, szE, bnd_int, seq_tup, seq_frz, seq_tmp, add_tup, h0, hi, Option.isSome_none]
      | some p =>
        have hp := ask_ok hc ek
        have h1 := ask1 (m := m ++ a) ek
        rw [ek] at hi hbd
        have hbd : c.bnd = bnds p := hbd
        have hn := names_in (m := m ++ (a ++ [.lst [.str "bind"]])) (d0 := .tup (p.map Fd.d)) (q := (m ++ a).length) (gs := p.map Fd.g) (o := none) (by rw [fgs_d]; rfl) rfl (by rw [← List.append_assoc]; exact get_new) (fun g hg => by
          obtain ⟨f, hf, rfl⟩ := List.mem_map.mp hg
          exact fg_ok (hp.ok f hf)) (by rw [List.length_map]; have := hp.hi; omega)
        rw [gb_fd] at hn
        rw [hbd] at hb4
        obtain ⟨y3, l1, a1, t1, r1, r2, r3, r4⟩ := putLoop hF (es := (bnds p).map D.str) (x0 := x0) (x1 := x1) (x4 := some c.d) (bnds p) l (a ++ [.lst [.str "bind"]]) x3 (by rw [← List.append_assoc]; exact get_old e) (by omega)
        refine ⟨y3, l1, a1, ?_, r1, by omega, r3, fun y => by rw [hbd]; exact r4 y⟩
        have s1 : evS g1 (.for_ (.n 3) (.e (.call "_law_names_in" [.ix (.var 4) (.int 1), .lst [.str "bind"]])) bPut) [x0, x1, some (.ref F), x3, some c.d] (m ++ a) = some (.nx, [x0, x1, some (.ref F), y3, some c.d], m ++ a1) := by
          rw [evS_for]
          generalize c.d = cd at *
          generalize (bnds p).map D.str = bl at *
          simp only [evSs, evS.eq_1, evS.eq_2, evS.eq_3, evS.eq_4, evS.eq_5, evS.eq_6, evS.eq_7, evS.eq_8, evS.eq_9, evS.eq_10, evS.eq_13, evS.eq_14, evS.eq_15, evS.eq_16, evS.eq_17, evS_for, evS_whl, evE.eq_1, evE.eq_2, evE.eq_3, evE.eq_4, evE.eq_5, evE.eq_6, evE.eq_7, evE.eq_8, evE.eq_9, evE.eq_10, evE.eq_11, evE.eq_12, evE.eq_13, evE.eq_14, evE.eq_15, evE.eq_16, evE.eq_17, evE.eq_18, evE.eq_19, evE.eq_20, evE.eq_21, evE.eq_22, evE.eq_23, evE.eq_24, evE.eq_26, evE.eq_27, evE.eq_28, evE.eq_29, evE_comp, evA, evAnd, evOr, evP, evI, tst, bindT.eq_1, bindT.eq_2, bindTs.eq_1, bindTs.eq_2, stow_val, stow_tmp, truO, bltO, bop_int, bopI, cmp_int, Nb.ix_tup, ix_frz, ix_tmp, len_tup, len_frz, len_tmp, atI_0, atI_1, atI_2, atI_3, ixN_0, ixN_1, ixN_2, Option.bind_some, Option.map_some, Option.bind_none, Option.map_none, List.getElem?_cons_zero, List.getElem?_cons_succ, List.set_cons_zero, List.set_cons_succ, List.length_cons, List.length_nil, List.length_map, if_true, if_false, decide_true, decide_false, Bool.not_true, Bool.not_false, Bool.false_eq_true, reduceIte, List.map_cons, List.map_nil, List.cons_append, List.nil_append, List.replicate, Nat.sub_self, Nat.reduceSub, Nat.reduceAdd, Int.reduceAdd, Int.reducePow, Int.reduceToNat, Int.reduceLE, Int.reduceLT, Nat.reduceLT, Nat.reduceLeDiff, Nat.reducePow, Int.reduceSub, Int.reduceMul, Int.reduceEq, Nat.reduceEqDiff, and_self, true_and, and_true, or_true, true_or, Int.reduceNeg, eq_self, cmp_str, tyO, tyD, isi_ii, isi_is, isi_bi, isi_bs, isi_ib, isi_bb, dec_self, szE, bnd_int, seq_tup, seq_frz, seq_tmp, add_tup, h1, p_1_Lnames_in, List.append_assoc, hn, wkO]
          exact t1
        unfold forB bDueA
        rw [show (S.for_ (.n 3) (.e (.call "_law_names_in" [.ix (.var 4) (.int 1), .lst [.str "bind"]])) bPut) = id (S.for_ (.n 3) (.e (.call "_law_names_in" [.ix (.var 4) (.int 1), .lst [.str "bind"]])) bPut) from rfl]
        have s1 : evS g1 (id (S.for_ _ _ _)) _ _ = _ := s1
        generalize c.d = cd at *
        simp only [evSs, evS.eq_1, evS.eq_2, evS.eq_3, evS.eq_4, evS.eq_5, evS.eq_6, evS.eq_7, evS.eq_8, evS.eq_9, evS.eq_10, evS.eq_13, evS.eq_14, evS.eq_15, evS.eq_16, evS.eq_17, evS_for, evS_whl, evE.eq_1, evE.eq_2, evE.eq_3, evE.eq_4, evE.eq_5, evE.eq_6, evE.eq_7, evE.eq_8, evE.eq_9, evE.eq_10, evE.eq_11, evE.eq_12, evE.eq_13, evE.eq_14, evE.eq_15, evE.eq_16, evE.eq_17, evE.eq_18, evE.eq_19, evE.eq_20, evE.eq_21, evE.eq_22, evE.eq_23, evE.eq_24, evE.eq_26, evE.eq_27, evE.eq_28, evE.eq_29, evE_comp, evA, evAnd, evOr, evP, evI, tst, bindT.eq_1, bindT.eq_2, bindTs.eq_1, bindTs.eq_2, stow_val, stow_tmp, truO, bltO, bop_int, bopI, cmp_int, Nb.ix_tup, ix_frz, ix_tmp, len_tup, len_frz, len_tmp, atI_0, atI_1, atI_2, atI_3, ixN_0, ixN_1, ixN_2, Option.bind_some, Option.map_some, Option.bind_none, Option.map_none, List.getElem?_cons_zero, List.getElem?_cons_succ, List.set_cons_zero, List.set_cons_succ, List.length_cons, List.length_nil, List.length_map, if_true, if_false, decide_true, decide_false, Bool.not_true, Bool.not_false, Bool.false_eq_true, reduceIte, List.map_cons, List.map_nil, List.cons_append, List.nil_append, List.replicate, Nat.sub_self, Nat.reduceSub, Nat.reduceAdd, Int.reduceAdd, Int.reducePow, Int.reduceToNat, Int.reduceLE, Int.reduceLT, Nat.reduceLT, Nat.reduceLeDiff, Nat.reducePow, Int.reduceSub, Int.reduceMul, Int.reduceEq, Nat.reduceEqDiff, and_self, true_and, and_true, or_true, true_or, Int.reduceNeg, eq_self, cmp_str, tyO, tyD, isi_ii, isi_is, isi_bi, isi_bs, isi_ib, isi_bb, dec_self, szE, bnd_int, seq_tup, seq_frz, seq_tmp, add_tup, h0, hi, Option.isSome_some, s1]
    obtain ⟨z3, z4, l2, a2, t2, j1, j2, j3, j4⟩ := dueLoop hF (es := es) (x0 := x0) (x1 := x1) as l1 a1 y3 (some c.d) hok' r1 (by omega)
    refine ⟨z3, z4, l2, a2, ?_, j1, by rw [List.length_cons]; omega, fun h => j3 (r3 h), fun y => ?_⟩
    · rw [List.map_cons]
      exact (loopF_nx rfl t1).trans t2
    · rw [j4, r4, List.flatMap_cons, List.mem_append]
      exact or_assoc
theorem due_run {m : Mm} {j : Nat} {w : List Str} {as : List Act} (hok : ActsG as) (hw : w.length ≤ 2) (hla : as.length ≤ 8) :
    ∃ a, F_Ldue [bkD (w, as), .int j] m = some (.val (.tup ((ris (kb w (as.take j))).map .str)), m ++ a) := by
  have htl : (as.take j).length ≤ 8 := Nat.le_trans (List.length_take_le' _ _) hla
  obtain ⟨y3, l1, a1, t1, r1, r2, r3, r4⟩ := putLoop (m := m) (F := m.length) (Nat.le_refl _) (es := w.map D.str) (x0 := some (bkD (w, as))) (x1 := some (.int j)) (x4 := none) w [] [.dct (kvT [])] none get_new (by rw [List.length_nil]; omega)
  rw [List.length_nil] at r2
  obtain ⟨z3, z4, l2, a2, t2, j1, j2, j3, j4⟩ := dueLoop (m := m) (F := m.length) (Nat.le_refl _) (es := (as.take j).map Act.d) (x0 := some (bkD (w, as))) (x1 := some (.int j)) (as.take j) l1 a1 y3 none (fun a ha => hok a (List.mem_of_mem_take ha)) r1 (by omega)
  have hs := sorted_T j1 (by omega)
  have hr : sortS l2 = ris (kb w (as.take j)) := ris_of (j3 (r3 List.nodup_nil)) fun y => by
    rw [j4, r4]
    unfold kb
    rw [List.mem_append]
    simp
  rw [hr] at hs
  refine ⟨a2, ?_⟩
  have e0 : evS g1 (.asg (.n 2) .dnew) [some (bkD (w, as)), some (.int j), none, none, none] m = some (.nx, [some (bkD (w, as)), some (.int j), some (.ref m.length), none, none], m ++ [.dct (kvT [])]) := by
    simp only [evSs, evS.eq_1, evS.eq_2, evS.eq_3, evS.eq_4, evS.eq_5, evS.eq_6, evS.eq_7, evS.eq_8, evS.eq_9, evS.eq_10, evS.eq_13, evS.eq_14, evS.eq_15, evS.eq_16, evS.eq_17, evS_for, evS_whl, evE.eq_1, evE.eq_2, evE.eq_3, evE.eq_4, evE.eq_5, evE.eq_6, evE.eq_7, evE.eq_8, evE.eq_9, evE.eq_10, evE.eq_11, evE.eq_12, evE.eq_13, evE.eq_14, evE.eq_15, evE.eq_16, evE.eq_17, evE.eq_18, evE.eq_19, evE.eq_20, evE.eq_21, evE.eq_22, evE.eq_23, evE.eq_24, evE.eq_26, evE.eq_27, evE.eq_28, evE.eq_29, evE_comp, evA, evAnd, evOr, evP, evI, tst, bindT.eq_1, bindT.eq_2, bindTs.eq_1, bindTs.eq_2, stow_val, stow_tmp, truO, bltO, bop_int, bopI, cmp_int, Nb.ix_tup, ix_frz, ix_tmp, len_tup, len_frz, len_tmp, atI_0, atI_1, atI_2, atI_3, ixN_0, ixN_1, ixN_2, Option.bind_some, Option.map_some, Option.bind_none, Option.map_none, List.getElem?_cons_zero, List.getElem?_cons_succ, List.set_cons_zero, List.set_cons_succ, List.length_cons, List.length_nil, List.length_map, if_true, if_false, decide_true, decide_false, Bool.not_true, Bool.not_false, Bool.false_eq_true, reduceIte, List.map_cons, List.map_nil, List.cons_append, List.nil_append, List.replicate, Nat.sub_self, Nat.reduceSub, Nat.reduceAdd, Int.reduceAdd, Int.reducePow, Int.reduceToNat, Int.reduceLE, Int.reduceLT, Nat.reduceLT, Nat.reduceLeDiff, Nat.reducePow, Int.reduceSub, Int.reduceMul, Int.reduceEq, Nat.reduceEqDiff, and_self, true_and, and_true, or_true, true_or, Int.reduceNeg, eq_self, cmp_str, tyO, tyD, isi_ii, isi_is, isi_bi, isi_bs, isi_ib, isi_bb, dec_self, szE, bnd_int, seq_tup, seq_frz, seq_tmp, add_tup]
    rfl
  have e1 : evS g1 (.for_ (.n 3) (.e (.ix (.var 0) (.int 0))) bPut) [some (bkD (w, as)), some (.int j), some (.ref m.length), none, none] (m ++ [.dct (kvT [])]) = some (.nx, [some (bkD (w, as)), some (.int j), some (.ref m.length), y3, none], m ++ a1) := by
    have hx : ixO (m ++ [.dct (kvT [])]) (.val (bkD (w, as))) (.val (.int 0)) = some (.tup (w.map .str)) := rfl
    rw [evS_for]
    generalize bkD (w, as) = bd at *
    generalize w.map D.str = wl at *
    simp only [evSs, evS.eq_1, evS.eq_2, evS.eq_3, evS.eq_4, evS.eq_5, evS.eq_6, evS.eq_7, evS.eq_8, evS.eq_9, evS.eq_10, evS.eq_13, evS.eq_14, evS.eq_15, evS.eq_16, evS.eq_17, evS_for, evS_whl, evE.eq_1, evE.eq_2, evE.eq_3, evE.eq_4, evE.eq_5, evE.eq_6, evE.eq_7, evE.eq_8, evE.eq_9, evE.eq_10, evE.eq_11, evE.eq_12, evE.eq_13, evE.eq_14, evE.eq_15, evE.eq_16, evE.eq_17, evE.eq_18, evE.eq_19, evE.eq_20, evE.eq_21, evE.eq_22, evE.eq_23, evE.eq_24, evE.eq_26, evE.eq_27, evE.eq_28, evE.eq_29, evE_comp, evA, evAnd, evOr, evP, evI, tst, bindT.eq_1, bindT.eq_2, bindTs.eq_1, bindTs.eq_2, stow_val, stow_tmp, truO, bltO, bop_int, bopI, cmp_int, Nb.ix_tup, ix_frz, ix_tmp, len_tup, len_frz, len_tmp, atI_0, atI_1, atI_2, atI_3, ixN_0, ixN_1, ixN_2, Option.bind_some, Option.map_some, Option.bind_none, Option.map_none, List.getElem?_cons_zero, List.getElem?_cons_succ, List.set_cons_zero, List.set_cons_succ, List.length_cons, List.length_nil, List.length_map, if_true, if_false, decide_true, decide_false, Bool.not_true, Bool.not_false, Bool.false_eq_true, reduceIte, List.map_cons, List.map_nil, List.cons_append, List.nil_append, List.replicate, Nat.sub_self, Nat.reduceSub, Nat.reduceAdd, Int.reduceAdd, Int.reducePow, Int.reduceToNat, Int.reduceLE, Int.reduceLT, Nat.reduceLT, Nat.reduceLeDiff, Nat.reducePow, Int.reduceSub, Int.reduceMul, Int.reduceEq, Nat.reduceEqDiff, and_self, true_and, and_true, or_true, true_or, Int.reduceNeg, eq_self, cmp_str, tyO, tyD, isi_ii, isi_is, isi_bi, isi_bs, isi_ib, isi_bb, dec_self, szE, bnd_int, seq_tup, seq_frz, seq_tmp, add_tup, hx, wkO]
    exact t1
  have e2 : evS g1 (.for_ (.n 4) (.e (.slc (.ix (.var 0) (.int 1)) none (some (.var 1)))) bDueA) [some (bkD (w, as)), some (.int j), some (.ref m.length), y3, none] (m ++ a1) = some (.nx, [some (bkD (w, as)), some (.int j), some (.ref m.length), z3, z4], m ++ a2) := by
    have hx : ixO (m ++ a1) (.val (bkD (w, as))) (.val (.int 1)) = some (.tup (as.map Act.d)) := rfl
    have hc : cutA (as.map Act.d) none (some (j : Int)) = (as.take j).map Act.d := by rw [cut_take, List.map_take]
    rw [evS_for]
    generalize bkD (w, as) = bd at *
    generalize as.map Act.d = al at *
    simp only [evSs, evS.eq_1, evS.eq_2, evS.eq_3, evS.eq_4, evS.eq_5, evS.eq_6, evS.eq_7, evS.eq_8, evS.eq_9, evS.eq_10, evS.eq_13, evS.eq_14, evS.eq_15, evS.eq_16, evS.eq_17, evS_for, evS_whl, evE.eq_1, evE.eq_2, evE.eq_3, evE.eq_4, evE.eq_5, evE.eq_6, evE.eq_7, evE.eq_8, evE.eq_9, evE.eq_10, evE.eq_11, evE.eq_12, evE.eq_13, evE.eq_14, evE.eq_15, evE.eq_16, evE.eq_17, evE.eq_18, evE.eq_19, evE.eq_20, evE.eq_21, evE.eq_22, evE.eq_23, evE.eq_24, evE.eq_26, evE.eq_27, evE.eq_28, evE.eq_29, evE_comp, evA, evAnd, evOr, evP, evI, tst, bindT.eq_1, bindT.eq_2, bindTs.eq_1, bindTs.eq_2, stow_val, stow_tmp, truO, bltO, bop_int, bopI, cmp_int, Nb.ix_tup, ix_frz, ix_tmp, len_tup, len_frz, len_tmp, atI_0, atI_1, atI_2, atI_3, ixN_0, ixN_1, ixN_2, Option.bind_some, Option.map_some, Option.bind_none, Option.map_none, List.getElem?_cons_zero, List.getElem?_cons_succ, List.set_cons_zero, List.set_cons_succ, List.length_cons, List.length_nil, List.length_map, if_true, if_false, decide_true, decide_false, Bool.not_true, Bool.not_false, Bool.false_eq_true, reduceIte, List.map_cons, List.map_nil, List.cons_append, List.nil_append, List.replicate, Nat.sub_self, Nat.reduceSub, Nat.reduceAdd, Int.reduceAdd, Int.reducePow, Int.reduceToNat, Int.reduceLE, Int.reduceLT, Nat.reduceLT, Nat.reduceLeDiff, Nat.reducePow, Int.reduceSub, Int.reduceMul, Int.reduceEq, Nat.reduceEqDiff, and_self, true_and, and_true, or_true, true_or, Int.reduceNeg, eq_self, cmp_str, tyO, tyD, isi_ii, isi_is, isi_bi, isi_bs, isi_ib, isi_bb, dec_self, szE, bnd_int, seq_tup, seq_frz, seq_tmp, add_tup, hx, slc_tup, hc, wkO]
    exact t2
  unfold F_Ldue runF s_Ldue
  rw [e_Ldue]
  show (evSs g1 [.asg (.n 2) .dnew, .for_ (.n 3) (.e (.ix (.var 0) (.int 0))) bPut, .for_ (.n 4) (.e (.slc (.ix (.var 0) (.int 1)) none (some (.var 1)))) bDueA, .ret _] [some (bkD (w, as)), some (.int j), none, none, none] m).bind _ = _
  rw [evSs.eq_2, e0, Option.bind_some, evSs.eq_2, e1, Option.bind_some, evSs.eq_2, e2, Option.bind_some]
  simp only [evSs, evS.eq_1, evS.eq_2, evS.eq_3, evS.eq_4, evS.eq_5, evS.eq_6, evS.eq_7, evS.eq_8, evS.eq_9, evS.eq_10, evS.eq_13, evS.eq_14, evS.eq_15, evS.eq_16, evS.eq_17, evS_for, evS_whl, evE.eq_1, evE.eq_2, evE.eq_3, evE.eq_4, evE.eq_5, evE.eq_6, evE.eq_7, evE.eq_8, evE.eq_9, evE.eq_10, evE.eq_11, evE.eq_12, evE.eq_13, evE.eq_14, evE.eq_15, evE.eq_16, evE.eq_17, evE.eq_18, evE.eq_19, evE.eq_20, evE.eq_21, evE.eq_22, evE.eq_23, evE.eq_24, evE.eq_26, evE.eq_27, evE.eq_28, evE.eq_29, evE_comp, evA, evAnd, evOr, evP, evI, tst, bindT.eq_1, bindT.eq_2, bindTs.eq_1, bindTs.eq_2, stow_val, stow_tmp, truO, bltO, bop_int, bopI, cmp_int, Nb.ix_tup, ix_frz, ix_tmp, len_tup, len_frz, len_tmp, atI_0, atI_1, atI_2, atI_3, ixN_0, ixN_1, ixN_2, Option.bind_some, Option.map_some, Option.bind_none, Option.map_none, List.getElem?_cons_zero, List.getElem?_cons_succ, List.set_cons_zero, List.set_cons_succ, List.length_cons, List.length_nil, List.length_map, if_true, if_false, decide_true, decide_false, Bool.not_true, Bool.not_false, Bool.false_eq_true, reduceIte, List.map_cons, List.map_nil, List.cons_append, List.nil_append, List.replicate, Nat.sub_self, Nat.reduceSub, Nat.reduceAdd, Int.reduceAdd, Int.reducePow, Int.reduceToNat, Int.reduceLE, Int.reduceLT, Nat.reduceLT, Nat.reduceLeDiff, Nat.reducePow, Int.reduceSub, Int.reduceMul, Int.reduceEq, Nat.reduceEqDiff, and_self, true_and, and_true, or_true, true_or, Int.reduceNeg, eq_self, cmp_str, tyO, tyD, isi_ii, isi_is, isi_bi, isi_bs, isi_ib, isi_bb, dec_self, szE, bnd_int, seq_tup, seq_frz, seq_tmp, add_tup, hs]
end LawP

namespace LawP
open PySem PySem.Spec L2 Nb Hd
/-! ### what is known, and what may be used -/
theorem addN_mem {y : Str} : ∀ {xs K : List Str}, y ∈ addN K xs ↔ y ∈ K ∨ y ∈ xs
  | [], K => by simp [addN]
  | x :: r, K => by
    unfold addN
    rw [addN_mem, List.mem_cons]
    by_cases h : x ∈ K
    · rw [if_pos h]
      exact ⟨fun q => q.elim .inl fun q => .inr (.inr q), fun q => q.elim .inl fun q => q.elim (fun e => .inl (e ▸ h)) .inr⟩
    · rw [if_neg h, List.mem_append, List.mem_singleton]
      exact or_assoc
theorem kn_mem {y : Str} : ∀ {as : List Act} {K : List Str}, y ∈ kn K as ↔ y ∈ kb K as
  | [], K => by simp [kn, kb]
  | a :: as, K => by
    have e : kn K (a :: as) = kn (addN K a.bnd) as := rfl
    rw [e, kn_mem]
    unfold kb
    rw [List.mem_append, List.mem_append, addN_mem, List.flatMap_cons, List.mem_append]
    exact or_assoc
theorem actsOk_at {WS : List (List Str)} : ∀ {as : List Act} {K : List Str} {j : Nat} {a : Act}, actsOk WS K as → as[j]? = some a → Act.ok (kn K (as.take j)) (opens WS (kn K (as.take j))) a
  | [], K, j, a, _, h => by simp at h
  | b :: as, K, 0, a, hs, h => by
    cases h
    exact hs.1
  | b :: as, K, j + 1, a, hs, h => by
    have := actsOk_at (j := j) hs.2 (by simpa using h)
    exact this
theorem actsG_of {WS : List (List Str)} {K : List Str} {as : List Act} (h : actsOk WS K as) : ActsG as := fun a ha => by
  obtain ⟨j, hj⟩ := List.mem_iff_getElem?.mp ha
  exact ⟨_, _, actsOk_at h hj⟩
def gOk (H : List Str) : List Gf → Prop
  | [] => True
  | g :: gs => (∀ x, (g = .as_ x ∨ g = .next x) → x ∈ H) ∧ gOk (H ++ gb [g]) gs
theorem gOk_fd : ∀ {fs : List Fd} {K H : List Str}, (∀ x ∈ K, x ∈ H) → asOk K fs → gOk H (fs.map Fd.g)
  | [], K, H, _, _ => trivial
  | f :: fs, K, H, hK, h => by
    refine ⟨fun x e => ?_, gOk_fd (K := K ++ bnds [f]) (fun x hx => ?_) h.2⟩
    · cases f with
      | as_ y =>
        rcases e with e | e
        · cases e
          exact hK _ (h.1 _ rfl)
        · cases e
      | _ => rcases e with e | e <;> cases e
    · rw [show gb [f.g] = bnds [f] from gb_fd [f]]
      rcases List.mem_append.mp hx with hx | hx
      · exact List.mem_append_left _ (hK x hx)
      · exact List.mem_append_right _ hx
theorem gOk_tf : ∀ {ts : List Tf} {K H : List Str}, (∀ x ∈ K, x ∈ H) → (∀ t ∈ ts, Tf.ok K t) → gOk H (ts.map Tf.g)
  | [], K, H, _, _ => trivial
  | t :: ts, K, H, hK, h => by
    refine ⟨fun x e => ?_, gOk_tf (K := K) (fun x hx => List.mem_append_left _ (hK x hx)) fun u hu => h u (List.mem_cons_of_mem _ hu)⟩
    have ht := h t List.mem_cons_self
    cases t with
    | is v => rcases e with e | e <;> cases e
    | as_ y =>
      rcases e with e | e
      · cases e
        exact hK _ ht
      · cases e
    | next y =>
      rcases e with e | e
      · cases e
      · cases e
        exact hK _ ht
/-- what an act asks and uses -/
def gsA : Act → List Gf
  | .lay t _ => t.map Tf.g
  | .same s t _ => [s.g, t.g]
  | .go _ => []
  | .look p _ => p.map Fd.g
  | .take p => p.map Fd.g
  | .read p => p.map Fd.g
def toA : Act → Option Int
  | .same _ _ b => some b
  | .go b => some b
  | .look _ b => some b
  | _ => none
theorem gsA_ok {a : Act} {K H : List Str} {O : List Int} (hK : ∀ x ∈ K, x ∈ NN) (hH : ∀ x ∈ K, x ∈ H) (h : Act.ok K O a) : gOk H (gsA a) ∧ (∀ g ∈ gsA a, g.ok) ∧ (gsA a).length ≤ 4 := by
  have pt : ∀ p, PatOk K p → gOk H (p.map Fd.g) ∧ (∀ g ∈ p.map Fd.g, g.ok) ∧ (p.map Fd.g).length ≤ 4 := fun p hp => ⟨gOk_fd hH hp.as_, fun g hg => by
    obtain ⟨f, hf, rfl⟩ := List.mem_map.mp hg
    exact fg_ok (hp.ok f hf), by rw [List.length_map]; exact hp.hi⟩
  cases a with
  | lay t g =>
    refine ⟨gOk_tf hH h.1.ok, fun g hg => ?_, by unfold gsA; rw [List.length_map]; exact h.1.hi⟩
    obtain ⟨f, hf, rfl⟩ := List.mem_map.mp hg
    exact tg_ok hK (h.1.ok f hf)
  | same s t b =>
    have hs : ∀ u ∈ [s, t], Tf.ok K u := fun u hu => by
      simp only [List.mem_cons, List.not_mem_nil, or_false] at hu
      rcases hu with rfl | rfl
      · exact h.1
      · exact h.2.1
    refine ⟨gOk_tf (ts := [s, t]) hH hs, fun g hg => ?_, by show 2 ≤ 4; decide⟩
    obtain ⟨f, hf, rfl⟩ := List.mem_map.mp (show g ∈ [s, t].map Tf.g from hg)
    exact tg_ok hK (hs f hf)
  | go b => exact ⟨trivial, (fun g hg => nomatch hg), Nat.zero_le _⟩
  | look p b => exact pt p h.1
  | take p => exact pt p h
  | read p => exact pt p h
def cUs : E := .and [.cmp .isin (.ix (.var 5) (.int 0)) (.tup [.str "as", .str "next"]), .cmp .notin (.ix (.var 5) (.int 1)) (.var 4)]
def aUs : S := .asg (.n 4) (.bop .add (.var 4) (.call "_law_names_in" [.lst [.var 5], .lst [.str "bind"]]))
def bUs : List S := [.ife cUs [.ret (.bl false)] [], aUs]
theorem add_rt {m : Mm} {a : Nat} {xs ys : List D} (h : m[a]? = some (.lst xs)) (hl : xs.length + ys.length ≤ 16777216) : bopO m .add (.val (.ref a)) (.tmp ys) = some (.tmp (xs ++ ys)) := by
  show (match lstO m (.val (.ref a)), lstO m (.tmp ys) with
    | some xs, some ys => if xs.length + ys.length ≤ sizeLine then some (Out.tmp (xs ++ ys)) else none
    | _, _ => none) = _
  rw [lst_ref h, lst_tmp]
  show (if xs.length + ys.length ≤ sizeLine then some (Out.tmp (xs ++ ys)) else none) = _
  rw [szE, if_pos hl]
theorem usLoop {m : Mm} {es : List D} {x0 x1 x2 x3 x6 : Option D} : ∀ (gs : List Gf) (H : List Str) (a : Mm) (h : Nat) (x5 : Option D), gOk H gs → (∀ g ∈ gs, g.ok) → (∀ x ∈ H, x ∈ NN) → (m ++ a)[h]? = some (.lst (H.map .str)) → H.length + gs.length < 1000 →
    ∃ h' y5 a', loopF (forB g1 (.n 5) bUs) (gdW (es, none)) (gs.map Gf.d) [x0, x1, x2, x3, some (.ref h), x5, x6] (m ++ a) = some (.nx, [x0, x1, x2, x3, some (.ref h'), y5, x6], m ++ a')
  | [], H, a, h, x5, _, _, _, _, _ => ⟨h, x5, a, loopF_end rfl⟩
  | g :: gs, H, a, h, x5, hg, hok, hN, e, hl => by
    rw [List.length_cons] at hl
    have g0 := hok g List.mem_cons_self
    have hgb : (gb [g]).length ≤ 1 := List.length_filterMap_le _ _
    have M1 : (m ++ a ++ [.lst [g.d], .lst [.str "bind"]])[(m ++ a).length]? = some (.lst [g.d]) := end2a
    have M2 : (m ++ a ++ [.lst [g.d], .lst [.str "bind"]])[(m ++ a).length + 1]? = some (.lst [.str "bind"]) := end2b
    have M3 : (m ++ a ++ [.lst [g.d], .lst [.str "bind"]])[h]? = some (.lst (H.map .str)) := get_old e
    have hn := names_in (m := m ++ a ++ [.lst [g.d], .lst [.str "bind"]]) (d0 := .ref (m ++ a).length) (q := (m ++ a).length + 1) (gs := [g]) (o := some (m ++ a).length) (wk_ref M1) (gd_ref M1) M2 (fun z hz => by rw [List.mem_singleton.mp hz]; exact g0) (by show 1 < 1000; decide)
    have ha := add_rt (ys := (gb [g]).map .str) M3 (by rw [List.length_map, List.length_map]; omega)
    rw [← List.map_append] at ha
    obtain ⟨h', y5, a', t⟩ := usLoop (m := m) (es := es) (x0 := x0) (x1 := x1) (x2 := x2) (x3 := x3) (x6 := x6) gs (H ++ gb [g]) (a ++ [.lst [g.d], .lst [.str "bind"], .lst ((H ++ gb [g]).map .str)]) ((m ++ a).length + 2) (some g.d) hg.2 (fun z hz => hok z (List.mem_cons_of_mem _ hz)) (fun x hx => by
      rcases List.mem_append.mp hx with hx | hx
      · exact hN x hx
      · exact gb_nn (gs := [g]) (fun z hz => by rw [List.mem_singleton.mp hz]; exact g0) x hx) (by
      have : m ++ (a ++ [.lst [g.d], .lst [.str "bind"], .lst ((H ++ gb [g]).map .str)]) = m ++ a ++ [.lst [g.d], .lst [.str "bind"]] ++ [.lst ((H ++ gb [g]).map .str)] := by simp only [List.append_assoc, List.cons_append, List.nil_append]
      rw [this]
      have l : (m ++ a).length + 2 = (m ++ a ++ [MO.lst [g.d], .lst [.str "bind"]]).length := by
        rw [List.length_append (as := m ++ a)]
        rfl
      rw [l]
      exact get_new) (by rw [List.length_append]; omega)
    refine ⟨h', y5, a', ?_⟩
    rw [List.map_cons]
    refine (loopF_nx rfl ?_).trans t
    have hin : ∀ w : Str, cmpO (m ++ a) .isin (.val (.str w)) (.val (.tup [.str "as", .str "next"])) = some (decide (w ∈ (["as", "next"] : List Str))) := fun w => by
      show inO (m ++ a) (.val (.str w)) (.val (.tup ((["as", "next"] : List Str).map D.str))) = _
      exact in_tupT
    have hno : ∀ x, x ∈ H → cmpO (m ++ a) .notin (.val (.str x)) (.val (.ref h)) = some false := fun x hx => by
      show (inO (m ++ a) (.val (.str x)) (.val (.ref h))).map _ = _
      rw [in_strs e (okNN x (hN x hx)).1 fun y hy => (okNN y (hN y hy)).1, decide_eq_true hx]
      rfl
    have ec : evE g1 cUs [x0, x1, x2, x3, some (.ref h), some g.d, x6] (m ++ a) = some (.val (.bl false), m ++ a) := by
      unfold cUs
      cases g with
      | is v =>
        have i1 : decide (("is" : Str) ∈ (["as", "next"] : List Str)) = false := decide_eq_false (by decide +kernel)
        have hi := hin "is"
        rw [i1] at hi
        simp only [evSs, evS.eq_1, evS.eq_2, evS.eq_3, evS.eq_4, evS.eq_5, evS.eq_6, evS.eq_7, evS.eq_8, evS.eq_9, evS.eq_10, evS.eq_13, evS.eq_14, evS.eq_15, evS.eq_16, evS.eq_17, evS_for, evS_whl, evE.eq_1, evE.eq_2, evE.eq_3, evE.eq_4, evE.eq_5, evE.eq_6, evE.eq_7, evE.eq_8, evE.eq_9, evE.eq_10, evE.eq_11, evE.eq_12, evE.eq_13, evE.eq_14, evE.eq_15, evE.eq_16, evE.eq_17, evE.eq_18, evE.eq_19, evE.eq_20, evE.eq_21, evE.eq_22, evE.eq_23, evE.eq_24, evE.eq_26, evE.eq_27, evE.eq_28, evE.eq_29, evE_comp, evA, evAnd, evOr, evP, evI, tst, bindT.eq_1, bindT.eq_2, bindTs.eq_1, bindTs.eq_2, stow_val, stow_tmp, truO, bltO, bop_int, bopI, cmp_int, Nb.ix_tup, ix_frz, ix_tmp, len_tup, len_frz, len_tmp, atI_0, atI_1, atI_2, atI_3, ixN_0, ixN_1, ixN_2, Option.bind_some, Option.map_some, Option.bind_none, Option.map_none, List.getElem?_cons_zero, List.getElem?_cons_succ, List.set_cons_zero, List.set_cons_succ, List.length_cons, List.length_nil, List.length_map, if_true, if_false, decide_true, decide_false, Bool.not_true, Bool.not_false, Bool.false_eq_true, reduceIte, List.map_cons, List.map_nil, List.cons_append, List.nil_append, List.replicate, Nat.sub_self, Nat.reduceSub, Nat.reduceAdd, Int.reduceAdd, Int.reducePow, Int.reduceToNat, Int.reduceLE, Int.reduceLT, Nat.reduceLT, Nat.reduceLeDiff, Nat.reducePow, Int.reduceSub, Int.reduceMul, Int.reduceEq, Nat.reduceEqDiff, and_self, true_and, and_true, or_true, true_or, Int.reduceNeg, eq_self, cmp_str, tyO, tyD, isi_ii, isi_is, isi_bi, isi_bs, isi_ib, isi_bb, dec_self, szE, bnd_int, seq_tup, seq_frz, seq_tmp, add_tup, Gf.d, hi]
      | bare x =>
        have hi := hin x
        rw [(bw_ne g0).2.1] at hi
        simp only [evSs, evS.eq_1, evS.eq_2, evS.eq_3, evS.eq_4, evS.eq_5, evS.eq_6, evS.eq_7, evS.eq_8, evS.eq_9, evS.eq_10, evS.eq_13, evS.eq_14, evS.eq_15, evS.eq_16, evS.eq_17, evS_for, evS_whl, evE.eq_1, evE.eq_2, evE.eq_3, evE.eq_4, evE.eq_5, evE.eq_6, evE.eq_7, evE.eq_8, evE.eq_9, evE.eq_10, evE.eq_11, evE.eq_12, evE.eq_13, evE.eq_14, evE.eq_15, evE.eq_16, evE.eq_17, evE.eq_18, evE.eq_19, evE.eq_20, evE.eq_21, evE.eq_22, evE.eq_23, evE.eq_24, evE.eq_26, evE.eq_27, evE.eq_28, evE.eq_29, evE_comp, evA, evAnd, evOr, evP, evI, tst, bindT.eq_1, bindT.eq_2, bindTs.eq_1, bindTs.eq_2, stow_val, stow_tmp, truO, bltO, bop_int, bopI, cmp_int, Nb.ix_tup, ix_frz, ix_tmp, len_tup, len_frz, len_tmp, atI_0, atI_1, atI_2, atI_3, ixN_0, ixN_1, ixN_2, Option.bind_some, Option.map_some, Option.bind_none, Option.map_none, List.getElem?_cons_zero, List.getElem?_cons_succ, List.set_cons_zero, List.set_cons_succ, List.length_cons, List.length_nil, List.length_map, if_true, if_false, decide_true, decide_false, Bool.not_true, Bool.not_false, Bool.false_eq_true, reduceIte, List.map_cons, List.map_nil, List.cons_append, List.nil_append, List.replicate, Nat.sub_self, Nat.reduceSub, Nat.reduceAdd, Int.reduceAdd, Int.reducePow, Int.reduceToNat, Int.reduceLE, Int.reduceLT, Nat.reduceLT, Nat.reduceLeDiff, Nat.reducePow, Int.reduceSub, Int.reduceMul, Int.reduceEq, Nat.reduceEqDiff, and_self, true_and, and_true, or_true, true_or, Int.reduceNeg, eq_self, cmp_str, tyO, tyD, isi_ii, isi_is, isi_bi, isi_bs, isi_ib, isi_bb, dec_self, szE, bnd_int, seq_tup, seq_frz, seq_tmp, add_tup, Gf.d, hi]
      | bind x =>
        have i1 : decide (("bind" : Str) ∈ (["as", "next"] : List Str)) = false := decide_eq_false (by decide +kernel)
        have hi := hin "bind"
        rw [i1] at hi
        simp only [evSs, evS.eq_1, evS.eq_2, evS.eq_3, evS.eq_4, evS.eq_5, evS.eq_6, evS.eq_7, evS.eq_8, evS.eq_9, evS.eq_10, evS.eq_13, evS.eq_14, evS.eq_15, evS.eq_16, evS.eq_17, evS_for, evS_whl, evE.eq_1, evE.eq_2, evE.eq_3, evE.eq_4, evE.eq_5, evE.eq_6, evE.eq_7, evE.eq_8, evE.eq_9, evE.eq_10, evE.eq_11, evE.eq_12, evE.eq_13, evE.eq_14, evE.eq_15, evE.eq_16, evE.eq_17, evE.eq_18, evE.eq_19, evE.eq_20, evE.eq_21, evE.eq_22, evE.eq_23, evE.eq_24, evE.eq_26, evE.eq_27, evE.eq_28, evE.eq_29, evE_comp, evA, evAnd, evOr, evP, evI, tst, bindT.eq_1, bindT.eq_2, bindTs.eq_1, bindTs.eq_2, stow_val, stow_tmp, truO, bltO, bop_int, bopI, cmp_int, Nb.ix_tup, ix_frz, ix_tmp, len_tup, len_frz, len_tmp, atI_0, atI_1, atI_2, atI_3, ixN_0, ixN_1, ixN_2, Option.bind_some, Option.map_some, Option.bind_none, Option.map_none, List.getElem?_cons_zero, List.getElem?_cons_succ, List.set_cons_zero, List.set_cons_succ, List.length_cons, List.length_nil, List.length_map, if_true, if_false, decide_true, decide_false, Bool.not_true, Bool.not_false, Bool.false_eq_true, reduceIte, List.map_cons, List.map_nil, List.cons_append, List.nil_append, List.replicate, Nat.sub_self, Nat.reduceSub, Nat.reduceAdd, Int.reduceAdd, Int.reducePow, Int.reduceToNat, Int.reduceLE, Int.reduceLT, Nat.reduceLT, Nat.reduceLeDiff, Nat.reducePow, Int.reduceSub, Int.reduceMul, Int.reduceEq, Nat.reduceEqDiff, and_self, true_and, and_true, or_true, true_or, Int.reduceNeg, eq_self, cmp_str, tyO, tyD, isi_ii, isi_is, isi_bi, isi_bs, isi_ib, isi_bb, dec_self, szE, bnd_int, seq_tup, seq_frz, seq_tmp, add_tup, Gf.d, hi]
      | as_ x =>
        have i1 : decide (("as" : Str) ∈ (["as", "next"] : List Str)) = true := decide_eq_true (by decide +kernel)
        have hi := hin "as"
        rw [i1] at hi
        have hx := hno x (hg.1 x (.inl rfl))
        simp only [evSs, evS.eq_1, evS.eq_2, evS.eq_3, evS.eq_4, evS.eq_5, evS.eq_6, evS.eq_7, evS.eq_8, evS.eq_9, evS.eq_10, evS.eq_13, evS.eq_14, evS.eq_15, evS.eq_16, evS.eq_17, evS_for, evS_whl, evE.eq_1, evE.eq_2, evE.eq_3, evE.eq_4, evE.eq_5, evE.eq_6, evE.eq_7, evE.eq_8, evE.eq_9, evE.eq_10, evE.eq_11, evE.eq_12, evE.eq_13, evE.eq_14, evE.eq_15, evE.eq_16, evE.eq_17, evE.eq_18, evE.eq_19, evE.eq_20, evE.eq_21, evE.eq_22, evE.eq_23, evE.eq_24, evE.eq_26, evE.eq_27, evE.eq_28, evE.eq_29, evE_comp, evA, evAnd, evOr, evP, evI, tst, bindT.eq_1, bindT.eq_2, bindTs.eq_1, bindTs.eq_2, stow_val, stow_tmp, truO, bltO, bop_int, bopI, cmp_int, Nb.ix_tup, ix_frz, ix_tmp, len_tup, len_frz, len_tmp, atI_0, atI_1, atI_2, atI_3, ixN_0, ixN_1, ixN_2, Option.bind_some, Option.map_some, Option.bind_none, Option.map_none, List.getElem?_cons_zero, List.getElem?_cons_succ, List.set_cons_zero, List.set_cons_succ, List.length_cons, List.length_nil, List.length_map, if_true, if_false, decide_true, decide_false, Bool.not_true, Bool.not_false, Bool.false_eq_true, reduceIte, List.map_cons, List.map_nil, List.cons_append, List.nil_append, List.replicate, Nat.sub_self, Nat.reduceSub, Nat.reduceAdd, Int.reduceAdd, Int.reducePow, Int.reduceToNat, Int.reduceLE, Int.reduceLT, Nat.reduceLT, Nat.reduceLeDiff, Nat.reducePow, Int.reduceSub, Int.reduceMul, Int.reduceEq, Nat.reduceEqDiff, and_self, true_and, and_true, or_true, true_or, Int.reduceNeg, eq_self, cmp_str, tyO, tyD, isi_ii, isi_is, isi_bi, isi_bs, isi_ib, isi_bb, dec_self, szE, bnd_int, seq_tup, seq_frz, seq_tmp, add_tup, Gf.d, hi, hx]
      | next x =>
        have i1 : decide (("next" : Str) ∈ (["as", "next"] : List Str)) = true := decide_eq_true (by decide +kernel)
        have hi := hin "next"
        rw [i1] at hi
        have hx := hno x (hg.1 x (.inr rfl))
        simp only [evSs, evS.eq_1, evS.eq_2, evS.eq_3, evS.eq_4, evS.eq_5, evS.eq_6, evS.eq_7, evS.eq_8, evS.eq_9, evS.eq_10, evS.eq_13, evS.eq_14, evS.eq_15, evS.eq_16, evS.eq_17, evS_for, evS_whl, evE.eq_1, evE.eq_2, evE.eq_3, evE.eq_4, evE.eq_5, evE.eq_6, evE.eq_7, evE.eq_8, evE.eq_9, evE.eq_10, evE.eq_11, evE.eq_12, evE.eq_13, evE.eq_14, evE.eq_15, evE.eq_16, evE.eq_17, evE.eq_18, evE.eq_19, evE.eq_20, evE.eq_21, evE.eq_22, evE.eq_23, evE.eq_24, evE.eq_26, evE.eq_27, evE.eq_28, evE.eq_29, evE_comp, evA, evAnd, evOr, evP, evI, tst, bindT.eq_1, bindT.eq_2, bindTs.eq_1, bindTs.eq_2, stow_val, stow_tmp, truO, bltO, bop_int, bopI, cmp_int, Nb.ix_tup, ix_frz, ix_tmp, len_tup, len_frz, len_tmp, atI_0, atI_1, atI_2, atI_3, ixN_0, ixN_1, ixN_2, Option.bind_some, Option.map_some, Option.bind_none, Option.map_none, List.getElem?_cons_zero, List.getElem?_cons_succ, List.set_cons_zero, List.set_cons_succ, List.length_cons, List.length_nil, List.length_map, if_true, if_false, decide_true, decide_false, Bool.not_true, Bool.not_false, Bool.false_eq_true, reduceIte, List.map_cons, List.map_nil, List.cons_append, List.nil_append, List.replicate, Nat.sub_self, Nat.reduceSub, Nat.reduceAdd, Int.reduceAdd, Int.reducePow, Int.reduceToNat, Int.reduceLE, Int.reduceLT, Nat.reduceLT, Nat.reduceLeDiff, Nat.reducePow, Int.reduceSub, Int.reduceMul, Int.reduceEq, Nat.reduceEqDiff, and_self, true_and, and_true, or_true, true_or, Int.reduceNeg, eq_self, cmp_str, tyO, tyD, isi_ii, isi_is, isi_bi, isi_bs, isi_ib, isi_bb, dec_self, szE, bnd_int, seq_tup, seq_frz, seq_tmp, add_tup, Gf.d, hi, hx]
    have s1 : evS g1 (.ife cUs [.ret (.bl false)] []) [x0, x1, x2, x3, some (.ref h), some g.d, x6] (m ++ a) = some (.nx, [x0, x1, x2, x3, some (.ref h), some g.d, x6], m ++ a) := by
      rw [show cUs = id cUs from rfl]
      have ec : evE g1 (id cUs) _ _ = _ := ec
      simp only [evSs, evS.eq_1, evS.eq_2, evS.eq_3, evS.eq_4, evS.eq_5, evS.eq_6, evS.eq_7, evS.eq_8, evS.eq_9, evS.eq_10, evS.eq_13, evS.eq_14, evS.eq_15, evS.eq_16, evS.eq_17, evS_for, evS_whl, evE.eq_1, evE.eq_2, evE.eq_3, evE.eq_4, evE.eq_5, evE.eq_6, evE.eq_7, evE.eq_8, evE.eq_9, evE.eq_10, evE.eq_11, evE.eq_12, evE.eq_13, evE.eq_14, evE.eq_15, evE.eq_16, evE.eq_17, evE.eq_18, evE.eq_19, evE.eq_20, evE.eq_21, evE.eq_22, evE.eq_23, evE.eq_24, evE.eq_26, evE.eq_27, evE.eq_28, evE.eq_29, evE_comp, evA, evAnd, evOr, evP, evI, tst, bindT.eq_1, bindT.eq_2, bindTs.eq_1, bindTs.eq_2, stow_val, stow_tmp, truO, bltO, bop_int, bopI, cmp_int, Nb.ix_tup, ix_frz, ix_tmp, len_tup, len_frz, len_tmp, atI_0, atI_1, atI_2, atI_3, ixN_0, ixN_1, ixN_2, Option.bind_some, Option.map_some, Option.bind_none, Option.map_none, List.getElem?_cons_zero, List.getElem?_cons_succ, List.set_cons_zero, List.set_cons_succ, List.length_cons, List.length_nil, List.length_map, if_true, if_false, decide_true, decide_false, Bool.not_true, Bool.not_false, Bool.false_eq_true, reduceIte, List.map_cons, List.map_nil, List.cons_append, List.nil_append, List.replicate, Nat.sub_self, Nat.reduceSub, Nat.reduceAdd, Int.reduceAdd, Int.reducePow, Int.reduceToNat, Int.reduceLE, Int.reduceLT, Nat.reduceLT, Nat.reduceLeDiff, Nat.reducePow, Int.reduceSub, Int.reduceMul, Int.reduceEq, Nat.reduceEqDiff, and_self, true_and, and_true, or_true, true_or, Int.reduceNeg, eq_self, cmp_str, tyO, tyD, isi_ii, isi_is, isi_bi, isi_bs, isi_ib, isi_bb, dec_self, szE, bnd_int, seq_tup, seq_frz, seq_tmp, add_tup, ec]
    have s2 : evS g1 aUs [x0, x1, x2, x3, some (.ref h), some g.d, x6] (m ++ a) = some (.nx, [x0, x1, x2, x3, some (.ref ((m ++ a).length + 2)), some g.d, x6], m ++ (a ++ [.lst [g.d], .lst [.str "bind"], .lst ((H ++ gb [g]).map .str)])) := by
      have ea : evA g1 [.lst [.var 5], .lst [.str "bind"]] [x0, x1, x2, x3, some (.ref h), some g.d, x6] (m ++ a) = some ([.ref (m ++ a).length, .ref ((m ++ a).length + 1)], m ++ a ++ [.lst [g.d], .lst [.str "bind"]]) := by
        have l1 : ∀ z : MO, (m ++ a ++ [z]).length = (m ++ a).length + 1 := fun z => by rw [List.length_append, List.length_singleton]
        generalize m ++ a = M at *
        simp only [evSs, evS.eq_1, evS.eq_2, evS.eq_3, evS.eq_4, evS.eq_5, evS.eq_6, evS.eq_7, evS.eq_8, evS.eq_9, evS.eq_10, evS.eq_13, evS.eq_14, evS.eq_15, evS.eq_16, evS.eq_17, evS_for, evS_whl, evE.eq_1, evE.eq_2, evE.eq_3, evE.eq_4, evE.eq_5, evE.eq_6, evE.eq_7, evE.eq_8, evE.eq_9, evE.eq_10, evE.eq_11, evE.eq_12, evE.eq_13, evE.eq_14, evE.eq_15, evE.eq_16, evE.eq_17, evE.eq_18, evE.eq_19, evE.eq_20, evE.eq_21, evE.eq_22, evE.eq_23, evE.eq_24, evE.eq_26, evE.eq_27, evE.eq_28, evE.eq_29, evE_comp, evA, evAnd, evOr, evP, evI, tst, bindT.eq_1, bindT.eq_2, bindTs.eq_1, bindTs.eq_2, stow_val, stow_tmp, truO, bltO, bop_int, bopI, cmp_int, Nb.ix_tup, ix_frz, ix_tmp, len_tup, len_frz, len_tmp, atI_0, atI_1, atI_2, atI_3, ixN_0, ixN_1, ixN_2, Option.bind_some, Option.map_some, Option.bind_none, Option.map_none, List.getElem?_cons_zero, List.getElem?_cons_succ, List.set_cons_zero, List.set_cons_succ, List.length_cons, List.length_nil, List.length_map, if_true, if_false, decide_true, decide_false, Bool.not_true, Bool.not_false, Bool.false_eq_true, reduceIte, List.map_cons, List.map_nil, List.cons_append, List.nil_append, List.replicate, Nat.sub_self, Nat.reduceSub, Nat.reduceAdd, Int.reduceAdd, Int.reducePow, Int.reduceToNat, Int.reduceLE, Int.reduceLT, Nat.reduceLT, Nat.reduceLeDiff, Nat.reducePow, Int.reduceSub, Int.reduceMul, Int.reduceEq, Nat.reduceEqDiff, and_self, true_and, and_true, or_true, true_or, Int.reduceNeg, eq_self, cmp_str, tyO, tyD, isi_ii, isi_is, isi_bi, isi_bs, isi_ib, isi_bb, dec_self, szE, bnd_int, seq_tup, seq_frz, seq_tmp, add_tup, l1, List.append_assoc]
      have el : evE g1 (.call "_law_names_in" [.lst [.var 5], .lst [.str "bind"]]) [x0, x1, x2, x3, some (.ref h), some g.d, x6] (m ++ a) = some (.tmp ((gb [g]).map .str), m ++ a ++ [.lst [g.d], .lst [.str "bind"]]) := by
        rw [evE.eq_20, ea, Option.bind_some, p_1_Lnames_in, Option.bind_some]
        exact hn
      have l2 : (m ++ a ++ [MO.lst [g.d], .lst [.str "bind"]]).length = (m ++ a).length + 2 := by
        rw [List.length_append (as := m ++ a)]
        rfl
      unfold aUs
      rw [show (E.call "_law_names_in" [.lst [.var 5], .lst [.str "bind"]]) = id (E.call "_law_names_in" [.lst [.var 5], .lst [.str "bind"]]) from rfl]
      have el : evE g1 (id (E.call _ _)) _ _ = _ := el
      have ap : m ++ (a ++ [.lst [g.d], .lst [.str "bind"], .lst ((H ++ gb [g]).map .str)]) = m ++ a ++ [.lst [g.d], .lst [.str "bind"]] ++ [.lst ((H ++ gb [g]).map .str)] := by simp only [List.append_assoc, List.cons_append, List.nil_append]
      rw [ap]
      generalize m ++ a ++ [MO.lst [g.d], .lst [.str "bind"]] = M at *
      generalize (m ++ a).length + 2 = q at *
      generalize (H ++ gb [g]).map D.str = hd at *
      generalize (gb [g]).map D.str = gd at *
      simp only [evSs, evS.eq_1, evS.eq_2, evS.eq_3, evS.eq_4, evS.eq_5, evS.eq_6, evS.eq_7, evS.eq_8, evS.eq_9, evS.eq_10, evS.eq_13, evS.eq_14, evS.eq_15, evS.eq_16, evS.eq_17, evS_for, evS_whl, evE.eq_1, evE.eq_2, evE.eq_3, evE.eq_4, evE.eq_5, evE.eq_6, evE.eq_7, evE.eq_8, evE.eq_9, evE.eq_10, evE.eq_11, evE.eq_12, evE.eq_13, evE.eq_14, evE.eq_15, evE.eq_16, evE.eq_17, evE.eq_18, evE.eq_19, evE.eq_20, evE.eq_21, evE.eq_22, evE.eq_23, evE.eq_24, evE.eq_26, evE.eq_27, evE.eq_28, evE.eq_29, evE_comp, evA, evAnd, evOr, evP, evI, tst, bindT.eq_1, bindT.eq_2, bindTs.eq_1, bindTs.eq_2, stow_val, stow_tmp, truO, bltO, bop_int, bopI, cmp_int, Nb.ix_tup, ix_frz, ix_tmp, len_tup, len_frz, len_tmp, atI_0, atI_1, atI_2, atI_3, ixN_0, ixN_1, ixN_2, Option.bind_some, Option.map_some, Option.bind_none, Option.map_none, List.getElem?_cons_zero, List.getElem?_cons_succ, List.set_cons_zero, List.set_cons_succ, List.length_cons, List.length_nil, List.length_map, if_true, if_false, decide_true, decide_false, Bool.not_true, Bool.not_false, Bool.false_eq_true, reduceIte, List.map_cons, List.map_nil, List.cons_append, List.nil_append, List.replicate, Nat.sub_self, Nat.reduceSub, Nat.reduceAdd, Int.reduceAdd, Int.reducePow, Int.reduceToNat, Int.reduceLE, Int.reduceLT, Nat.reduceLT, Nat.reduceLeDiff, Nat.reducePow, Int.reduceSub, Int.reduceMul, Int.reduceEq, Nat.reduceEqDiff, and_self, true_and, and_true, or_true, true_or, Int.reduceNeg, eq_self, cmp_str, tyO, tyD, isi_ii, isi_is, isi_bi, isi_bs, isi_ib, isi_bb, dec_self, szE, bnd_int, seq_tup, seq_frz, seq_tmp, add_tup, el, ha, l2]
    unfold forB bUs
    show (some [x0, x1, x2, x3, some (.ref h), some g.d, x6]).bind _ = _
    rw [Option.bind_some, evSs.eq_2, s1, Option.bind_some, evSs.eq_2, s2, Option.bind_some]
    rfl
end LawP

namespace LawP
open PySem PySem.Spec L2 Nb Hd
theorem aw_go {a : Act} : decide (a.w = "go") = (match a with
  | .go _ => true
  | _ => false) := by
  cases a with
  | lay t g => exact (by decide +kernel : decide (("lay" : Str) = "go") = false)
  | same s t b => exact (by decide +kernel : decide (("same" : Str) = "go") = false)
  | go b => exact (by decide +kernel : decide (("go" : Str) = "go") = true)
  | look p b => exact (by decide +kernel : decide (("look" : Str) = "go") = false)
  | take p => exact (by decide +kernel : decide (("take" : Str) = "go") = false)
  | read p => exact (by decide +kernel : decide (("read" : Str) = "go") = false)
theorem aw_same {a : Act} : decide (a.w = "same") = (match a with
  | .same _ _ _ => true
  | _ => false) := by
  cases a with
  | lay t g => exact (by decide +kernel : decide (("lay" : Str) = "same") = false)
  | same s t b => exact (by decide +kernel : decide (("same" : Str) = "same") = true)
  | go b => exact (by decide +kernel : decide (("go" : Str) = "same") = false)
  | look p b => exact (by decide +kernel : decide (("look" : Str) = "same") = false)
  | take p => exact (by decide +kernel : decide (("take" : Str) = "same") = false)
  | read p => exact (by decide +kernel : decide (("read" : Str) = "same") = false)
theorem aw_ltr {m : Mm} {a : Act} : cmpO m .isin (.val (.str a.w)) (.val (.tup [.str "lay", .str "take", .str "read"])) = some (toA a).isNone := by
  show inO m (.val (.str a.w)) (.val (.tup ((["lay", "take", "read"] : List Str).map D.str))) = _
  rw [in_tupT]
  cases a <;> (simp only [Act.w, toA, Option.isNone_none, Option.isNone_some]; first | exact congrArg some (decide_eq_true (by decide +kernel)) | exact congrArg some (decide_eq_false (by decide +kernel)))
theorem to_ix {m : Mm} {a : Act} {b : Int} (h : toA a = some b) : ixO m (.val a.d) (.val (.int (-1))) = some (.int b) := by
  cases a <;> cases h <;> rfl
theorem to_open {a : Act} {K : List Str} {O : List Int} {b : Int} (h : Act.ok K O a) (e : toA a = some b) : b ∈ O := by
  cases a <;> cases e
  · exact h.2.2
  · exact h
  · exact h.2
theorem open_at {WS : List (List Str)} {K : List Str} {b : Int} (h : b ∈ opens WS K) : ∃ k w, b = ((k : Nat) : Int) ∧ WS[k]? = some w ∧ ∀ x ∈ w, x ∈ K := by
  unfold opens at h
  obtain ⟨k, hk, rfl⟩ := List.mem_map.mp h
  obtain ⟨h1, h2⟩ := List.mem_filter.mp hk
  have hlt := List.mem_range.mp h1
  refine ⟨k, WS[k], rfl, List.getElem?_eq_getElem hlt, fun x hx => ?_⟩
  unfold openB at h2
  have e : WS.getD k [] = WS[k] := by
    rw [List.getD_eq_getElem?_getD, List.getElem?_eq_getElem hlt]
    rfl
  rw [e] at h2
  exact of_decide_eq_true (List.all_eq_true.mp h2 x hx)
def eFld : S := .asg (.n 3) (.ite (.cmp .eq (.ix (.var 1) (.int 0)) (.str "go")) (.tup []) (.ix (.var 1) (.int 1)))
def eSame : S := .ife (.cmp .eq (.ix (.var 1) (.int 0)) (.str "same")) [.asg (.n 3) (.slc (.var 1) (some (.int 1)) (some (.int 3)))] []
theorem flds {m : Mm} {a : Act} {x0 x2 x4 x5 x6 : Option D} : ∃ y, evS g1 eFld [x0, some a.d, x2, none, x4, x5, x6] m = some (.nx, [x0, some a.d, x2, some y, x4, x5, x6], m) ∧ evS g1 eSame [x0, some a.d, x2, some y, x4, x5, x6] m = some (.nx, [x0, some a.d, x2, some (.tup ((gsA a).map Gf.d)), x4, x5, x6], m) := by
  have h0 := act0 (m := m) (a := a)
  have hg := aw_go (a := a)
  have hs := aw_same (a := a)
  unfold eFld eSame
  cases a with
  | go b =>
    refine ⟨.tup [], ?_, ?_⟩
    · generalize (Act.go b).d = ad at *
      simp only [evSs, evS.eq_1, evS.eq_2, evS.eq_3, evS.eq_4, evS.eq_5, evS.eq_6, evS.eq_7, evS.eq_8, evS.eq_9, evS.eq_10, evS.eq_13, evS.eq_14, evS.eq_15, evS.eq_16, evS.eq_17, evS_for, evS_whl, evE.eq_1, evE.eq_2, evE.eq_3, evE.eq_4, evE.eq_5, evE.eq_6, evE.eq_7, evE.eq_8, evE.eq_9, evE.eq_10, evE.eq_11, evE.eq_12, evE.eq_13, evE.eq_14, evE.eq_15, evE.eq_16, evE.eq_17, evE.eq_18, evE.eq_19, evE.eq_20, evE.eq_21, evE.eq_22, evE.eq_23, evE.eq_24, evE.eq_26, evE.eq_27, evE.eq_28, evE.eq_29, evE_comp, evA, evAnd, evOr, evP, evI, tst, bindT.eq_1, bindT.eq_2, bindTs.eq_1, bindTs.eq_2, stow_val, stow_tmp, truO, bltO, bop_int, bopI, cmp_int, Nb.ix_tup, ix_frz, ix_tmp, len_tup, len_frz, len_tmp, atI_0, atI_1, atI_2, atI_3, ixN_0, ixN_1, ixN_2, Option.bind_some, Option.map_some, Option.bind_none, Option.map_none, List.getElem?_cons_zero, List.getElem?_cons_succ, List.set_cons_zero, List.set_cons_succ, List.length_cons, List.length_nil, List.length_map, if_true, if_false, decide_true, decide_false, Bool.not_true, Bool.not_false, Bool.false_eq_true, reduceIte, List.map_cons, List.map_nil, List.cons_append, List.nil_append, List.replicate, Nat.sub_self, Nat.reduceSub, Nat.reduceAdd, Int.reduceAdd, Int.reducePow, Int.reduceToNat, Int.reduceLE, Int.reduceLT, Nat.reduceLT, Nat.reduceLeDiff, Nat.reducePow, Int.reduceSub, Int.reduceMul, Int.reduceEq, Nat.reduceEqDiff, and_self, true_and, and_true, or_true, true_or, Int.reduceNeg, eq_self, cmp_str, tyO, tyD, isi_ii, isi_is, isi_bi, isi_bs, isi_ib, isi_bb, dec_self, szE, bnd_int, seq_tup, seq_frz, seq_tmp, add_tup, h0, hg]
    · generalize (Act.go b).d = ad at *
      simp only [evSs, evS.eq_1, evS.eq_2, evS.eq_3, evS.eq_4, evS.eq_5, evS.eq_6, evS.eq_7, evS.eq_8, evS.eq_9, evS.eq_10, evS.eq_13, evS.eq_14, evS.eq_15, evS.eq_16, evS.eq_17, evS_for, evS_whl, evE.eq_1, evE.eq_2, evE.eq_3, evE.eq_4, evE.eq_5, evE.eq_6, evE.eq_7, evE.eq_8, evE.eq_9, evE.eq_10, evE.eq_11, evE.eq_12, evE.eq_13, evE.eq_14, evE.eq_15, evE.eq_16, evE.eq_17, evE.eq_18, evE.eq_19, evE.eq_20, evE.eq_21, evE.eq_22, evE.eq_23, evE.eq_24, evE.eq_26, evE.eq_27, evE.eq_28, evE.eq_29, evE_comp, evA, evAnd, evOr, evP, evI, tst, bindT.eq_1, bindT.eq_2, bindTs.eq_1, bindTs.eq_2, stow_val, stow_tmp, truO, bltO, bop_int, bopI, cmp_int, Nb.ix_tup, ix_frz, ix_tmp, len_tup, len_frz, len_tmp, atI_0, atI_1, atI_2, atI_3, ixN_0, ixN_1, ixN_2, Option.bind_some, Option.map_some, Option.bind_none, Option.map_none, List.getElem?_cons_zero, List.getElem?_cons_succ, List.set_cons_zero, List.set_cons_succ, List.length_cons, List.length_nil, List.length_map, if_true, if_false, decide_true, decide_false, Bool.not_true, Bool.not_false, Bool.false_eq_true, reduceIte, List.map_cons, List.map_nil, List.cons_append, List.nil_append, List.replicate, Nat.sub_self, Nat.reduceSub, Nat.reduceAdd, Int.reduceAdd, Int.reducePow, Int.reduceToNat, Int.reduceLE, Int.reduceLT, Nat.reduceLT, Nat.reduceLeDiff, Nat.reducePow, Int.reduceSub, Int.reduceMul, Int.reduceEq, Nat.reduceEqDiff, and_self, true_and, and_true, or_true, true_or, Int.reduceNeg, eq_self, cmp_str, tyO, tyD, isi_ii, isi_is, isi_bi, isi_bs, isi_ib, isi_bb, dec_self, szE, bnd_int, seq_tup, seq_frz, seq_tmp, add_tup, h0, hs, gsA]
  | same s t b =>
    have hx : ixO m (.val (Act.same s t b).d) (.val (.int 1)) = some s.d := rfl
    have hc : slcO m (.val (Act.same s t b).d) (some 1) (some 3) = some (.val (.tup [s.d, t.d])) := rfl
    refine ⟨s.d, ?_, ?_⟩
    · generalize (Act.same s t b).d = ad at *
      simp only [evSs, evS.eq_1, evS.eq_2, evS.eq_3, evS.eq_4, evS.eq_5, evS.eq_6, evS.eq_7, evS.eq_8, evS.eq_9, evS.eq_10, evS.eq_13, evS.eq_14, evS.eq_15, evS.eq_16, evS.eq_17, evS_for, evS_whl, evE.eq_1, evE.eq_2, evE.eq_3, evE.eq_4, evE.eq_5, evE.eq_6, evE.eq_7, evE.eq_8, evE.eq_9, evE.eq_10, evE.eq_11, evE.eq_12, evE.eq_13, evE.eq_14, evE.eq_15, evE.eq_16, evE.eq_17, evE.eq_18, evE.eq_19, evE.eq_20, evE.eq_21, evE.eq_22, evE.eq_23, evE.eq_24, evE.eq_26, evE.eq_27, evE.eq_28, evE.eq_29, evE_comp, evA, evAnd, evOr, evP, evI, tst, bindT.eq_1, bindT.eq_2, bindTs.eq_1, bindTs.eq_2, stow_val, stow_tmp, truO, bltO, bop_int, bopI, cmp_int, Nb.ix_tup, ix_frz, ix_tmp, len_tup, len_frz, len_tmp, atI_0, atI_1, atI_2, atI_3, ixN_0, ixN_1, ixN_2, Option.bind_some, Option.map_some, Option.bind_none, Option.map_none, List.getElem?_cons_zero, List.getElem?_cons_succ, List.set_cons_zero, List.set_cons_succ, List.length_cons, List.length_nil, List.length_map, if_true, if_false, decide_true, decide_false, Bool.not_true, Bool.not_false, Bool.false_eq_true, reduceIte, List.map_cons, List.map_nil, List.cons_append, List.nil_append, List.replicate, Nat.sub_self, Nat.reduceSub, Nat.reduceAdd, Int.reduceAdd, Int.reducePow, Int.reduceToNat, Int.reduceLE, Int.reduceLT, Nat.reduceLT, Nat.reduceLeDiff, Nat.reducePow, Int.reduceSub, Int.reduceMul, Int.reduceEq, Nat.reduceEqDiff, and_self, true_and, and_true, or_true, true_or, Int.reduceNeg, eq_self, cmp_str, tyO, tyD, isi_ii, isi_is, isi_bi, isi_bs, isi_ib, isi_bb, dec_self, szE, bnd_int, seq_tup, seq_frz, seq_tmp, add_tup, h0, hg, hx]
    · generalize (Act.same s t b).d = ad at *
      simp only [evSs, evS.eq_1, evS.eq_2, evS.eq_3, evS.eq_4, evS.eq_5, evS.eq_6, evS.eq_7, evS.eq_8, evS.eq_9, evS.eq_10, evS.eq_13, evS.eq_14, evS.eq_15, evS.eq_16, evS.eq_17, evS_for, evS_whl, evE.eq_1, evE.eq_2, evE.eq_3, evE.eq_4, evE.eq_5, evE.eq_6, evE.eq_7, evE.eq_8, evE.eq_9, evE.eq_10, evE.eq_11, evE.eq_12, evE.eq_13, evE.eq_14, evE.eq_15, evE.eq_16, evE.eq_17, evE.eq_18, evE.eq_19, evE.eq_20, evE.eq_21, evE.eq_22, evE.eq_23, evE.eq_24, evE.eq_26, evE.eq_27, evE.eq_28, evE.eq_29, evE_comp, evA, evAnd, evOr, evP, evI, tst, bindT.eq_1, bindT.eq_2, bindTs.eq_1, bindTs.eq_2, stow_val, stow_tmp, truO, bltO, bop_int, bopI, cmp_int, Nb.ix_tup, ix_frz, ix_tmp, len_tup, len_frz, len_tmp, atI_0, atI_1, atI_2, atI_3, ixN_0, ixN_1, ixN_2, Option.bind_some, Option.map_some, Option.bind_none, Option.map_none, List.getElem?_cons_zero, List.getElem?_cons_succ, List.set_cons_zero, List.set_cons_succ, List.length_cons, List.length_nil, List.length_map, if_true, if_false, decide_true, decide_false, Bool.not_true, Bool.not_false, Bool.false_eq_true, reduceIte, List.map_cons, List.map_nil, List.cons_append, List.nil_append, List.replicate, Nat.sub_self, Nat.reduceSub, Nat.reduceAdd, Int.reduceAdd, Int.reducePow, Int.reduceToNat, Int.reduceLE, Int.reduceLT, Nat.reduceLT, Nat.reduceLeDiff, Nat.reducePow, Int.reduceSub, Int.reduceMul, Int.reduceEq, Nat.reduceEqDiff, and_self, true_and, and_true, or_true, true_or, Int.reduceNeg, eq_self, cmp_str, tyO, tyD, isi_ii, isi_is, isi_bi, isi_bs, isi_ib, isi_bb, dec_self, szE, bnd_int, seq_tup, seq_frz, seq_tmp, add_tup, h0, hs, hc, gsA, tg_d]
  | lay t g =>
    have hx : ixO m (.val (Act.lay t g).d) (.val (.int 1)) = some (.tup ((gsA (.lay t g)).map Gf.d)) := by
      show some (D.tup (t.map Tf.d)) = some (.tup ((t.map Tf.g).map Gf.d))
      rw [tgs_d]
    refine ⟨.tup ((gsA (.lay t g)).map Gf.d), ?_, ?_⟩
    · generalize (gsA (.lay t g)).map Gf.d = gl at *
      generalize (Act.lay t g).d = ad at *
      simp only [evSs, evS.eq_1, evS.eq_2, evS.eq_3, evS.eq_4, evS.eq_5, evS.eq_6, evS.eq_7, evS.eq_8, evS.eq_9, evS.eq_10, evS.eq_13, evS.eq_14, evS.eq_15, evS.eq_16, evS.eq_17, evS_for, evS_whl, evE.eq_1, evE.eq_2, evE.eq_3, evE.eq_4, evE.eq_5, evE.eq_6, evE.eq_7, evE.eq_8, evE.eq_9, evE.eq_10, evE.eq_11, evE.eq_12, evE.eq_13, evE.eq_14, evE.eq_15, evE.eq_16, evE.eq_17, evE.eq_18, evE.eq_19, evE.eq_20, evE.eq_21, evE.eq_22, evE.eq_23, evE.eq_24, evE.eq_26, evE.eq_27, evE.eq_28, evE.eq_29, evE_comp, evA, evAnd, evOr, evP, evI, tst, bindT.eq_1, bindT.eq_2, bindTs.eq_1, bindTs.eq_2, stow_val, stow_tmp, truO, bltO, bop_int, bopI, cmp_int, Nb.ix_tup, ix_frz, ix_tmp, len_tup, len_frz, len_tmp, atI_0, atI_1, atI_2, atI_3, ixN_0, ixN_1, ixN_2, Option.bind_some, Option.map_some, Option.bind_none, Option.map_none, List.getElem?_cons_zero, List.getElem?_cons_succ, List.set_cons_zero, List.set_cons_succ, List.length_cons, List.length_nil, List.length_map, if_true, if_false, decide_true, decide_false, Bool.not_true, Bool.not_false, Bool.false_eq_true, reduceIte, List.map_cons, List.map_nil, List.cons_append, List.nil_append, List.replicate, Nat.sub_self, Nat.reduceSub, Nat.reduceAdd, Int.reduceAdd, Int.reducePow, Int.reduceToNat, Int.reduceLE, Int.reduceLT, Nat.reduceLT, Nat.reduceLeDiff, Nat.reducePow, Int.reduceSub, Int.reduceMul, Int.reduceEq, Nat.reduceEqDiff, and_self, true_and, and_true, or_true, true_or, Int.reduceNeg, eq_self, cmp_str, tyO, tyD, isi_ii, isi_is, isi_bi, isi_bs, isi_ib, isi_bb, dec_self, szE, bnd_int, seq_tup, seq_frz, seq_tmp, add_tup, h0, hg, hx]
    · generalize (gsA (.lay t g)).map Gf.d = gl at *
      generalize (Act.lay t g).d = ad at *
      simp only [evSs, evS.eq_1, evS.eq_2, evS.eq_3, evS.eq_4, evS.eq_5, evS.eq_6, evS.eq_7, evS.eq_8, evS.eq_9, evS.eq_10, evS.eq_13, evS.eq_14, evS.eq_15, evS.eq_16, evS.eq_17, evS_for, evS_whl, evE.eq_1, evE.eq_2, evE.eq_3, evE.eq_4, evE.eq_5, evE.eq_6, evE.eq_7, evE.eq_8, evE.eq_9, evE.eq_10, evE.eq_11, evE.eq_12, evE.eq_13, evE.eq_14, evE.eq_15, evE.eq_16, evE.eq_17, evE.eq_18, evE.eq_19, evE.eq_20, evE.eq_21, evE.eq_22, evE.eq_23, evE.eq_24, evE.eq_26, evE.eq_27, evE.eq_28, evE.eq_29, evE_comp, evA, evAnd, evOr, evP, evI, tst, bindT.eq_1, bindT.eq_2, bindTs.eq_1, bindTs.eq_2, stow_val, stow_tmp, truO, bltO, bop_int, bopI, cmp_int, Nb.ix_tup, ix_frz, ix_tmp, len_tup, len_frz, len_tmp, atI_0, atI_1, atI_2, atI_3, ixN_0, ixN_1, ixN_2, Option.bind_some, Option.map_some, Option.bind_none, Option.map_none, List.getElem?_cons_zero, List.getElem?_cons_succ, List.set_cons_zero, List.set_cons_succ, List.length_cons, List.length_nil, List.length_map, if_true, if_false, decide_true, decide_false, Bool.not_true, Bool.not_false, Bool.false_eq_true, reduceIte, List.map_cons, List.map_nil, List.cons_append, List.nil_append, List.replicate, Nat.sub_self, Nat.reduceSub, Nat.reduceAdd, Int.reduceAdd, Int.reducePow, Int.reduceToNat, Int.reduceLE, Int.reduceLT, Nat.reduceLT, Nat.reduceLeDiff, Nat.reducePow, Int.reduceSub, Int.reduceMul, Int.reduceEq, Nat.reduceEqDiff, and_self, true_and, and_true, or_true, true_or, Int.reduceNeg, eq_self, cmp_str, tyO, tyD, isi_ii, isi_is, isi_bi, isi_bs, isi_ib, isi_bb, dec_self, szE, bnd_int, seq_tup, seq_frz, seq_tmp, add_tup, h0, hs]
  | look p b =>
    have hx : ixO m (.val (Act.look p b).d) (.val (.int 1)) = some (.tup ((gsA (.look p b)).map Gf.d)) := by
      show some (D.tup (p.map Fd.d)) = some (.tup ((p.map Fd.g).map Gf.d))
      rw [fgs_d]
    refine ⟨.tup ((gsA (.look p b)).map Gf.d), ?_, ?_⟩
    · generalize (gsA (.look p b)).map Gf.d = gl at *
      generalize (Act.look p b).d = ad at *
      simp only [evSs, evS.eq_1, evS.eq_2, evS.eq_3, evS.eq_4, evS.eq_5, evS.eq_6, evS.eq_7, evS.eq_8, evS.eq_9, evS.eq_10, evS.eq_13, evS.eq_14, evS.eq_15, evS.eq_16, evS.eq_17, evS_for, evS_whl, evE.eq_1, evE.eq_2, evE.eq_3, evE.eq_4, evE.eq_5, evE.eq_6, evE.eq_7, evE.eq_8, evE.eq_9, evE.eq_10, evE.eq_11, evE.eq_12, evE.eq_13, evE.eq_14, evE.eq_15, evE.eq_16, evE.eq_17, evE.eq_18, evE.eq_19, evE.eq_20, evE.eq_21, evE.eq_22, evE.eq_23, evE.eq_24, evE.eq_26, evE.eq_27, evE.eq_28, evE.eq_29, evE_comp, evA, evAnd, evOr, evP, evI, tst, bindT.eq_1, bindT.eq_2, bindTs.eq_1, bindTs.eq_2, stow_val, stow_tmp, truO, bltO, bop_int, bopI, cmp_int, Nb.ix_tup, ix_frz, ix_tmp, len_tup, len_frz, len_tmp, atI_0, atI_1, atI_2, atI_3, ixN_0, ixN_1, ixN_2, Option.bind_some, Option.map_some, Option.bind_none, Option.map_none, List.getElem?_cons_zero, List.getElem?_cons_succ, List.set_cons_zero, List.set_cons_succ, List.length_cons, List.length_nil, List.length_map, if_true, if_false, decide_true, decide_false, Bool.not_true, Bool.not_false, Bool.false_eq_true, reduceIte, List.map_cons, List.map_nil, List.cons_append, List.nil_append, List.replicate, Nat.sub_self, Nat.reduceSub, Nat.reduceAdd, Int.reduceAdd, Int.reducePow, Int.reduceToNat, Int.reduceLE, Int.reduceLT, Nat.reduceLT, Nat.reduceLeDiff, Nat.reducePow, Int.reduceSub, Int.reduceMul, Int.reduceEq, Nat.reduceEqDiff, and_self, true_and, and_true, or_true, true_or, Int.reduceNeg, eq_self, cmp_str, tyO, tyD, isi_ii, isi_is, isi_bi, isi_bs, isi_ib, isi_bb, dec_self, szE, bnd_int, seq_tup, seq_frz, seq_tmp, add_tup, h0, hg, hx]
    · generalize (gsA (.look p b)).map Gf.d = gl at *
      generalize (Act.look p b).d = ad at *
      simp only [evSs, evS.eq_1, evS.eq_2, evS.eq_3, evS.eq_4, evS.eq_5, evS.eq_6, evS.eq_7, evS.eq_8, evS.eq_9, evS.eq_10, evS.eq_13, evS.eq_14, evS.eq_15, evS.eq_16, evS.eq_17, evS_for, evS_whl, evE.eq_1, evE.eq_2, evE.eq_3, evE.eq_4, evE.eq_5, evE.eq_6, evE.eq_7, evE.eq_8, evE.eq_9, evE.eq_10, evE.eq_11, evE.eq_12, evE.eq_13, evE.eq_14, evE.eq_15, evE.eq_16, evE.eq_17, evE.eq_18, evE.eq_19, evE.eq_20, evE.eq_21, evE.eq_22, evE.eq_23, evE.eq_24, evE.eq_26, evE.eq_27, evE.eq_28, evE.eq_29, evE_comp, evA, evAnd, evOr, evP, evI, tst, bindT.eq_1, bindT.eq_2, bindTs.eq_1, bindTs.eq_2, stow_val, stow_tmp, truO, bltO, bop_int, bopI, cmp_int, Nb.ix_tup, ix_frz, ix_tmp, len_tup, len_frz, len_tmp, atI_0, atI_1, atI_2, atI_3, ixN_0, ixN_1, ixN_2, Option.bind_some, Option.map_some, Option.bind_none, Option.map_none, List.getElem?_cons_zero, List.getElem?_cons_succ, List.set_cons_zero, List.set_cons_succ, List.length_cons, List.length_nil, List.length_map, if_true, if_false, decide_true, decide_false, Bool.not_true, Bool.not_false, Bool.false_eq_true, reduceIte, List.map_cons, List.map_nil, List.cons_append, List.nil_append, List.replicate, Nat.sub_self, Nat.reduceSub, Nat.reduceAdd, Int.reduceAdd, Int.reducePow, Int.reduceToNat, Int.reduceLE, Int.reduceLT, Nat.reduceLT, Nat.reduceLeDiff, Nat.reducePow, Int.reduceSub, Int.reduceMul, Int.reduceEq, Nat.reduceEqDiff, and_self, true_and, and_true, or_true, true_or, Int.reduceNeg, eq_self, cmp_str, tyO, tyD, isi_ii, isi_is, isi_bi, isi_bs, isi_ib, isi_bb, dec_self, szE, bnd_int, seq_tup, seq_frz, seq_tmp, add_tup, h0, hs]
  | take p =>
    have hx : ixO m (.val (Act.take p).d) (.val (.int 1)) = some (.tup ((gsA (.take p)).map Gf.d)) := by
      show some (D.tup (p.map Fd.d)) = some (.tup ((p.map Fd.g).map Gf.d))
      rw [fgs_d]
    refine ⟨.tup ((gsA (.take p)).map Gf.d), ?_, ?_⟩
    · generalize (gsA (.take p)).map Gf.d = gl at *
      generalize (Act.take p).d = ad at *
      simp only [evSs, evS.eq_1, evS.eq_2, evS.eq_3, evS.eq_4, evS.eq_5, evS.eq_6, evS.eq_7, evS.eq_8, evS.eq_9, evS.eq_10, evS.eq_13, evS.eq_14, evS.eq_15, evS.eq_16, evS.eq_17, evS_for, evS_whl, evE.eq_1, evE.eq_2, evE.eq_3, evE.eq_4, evE.eq_5, evE.eq_6, evE.eq_7, evE.eq_8, evE.eq_9, evE.eq_10, evE.eq_11, evE.eq_12, evE.eq_13, evE.eq_14, evE.eq_15, evE.eq_16, evE.eq_17, evE.eq_18, evE.eq_19, evE.eq_20, evE.eq_21, evE.eq_22, evE.eq_23, evE.eq_24, evE.eq_26, evE.eq_27, evE.eq_28, evE.eq_29, evE_comp, evA, evAnd, evOr, evP, evI, tst, bindT.eq_1, bindT.eq_2, bindTs.eq_1, bindTs.eq_2, stow_val, stow_tmp, truO, bltO, bop_int, bopI, cmp_int, Nb.ix_tup, ix_frz, ix_tmp, len_tup, len_frz, len_tmp, atI_0, atI_1, atI_2, atI_3, ixN_0, ixN_1, ixN_2, Option.bind_some, Option.map_some, Option.bind_none, Option.map_none, List.getElem?_cons_zero, List.getElem?_cons_succ, List.set_cons_zero, List.set_cons_succ, List.length_cons, List.length_nil, List.length_map, if_true, if_false, decide_true, decide_false, Bool.not_true, Bool.not_false, Bool.false_eq_true, reduceIte, List.map_cons, List.map_nil, List.cons_append, List.nil_append, List.replicate, Nat.sub_self, Nat.reduceSub, Nat.reduceAdd, Int.reduceAdd, Int.reducePow, Int.reduceToNat, Int.reduceLE, Int.reduceLT, Nat.reduceLT, Nat.reduceLeDiff, Nat.reducePow, Int.reduceSub, Int.reduceMul, Int.reduceEq, Nat.reduceEqDiff, and_self, true_and, and_true, or_true, true_or, Int.reduceNeg, eq_self, cmp_str, tyO, tyD, isi_ii, isi_is, isi_bi, isi_bs, isi_ib, isi_bb, dec_self, szE, bnd_int, seq_tup, seq_frz, seq_tmp, add_tup, h0, hg, hx]
    · generalize (gsA (.take p)).map Gf.d = gl at *
      generalize (Act.take p).d = ad at *
      simp only [evSs, evS.eq_1, evS.eq_2, evS.eq_3, evS.eq_4, evS.eq_5, evS.eq_6, evS.eq_7, evS.eq_8, evS.eq_9, evS.eq_10, evS.eq_13, evS.eq_14, evS.eq_15, evS.eq_16, evS.eq_17, evS_for, evS_whl, evE.eq_1, evE.eq_2, evE.eq_3, evE.eq_4, evE.eq_5, evE.eq_6, evE.eq_7, evE.eq_8, evE.eq_9, evE.eq_10, evE.eq_11, evE.eq_12, evE.eq_13, evE.eq_14, evE.eq_15, evE.eq_16, evE.eq_17, evE.eq_18, evE.eq_19, evE.eq_20, evE.eq_21, evE.eq_22, evE.eq_23, evE.eq_24, evE.eq_26, evE.eq_27, evE.eq_28, evE.eq_29, evE_comp, evA, evAnd, evOr, evP, evI, tst, bindT.eq_1, bindT.eq_2, bindTs.eq_1, bindTs.eq_2, stow_val, stow_tmp, truO, bltO, bop_int, bopI, cmp_int, Nb.ix_tup, ix_frz, ix_tmp, len_tup, len_frz, len_tmp, atI_0, atI_1, atI_2, atI_3, ixN_0, ixN_1, ixN_2, Option.bind_some, Option.map_some, Option.bind_none, Option.map_none, List.getElem?_cons_zero, List.getElem?_cons_succ, List.set_cons_zero, List.set_cons_succ, List.length_cons, List.length_nil, List.length_map, if_true, if_false, decide_true, decide_false, Bool.not_true, Bool.not_false, Bool.false_eq_true, reduceIte, List.map_cons, List.map_nil, List.cons_append, List.nil_append, List.replicate, Nat.sub_self, Nat.reduceSub, Nat.reduceAdd, Int.reduceAdd, Int.reducePow, Int.reduceToNat, Int.reduceLE, Int.reduceLT, Nat.reduceLT, Nat.reduceLeDiff, Nat.reducePow, Int.reduceSub, Int.reduceMul, Int.reduceEq, Nat.reduceEqDiff, and_self, true_and, and_true, or_true, true_or, Int.reduceNeg, eq_self, cmp_str, tyO, tyD, isi_ii, isi_is, isi_bi, isi_bs, isi_ib, isi_bb, dec_self, szE, bnd_int, seq_tup, seq_frz, seq_tmp, add_tup, h0, hs]
  | read p =>
    have hx : ixO m (.val (Act.read p).d) (.val (.int 1)) = some (.tup ((gsA (.read p)).map Gf.d)) := by
      show some (D.tup (p.map Fd.d)) = some (.tup ((p.map Fd.g).map Gf.d))
      rw [fgs_d]
    refine ⟨.tup ((gsA (.read p)).map Gf.d), ?_, ?_⟩
    · generalize (gsA (.read p)).map Gf.d = gl at *
      generalize (Act.read p).d = ad at *
      simp only [evSs, evS.eq_1, evS.eq_2, evS.eq_3, evS.eq_4, evS.eq_5, evS.eq_6, evS.eq_7, evS.eq_8, evS.eq_9, evS.eq_10, evS.eq_13, evS.eq_14, evS.eq_15, evS.eq_16, evS.eq_17, evS_for, evS_whl, evE.eq_1, evE.eq_2, evE.eq_3, evE.eq_4, evE.eq_5, evE.eq_6, evE.eq_7, evE.eq_8, evE.eq_9, evE.eq_10, evE.eq_11, evE.eq_12, evE.eq_13, evE.eq_14, evE.eq_15, evE.eq_16, evE.eq_17, evE.eq_18, evE.eq_19, evE.eq_20, evE.eq_21, evE.eq_22, evE.eq_23, evE.eq_24, evE.eq_26, evE.eq_27, evE.eq_28, evE.eq_29, evE_comp, evA, evAnd, evOr, evP, evI, tst, bindT.eq_1, bindT.eq_2, bindTs.eq_1, bindTs.eq_2, stow_val, stow_tmp, truO, bltO, bop_int, bopI, cmp_int, Nb.ix_tup, ix_frz, ix_tmp, len_tup, len_frz, len_tmp, atI_0, atI_1, atI_2, atI_3, ixN_0, ixN_1, ixN_2, Option.bind_some, Option.map_some, Option.bind_none, Option.map_none, List.getElem?_cons_zero, List.getElem?_cons_succ, List.set_cons_zero, List.set_cons_succ, List.length_cons, List.length_nil, List.length_map, if_true, if_false, decide_true, decide_false, Bool.not_true, Bool.not_false, Bool.false_eq_true, reduceIte, List.map_cons, List.map_nil, List.cons_append, List.nil_append, List.replicate, Nat.sub_self, Nat.reduceSub, Nat.reduceAdd, Int.reduceAdd, Int.reducePow, Int.reduceToNat, Int.reduceLE, Int.reduceLT, Nat.reduceLT, Nat.reduceLeDiff, Nat.reducePow, Int.reduceSub, Int.reduceMul, Int.reduceEq, Nat.reduceEqDiff, and_self, true_and, and_true, or_true, true_or, Int.reduceNeg, eq_self, cmp_str, tyO, tyD, isi_ii, isi_is, isi_bi, isi_bs, isi_ib, isi_bb, dec_self, szE, bnd_int, seq_tup, seq_frz, seq_tmp, add_tup, h0, hg, hx]
    · generalize (gsA (.read p)).map Gf.d = gl at *
      generalize (Act.read p).d = ad at *
      simp only [evSs, evS.eq_1, evS.eq_2, evS.eq_3, evS.eq_4, evS.eq_5, evS.eq_6, evS.eq_7, evS.eq_8, evS.eq_9, evS.eq_10, evS.eq_13, evS.eq_14, evS.eq_15, evS.eq_16, evS.eq_17, evS_for, evS_whl, evE.eq_1, evE.eq_2, evE.eq_3, evE.eq_4, evE.eq_5, evE.eq_6, evE.eq_7, evE.eq_8, evE.eq_9, evE.eq_10, evE.eq_11, evE.eq_12, evE.eq_13, evE.eq_14, evE.eq_15, evE.eq_16, evE.eq_17, evE.eq_18, evE.eq_19, evE.eq_20, evE.eq_21, evE.eq_22, evE.eq_23, evE.eq_24, evE.eq_26, evE.eq_27, evE.eq_28, evE.eq_29, evE_comp, evA, evAnd, evOr, evP, evI, tst, bindT.eq_1, bindT.eq_2, bindTs.eq_1, bindTs.eq_2, stow_val, stow_tmp, truO, bltO, bop_int, bopI, cmp_int, Nb.ix_tup, ix_frz, ix_tmp, len_tup, len_frz, len_tmp, atI_0, atI_1, atI_2, atI_3, ixN_0, ixN_1, ixN_2, Option.bind_some, Option.map_some, Option.bind_none, Option.map_none, List.getElem?_cons_zero, List.getElem?_cons_succ, List.set_cons_zero, List.set_cons_succ, List.length_cons, List.length_nil, List.length_map, if_true, if_false, decide_true, decide_false, Bool.not_true, Bool.not_false, Bool.false_eq_true, reduceIte, List.map_cons, List.map_nil, List.cons_append, List.nil_append, List.replicate, Nat.sub_self, Nat.reduceSub, Nat.reduceAdd, Int.reduceAdd, Int.reducePow, Int.reduceToNat, Int.reduceLE, Int.reduceLT, Nat.reduceLT, Nat.reduceLeDiff, Nat.reducePow, Int.reduceSub, Int.reduceMul, Int.reduceEq, Nat.reduceEqDiff, and_self, true_and, and_true, or_true, true_or, Int.reduceNeg, eq_self, cmp_str, tyO, tyD, isi_ii, isi_is, isi_bi, isi_bs, isi_ib, isi_bb, dec_self, szE, bnd_int, seq_tup, seq_frz, seq_tmp, add_tup, h0, hs]
/-- none of them is left out -/
theorem noneOut {g : Gv} {i c : Nat} {e : E} {fr : Fr} {m : Mm} {H w : List Str} {o : Option Nat} (he : evI g (.e e) fr m = some ((w.map D.str, o), m)) (hg : gdW (w.map D.str, o) m = true) (hw : ∀ x ∈ w, x ∈ H) (hl : w.length < 1000) (hic : i ≠ c) (hi : i < fr.length) (hc : fr[c]? = some (some (.tup (H.map .str)))) :
    evE g (.comp (.var i) (.n i) (.e e) [.cmp .notin (.var i) (.var c)] [i]) fr m = some (.tmp [], m) := by
  have L : loopC (cpB g (.n i) [i] [.cmp .notin (.var i) (.var c)] (.var i) fr) (gdW (w.map D.str, o)) (w.map D.str) [] m = some ([] ++ w.filterMap (fun _ => (none : Option D)), m) := by
    refine loopC_filK hg (fun x hx => ?_) (by rw [szE, List.length_nil]; omega)
    have hno : cmpO m .notin (.val (.str x)) (.val (.tup (H.map .str))) = some false := by
      show (inO m (.val (.str x)) (.val (.tup (H.map .str)))).map _ = _
      rw [in_tupT, decide_eq_true (hw x hx)]
      rfl
    have f1 : ((wipeF fr [i]).set i (some (D.str x)))[i]? = some (some (.str x)) := by
      rw [List.getElem?_set_self]
      show i < (fr.set i none).length
      rw [List.length_set]
      exact hi
    have f2 : ((wipeF fr [i]).set i (some (D.str x)))[c]? = some (some (.tup (H.map .str))) := by
      rw [List.getElem?_set_ne hic]
      show (fr.set i none)[c]? = _
      rw [List.getElem?_set_ne hic]
      exact hc
    unfold cpB
    show (some ((wipeF fr [i]).set i (some (D.str x)))).bind _ = _
    rw [Option.bind_some]
    generalize (wipeF fr [i]).set i (some (D.str x)) = F at *
    generalize H.map D.str = hs at *
    simp only [evSs, evS.eq_1, evS.eq_2, evS.eq_3, evS.eq_4, evS.eq_5, evS.eq_6, evS.eq_7, evS.eq_8, evS.eq_9, evS.eq_10, evS.eq_13, evS.eq_14, evS.eq_15, evS.eq_16, evS.eq_17, evS_for, evS_whl, evE.eq_1, evE.eq_2, evE.eq_3, evE.eq_4, evE.eq_5, evE.eq_6, evE.eq_7, evE.eq_8, evE.eq_9, evE.eq_10, evE.eq_11, evE.eq_12, evE.eq_13, evE.eq_14, evE.eq_15, evE.eq_16, evE.eq_17, evE.eq_18, evE.eq_19, evE.eq_20, evE.eq_21, evE.eq_22, evE.eq_23, evE.eq_24, evE.eq_26, evE.eq_27, evE.eq_28, evE.eq_29, evE_comp, evA, evAnd, evOr, evP, evI, tst, bindT.eq_1, bindT.eq_2, bindTs.eq_1, bindTs.eq_2, stow_val, stow_tmp, truO, bltO, bop_int, bopI, cmp_int, Nb.ix_tup, ix_frz, ix_tmp, len_tup, len_frz, len_tmp, atI_0, atI_1, atI_2, atI_3, ixN_0, ixN_1, ixN_2, Option.bind_some, Option.map_some, Option.bind_none, Option.map_none, List.getElem?_cons_zero, List.getElem?_cons_succ, List.set_cons_zero, List.set_cons_succ, List.length_cons, List.length_nil, List.length_map, if_true, if_false, decide_true, decide_false, Bool.not_true, Bool.not_false, Bool.false_eq_true, reduceIte, List.map_cons, List.map_nil, List.cons_append, List.nil_append, List.replicate, Nat.sub_self, Nat.reduceSub, Nat.reduceAdd, Int.reduceAdd, Int.reducePow, Int.reduceToNat, Int.reduceLE, Int.reduceLT, Nat.reduceLT, Nat.reduceLeDiff, Nat.reducePow, Int.reduceSub, Int.reduceMul, Int.reduceEq, Nat.reduceEqDiff, and_self, true_and, and_true, or_true, true_or, Int.reduceNeg, eq_self, cmp_str, tyO, tyD, isi_ii, isi_is, isi_bi, isi_bs, isi_ib, isi_bb, dec_self, szE, bnd_int, seq_tup, seq_frz, seq_tmp, add_tup, f1, f2, hno]
  have z : ∀ w : List Str, w.filterMap (fun _ => (none : Option D)) = [] := fun w => by
    induction w with
    | nil => rfl
    | cons x xs ih => exact ih
  rw [z, List.append_nil] at L
  rw [evE_comp, he, Option.bind_some]
  show (loopC _ (gdW (w.map D.str, o)) (w.map D.str) [] m).map _ = _
  rw [L]
  rfl
theorem eqNil {m : Mm} : cmpO m .eq (.tmp []) (.tmp []) = some true := eq_tmp_nil (ds := []) fun d hd => nomatch hd
theorem neNil {m : Mm} : cmpO m .ne (.tmp []) (.tmp []) = some false := by
  show (eqO m (.tmp []) (.tmp [])).map _ = _
  rw [show eqO m (.tmp []) (.tmp []) = some true from eqNil (m := m)]
  rfl
def eLast : E := .comp (.var 6) (.n 6) (.e (.ix (.ix (.var 0) (.ix (.var 1) (.neg (.int 1)))) (.int 0))) [.cmp .notin (.var 6) (.var 2)] [6]
theorem used {m : Mm} {bks : List (List Str × List Act)} {a : Act} {K H : List Str} (hK : ∀ x ∈ K, x ∈ NN) (hH : ∀ x ∈ K, x ∈ H) (hHN : ∀ x ∈ H, x ∈ NN) (hHl : H.length < 500) (hW : ∀ b ∈ bks, b.1.length ≤ 2) (ha : Act.ok K (opens (bks.map (·.1)) K) a) :
    ∃ a', F_Lused_right [progD bks, a.d, .tup (H.map .str)] m = some (.val (.bl true), m ++ a') := by
  obtain ⟨q1, q2, q3⟩ := gsA_ok hK hH ha
  obtain ⟨y, t1, t2⟩ := flds (m := m) (a := a) (x0 := some (progD bks)) (x2 := some (.tup (H.map .str))) (x4 := none) (x5 := none) (x6 := none)
  obtain ⟨h', y5, a', t4⟩ := usLoop (m := m) (es := (gsA a).map Gf.d) (x0 := some (progD bks)) (x1 := some a.d) (x2 := some (.tup (H.map .str))) (x3 := some (.tup ((gsA a).map Gf.d))) (x6 := none) (gsA a) H [.lst (H.map .str)] m.length none q1 q2 hHN get_new (by omega)
  have t3 : evS g1 (.asg (.n 4) (.blt .list (.var 2))) [some (progD bks), some a.d, some (.tup (H.map .str)), some (.tup ((gsA a).map Gf.d)), none, none, none] m = some (.nx, [some (progD bks), some a.d, some (.tup (H.map .str)), some (.tup ((gsA a).map Gf.d)), some (.ref m.length), none, none], m ++ [.lst (H.map .str)]) := by
    have hd : dctO m (.val (.tup (H.map D.str))) = none := rfl
    generalize H.map D.str = hs at *
    simp only [evSs, evS.eq_1, evS.eq_2, evS.eq_3, evS.eq_4, evS.eq_5, evS.eq_6, evS.eq_7, evS.eq_8, evS.eq_9, evS.eq_10, evS.eq_13, evS.eq_14, evS.eq_15, evS.eq_16, evS.eq_17, evS_for, evS_whl, evE.eq_1, evE.eq_2, evE.eq_3, evE.eq_4, evE.eq_5, evE.eq_6, evE.eq_7, evE.eq_8, evE.eq_9, evE.eq_10, evE.eq_11, evE.eq_12, evE.eq_13, evE.eq_14, evE.eq_15, evE.eq_16, evE.eq_17, evE.eq_18, evE.eq_19, evE.eq_20, evE.eq_21, evE.eq_22, evE.eq_23, evE.eq_24, evE.eq_26, evE.eq_27, evE.eq_28, evE.eq_29, evE_comp, evA, evAnd, evOr, evP, evI, tst, bindT.eq_1, bindT.eq_2, bindTs.eq_1, bindTs.eq_2, stow_val, stow_tmp, truO, bltO, bop_int, bopI, cmp_int, Nb.ix_tup, ix_frz, ix_tmp, len_tup, len_frz, len_tmp, atI_0, atI_1, atI_2, atI_3, ixN_0, ixN_1, ixN_2, Option.bind_some, Option.map_some, Option.bind_none, Option.map_none, List.getElem?_cons_zero, List.getElem?_cons_succ, List.set_cons_zero, List.set_cons_succ, List.length_cons, List.length_nil, List.length_map, if_true, if_false, decide_true, decide_false, Bool.not_true, Bool.not_false, Bool.false_eq_true, reduceIte, List.map_cons, List.map_nil, List.cons_append, List.nil_append, List.replicate, Nat.sub_self, Nat.reduceSub, Nat.reduceAdd, Int.reduceAdd, Int.reducePow, Int.reduceToNat, Int.reduceLE, Int.reduceLT, Nat.reduceLT, Nat.reduceLeDiff, Nat.reducePow, Int.reduceSub, Int.reduceMul, Int.reduceEq, Nat.reduceEqDiff, and_self, true_and, and_true, or_true, true_or, Int.reduceNeg, eq_self, cmp_str, tyO, tyD, isi_ii, isi_is, isi_bi, isi_bs, isi_ib, isi_bb, dec_self, szE, bnd_int, seq_tup, seq_frz, seq_tmp, add_tup, hd]
  have t4 : evS g1 (.for_ (.n 5) (.e (.var 3)) bUs) [some (progD bks), some a.d, some (.tup (H.map .str)), some (.tup ((gsA a).map Gf.d)), some (.ref m.length), none, none] (m ++ [.lst (H.map .str)]) = some (.nx, [some (progD bks), some a.d, some (.tup (H.map .str)), some (.tup ((gsA a).map Gf.d)), some (.ref h'), y5, none], m ++ a') := by
    rw [evS_for]
    generalize (gsA a).map Gf.d = gl at *
    generalize H.map D.str = hs at *
    simp only [evSs, evS.eq_1, evS.eq_2, evS.eq_3, evS.eq_4, evS.eq_5, evS.eq_6, evS.eq_7, evS.eq_8, evS.eq_9, evS.eq_10, evS.eq_13, evS.eq_14, evS.eq_15, evS.eq_16, evS.eq_17, evS_for, evS_whl, evE.eq_1, evE.eq_2, evE.eq_3, evE.eq_4, evE.eq_5, evE.eq_6, evE.eq_7, evE.eq_8, evE.eq_9, evE.eq_10, evE.eq_11, evE.eq_12, evE.eq_13, evE.eq_14, evE.eq_15, evE.eq_16, evE.eq_17, evE.eq_18, evE.eq_19, evE.eq_20, evE.eq_21, evE.eq_22, evE.eq_23, evE.eq_24, evE.eq_26, evE.eq_27, evE.eq_28, evE.eq_29, evE_comp, evA, evAnd, evOr, evP, evI, tst, bindT.eq_1, bindT.eq_2, bindTs.eq_1, bindTs.eq_2, stow_val, stow_tmp, truO, bltO, bop_int, bopI, cmp_int, Nb.ix_tup, ix_frz, ix_tmp, len_tup, len_frz, len_tmp, atI_0, atI_1, atI_2, atI_3, ixN_0, ixN_1, ixN_2, Option.bind_some, Option.map_some, Option.bind_none, Option.map_none, List.getElem?_cons_zero, List.getElem?_cons_succ, List.set_cons_zero, List.set_cons_succ, List.length_cons, List.length_nil, List.length_map, if_true, if_false, decide_true, decide_false, Bool.not_true, Bool.not_false, Bool.false_eq_true, reduceIte, List.map_cons, List.map_nil, List.cons_append, List.nil_append, List.replicate, Nat.sub_self, Nat.reduceSub, Nat.reduceAdd, Int.reduceAdd, Int.reducePow, Int.reduceToNat, Int.reduceLE, Int.reduceLT, Nat.reduceLT, Nat.reduceLeDiff, Nat.reducePow, Int.reduceSub, Int.reduceMul, Int.reduceEq, Nat.reduceEqDiff, and_self, true_and, and_true, or_true, true_or, Int.reduceNeg, eq_self, cmp_str, tyO, tyD, isi_ii, isi_is, isi_bi, isi_bs, isi_ib, isi_bb, dec_self, szE, bnd_int, seq_tup, seq_frz, seq_tmp, add_tup, wkO]
    exact t4
  refine ⟨a', ?_⟩
  unfold F_Lused_right runF s_Lused_right
  rw [e_Lused_right]
  show (evSs g1 [eFld, eSame, .asg (.n 4) (.blt .list (.var 2)), .for_ (.n 5) (.e (.var 3)) bUs, .ife (.cmp .isin (.ix (.var 1) (.int 0)) (.tup [.str "lay", .str "take", .str "read"])) [.ret (.bl true)] [], .ret (.cmp .eq eLast (.lst []))] [some (progD bks), some a.d, some (.tup (H.map .str)), none, none, none, none] m).bind _ = _
  rw [evSs.eq_2, t1, Option.bind_some, evSs.eq_2, t2, Option.bind_some, evSs.eq_2, t3, Option.bind_some, evSs.eq_2, t4, Option.bind_some]
  have h0 := act0 (m := m ++ a') (a := a)
  have hl := aw_ltr (m := m ++ a') (a := a)
  cases e : toA a with
  | none =>
    rw [e] at hl
    generalize a.d = ad at *
    simp only [evSs, evS.eq_1, evS.eq_2, evS.eq_3, evS.eq_4, evS.eq_5, evS.eq_6, evS.eq_7, evS.eq_8, evS.eq_9, evS.eq_10, evS.eq_13, evS.eq_14, evS.eq_15, evS.eq_16, evS.eq_17, evS_for, evS_whl, evE.eq_1, evE.eq_2, evE.eq_3, evE.eq_4, evE.eq_5, evE.eq_6, evE.eq_7, evE.eq_8, evE.eq_9, evE.eq_10, evE.eq_11, evE.eq_12, evE.eq_13, evE.eq_14, evE.eq_15, evE.eq_16, evE.eq_17, evE.eq_18, evE.eq_19, evE.eq_20, evE.eq_21, evE.eq_22, evE.eq_23, evE.eq_24, evE.eq_26, evE.eq_27, evE.eq_28, evE.eq_29, evE_comp, evA, evAnd, evOr, evP, evI, tst, bindT.eq_1, bindT.eq_2, bindTs.eq_1, bindTs.eq_2, stow_val, stow_tmp, truO, bltO, bop_int, bopI, cmp_int, Nb.ix_tup, ix_frz, ix_tmp, len_tup, len_frz, len_tmp, atI_0, atI_1, atI_2, atI_3, ixN_0, ixN_1, ixN_2, Option.bind_some, Option.map_some, Option.bind_none, Option.map_none, List.getElem?_cons_zero, List.getElem?_cons_succ, List.set_cons_zero, List.set_cons_succ, List.length_cons, List.length_nil, List.length_map, if_true, if_false, decide_true, decide_false, Bool.not_true, Bool.not_false, Bool.false_eq_true, reduceIte, List.map_cons, List.map_nil, List.cons_append, List.nil_append, List.replicate, Nat.sub_self, Nat.reduceSub, Nat.reduceAdd, Int.reduceAdd, Int.reducePow, Int.reduceToNat, Int.reduceLE, Int.reduceLT, Nat.reduceLT, Nat.reduceLeDiff, Nat.reducePow, Int.reduceSub, Int.reduceMul, Int.reduceEq, Nat.reduceEqDiff, and_self, true_and, and_true, or_true, true_or, Int.reduceNeg, eq_self, cmp_str, tyO, tyD, isi_ii, isi_is, isi_bi, isi_bs, isi_ib, isi_bb, dec_self, szE, bnd_int, seq_tup, seq_frz, seq_tmp, add_tup, h0, hl, Option.isNone_none]
  | some b =>
    rw [e] at hl
    obtain ⟨k, w, rfl, hk, hw⟩ := open_at (to_open ha e)
    have hx := to_ix (m := m ++ a') e
    rw [List.getElem?_map] at hk
    obtain ⟨bk, hb, hbw⟩ := Option.map_eq_some_iff.mp hk
    have hb1 : atI (bks.map bkD) (k : Int) = some (bkD bk) := by
      rw [Nb.atI_nat, List.getElem?_map, hb]
      rfl
    have hb2 : atI [wD bk.1, .tup (bk.2.map Act.d)] 0 = some (.tup (w.map .str)) := by
      rw [atI_0, ← hbw]
      rfl
    have hwl : w.length ≤ 2 := by
      rw [← hbw]
      exact hW bk (List.mem_of_getElem? hb)
    have eI : evI g1 (.e (.ix (.ix (.var 0) (.ix (.var 1) (.neg (.int 1)))) (.int 0))) [some (progD bks), some a.d, some (.tup (H.map .str)), some (.tup ((gsA a).map Gf.d)), some (.ref h'), y5, none] (m ++ a') = some ((w.map D.str, none), m ++ a') := by
      unfold progD
      have hbd : bkD bk = .tup [wD bk.1, .tup (bk.2.map Act.d)] := rfl
      rw [hbd] at hb1
      generalize bks.map bkD = bl at *
      generalize a.d = ad at *
      generalize [wD bk.1, .tup (bk.2.map Act.d)] = bb at *
      generalize w.map D.str = ws at *
      simp only [evSs, evS.eq_1, evS.eq_2, evS.eq_3, evS.eq_4, evS.eq_5, evS.eq_6, evS.eq_7, evS.eq_8, evS.eq_9, evS.eq_10, evS.eq_13, evS.eq_14, evS.eq_15, evS.eq_16, evS.eq_17, evS_for, evS_whl, evE.eq_1, evE.eq_2, evE.eq_3, evE.eq_4, evE.eq_5, evE.eq_6, evE.eq_7, evE.eq_8, evE.eq_9, evE.eq_10, evE.eq_11, evE.eq_12, evE.eq_13, evE.eq_14, evE.eq_15, evE.eq_16, evE.eq_17, evE.eq_18, evE.eq_19, evE.eq_20, evE.eq_21, evE.eq_22, evE.eq_23, evE.eq_24, evE.eq_26, evE.eq_27, evE.eq_28, evE.eq_29, evE_comp, evA, evAnd, evOr, evP, evI, tst, bindT.eq_1, bindT.eq_2, bindTs.eq_1, bindTs.eq_2, stow_val, stow_tmp, truO, bltO, bop_int, bopI, cmp_int, Nb.ix_tup, ix_frz, ix_tmp, len_tup, len_frz, len_tmp, atI_0, atI_1, atI_2, atI_3, ixN_0, ixN_1, ixN_2, Option.bind_some, Option.map_some, Option.bind_none, Option.map_none, List.getElem?_cons_zero, List.getElem?_cons_succ, List.set_cons_zero, List.set_cons_succ, List.length_cons, List.length_nil, List.length_map, if_true, if_false, decide_true, decide_false, Bool.not_true, Bool.not_false, Bool.false_eq_true, reduceIte, List.map_cons, List.map_nil, List.cons_append, List.nil_append, List.replicate, Nat.sub_self, Nat.reduceSub, Nat.reduceAdd, Int.reduceAdd, Int.reducePow, Int.reduceToNat, Int.reduceLE, Int.reduceLT, Nat.reduceLT, Nat.reduceLeDiff, Nat.reducePow, Int.reduceSub, Int.reduceMul, Int.reduceEq, Nat.reduceEqDiff, and_self, true_and, and_true, or_true, true_or, Int.reduceNeg, eq_self, cmp_str, tyO, tyD, isi_ii, isi_is, isi_bi, isi_bs, isi_ib, isi_bb, dec_self, szE, bnd_int, seq_tup, seq_frz, seq_tmp, add_tup, hx, hb1, hb2, wkO]
    have eL := noneOut (i := 6) (c := 2) (H := H) eI rfl (fun x hx => hH x (hw x hx)) (by omega) (by decide) (by show 6 < 7; decide) rfl
    have eL : evE g1 (id eLast) _ _ = _ := eL
    rw [show eLast = id eLast from rfl]
    have en := eqNil (m := m ++ a')
    generalize a.d = ad at *
    simp only [evSs, evS.eq_1, evS.eq_2, evS.eq_3, evS.eq_4, evS.eq_5, evS.eq_6, evS.eq_7, evS.eq_8, evS.eq_9, evS.eq_10, evS.eq_13, evS.eq_14, evS.eq_15, evS.eq_16, evS.eq_17, evS_for, evS_whl, evE.eq_1, evE.eq_2, evE.eq_3, evE.eq_4, evE.eq_5, evE.eq_6, evE.eq_7, evE.eq_8, evE.eq_9, evE.eq_10, evE.eq_11, evE.eq_12, evE.eq_13, evE.eq_14, evE.eq_15, evE.eq_16, evE.eq_17, evE.eq_18, evE.eq_19, evE.eq_20, evE.eq_21, evE.eq_22, evE.eq_23, evE.eq_24, evE.eq_26, evE.eq_27, evE.eq_28, evE.eq_29, evE_comp, evA, evAnd, evOr, evP, evI, tst, bindT.eq_1, bindT.eq_2, bindTs.eq_1, bindTs.eq_2, stow_val, stow_tmp, truO, bltO, bop_int, bopI, cmp_int, Nb.ix_tup, ix_frz, ix_tmp, len_tup, len_frz, len_tmp, atI_0, atI_1, atI_2, atI_3, ixN_0, ixN_1, ixN_2, Option.bind_some, Option.map_some, Option.bind_none, Option.map_none, List.getElem?_cons_zero, List.getElem?_cons_succ, List.set_cons_zero, List.set_cons_succ, List.length_cons, List.length_nil, List.length_map, if_true, if_false, decide_true, decide_false, Bool.not_true, Bool.not_false, Bool.false_eq_true, reduceIte, List.map_cons, List.map_nil, List.cons_append, List.nil_append, List.replicate, Nat.sub_self, Nat.reduceSub, Nat.reduceAdd, Int.reduceAdd, Int.reducePow, Int.reduceToNat, Int.reduceLE, Int.reduceLT, Nat.reduceLT, Nat.reduceLeDiff, Nat.reducePow, Int.reduceSub, Int.reduceMul, Int.reduceEq, Nat.reduceEqDiff, and_self, true_and, and_true, or_true, true_or, Int.reduceNeg, eq_self, cmp_str, tyO, tyD, isi_ii, isi_is, isi_bi, isi_bs, isi_ib, isi_bb, dec_self, szE, bnd_int, seq_tup, seq_frz, seq_tmp, add_tup, h0, hl, Option.isNone_some, eL, en]
end LawP

namespace LawP
open PySem PySem.Spec L2 Nb Hd
theorem loopRng {X : Type} {ff : D → Fr → Mm → Option (Fl × Fr × Mm)} {es : List D} (F : X → Fr) (I : Nat → X → Mm → Prop) (n : Nat) (step : ∀ k x m, k < n → I k x m → ∃ x' m', ff (.int (k : Int)) (F x) m = some (.nx, F x', m') ∧ I (k + 1) x' m') :
    ∀ (j k : Nat) (x : X) (m : Mm), n - k = j → k ≤ n → I k x m → ∃ x' m', loopF ff (gdW (es, none)) (rngD (k : Int) (n : Int)) (F x) m = some (.nx, F x', m') ∧ I n x' m'
  | 0, k, x, m, h, hk, i => by
    obtain rfl : k = n := by omega
    rw [rng_nil (Int.le_refl _)]
    exact ⟨x, m, loopF_end rfl, i⟩
  | j + 1, k, x, m, h, hk, i => by
    obtain ⟨x1, m1, e1, i1⟩ := step k x m (by omega) i
    obtain ⟨x2, m2, e2, i2⟩ := loopRng F I n step j (k + 1) x1 m1 (by omega) (by omega) i1
    rw [rng_cons (by omega)]
    have e : ((k : Int) + 1) = ((k + 1 : Nat) : Int) := by omega
    rw [e]
    exact ⟨x2, m2, (loopF_nx rfl e1).trans e2, i2⟩
theorem take_one {α : Type} {l : List α} {j : Nat} : (l.drop j).take 1 = match l[j]? with
  | some a => [a]
  | none => [] := by
  cases h : l[j]? with
  | none =>
    have := List.getElem?_eq_none_iff.mp h
    rw [List.drop_of_length_le this]
    rfl
  | some a =>
    obtain ⟨h1, h2⟩ := List.getElem?_eq_some_iff.mp h
    rw [List.drop_eq_getElem_cons h1, h2]
    rfl
def sUse : S := .ife (.not (.call "_law_used_right" [.var 3, .var 8, .var 7])) [.ret (.bl false)] []
def sFor : S := .for_ (.n 8) (.e (.slc (.ix (.ix (.var 3) (.var 4)) (.int 1)) (some (.var 6)) (some (.bop .add (.var 6) (.int 1))))) [sUse]
def cLst : E := .comp (.var 9) (.n 9) (.e (.var 5)) [.cmp .notin (.var 9) (.var 7)] [9]
def bPl : List S := [
        .asg (.n 7) (.call "known_at" [.var 3, .var 4, .var 6]), 
        .ife (.cmp .ne (.blt .repr (.var 7)) (.blt .repr (.call "_law_due" [.ix (.var 3) (.var 4), .var 6]))) [
          .ret (.bl false)] [], 
        .ife (.cmp .ne cLst (.lst [])) [
          .ret (.bl false)] [], 
        .asg (.n 5) (.var 7), 
        sFor]
/-- the block as it is drawn -/
structure BlkOk (bks : List (List Str × List Act)) (i : Nat) (w : List Str) (as : List Act) : Prop where
  at_ : bks[i]? = some (w, as)
  wk : wOk w
  as_ : actsOk (bks.map (·.1)) w as
  len : as.length ≤ 8
  all : ∀ b ∈ bks, b.1.length ≤ 2
theorem kb_nn {w : List Str} {as : List Act} (hw : wOk w) (h : ActsG as) : ∀ x ∈ kb w as, x ∈ NN := fun x hx => by
  rcases List.mem_append.mp hx with hx | hx
  · exact hw.1 x hx
  · obtain ⟨a, ha, hx⟩ := List.mem_flatMap.mp hx
    obtain ⟨K, O, hok⟩ := h a ha
    exact (Act.bnd_ok hok).1 x hx
theorem kb_len {w : List Str} : ∀ {as : List Act}, ActsG as → (kb w as).length ≤ w.length + 4 * as.length
  | [], _ => by simp [kb]
  | a :: as, h => by
    have ih := kb_len (w := w) (as := as) fun b hb => h b (List.mem_cons_of_mem _ hb)
    obtain ⟨K, O, hok⟩ := h a List.mem_cons_self
    have := (Act.bnd_ok hok).2
    unfold kb at *
    rw [List.length_append] at ih ⊢
    rw [List.flatMap_cons, List.length_append, List.length_cons]
    omega
theorem placeStep {m : Mm} {bks : List (List Str × List Act)} {i j : Nat} {w lst : List Str} {as : List Act} {x0 x1 x2 x6 x7 x8 : Option D} (hb : BlkOk bks i w as) (hj : j ≤ as.length) (hl : ∀ x ∈ lst, x ∈ kb w (as.take j)) (hll : lst.length < 500) :
    ∃ y8 a, forB g5 (.n 6) bPl (.int (j : Int)) [x0, x1, x2, some (progD bks), some (.int (i : Int)), some (.tup (lst.map .str)), x6, x7, x8, none] m = some (.nx, [x0, x1, x2, some (progD bks), some (.int (i : Int)), some (.tup ((ris (kb w (as.take j))).map .str)), some (.int (j : Int)), some (.tup ((ris (kb w (as.take j))).map .str)), y8, none], m ++ a) := by
  have hG := actsG_of hb.as_
  have hGt : ActsG (as.take j) := fun a ha => hG a (List.mem_of_mem_take ha)
  have hlen := hb.len
  have htl : (as.take j).length ≤ 8 := Nat.le_trans (List.length_take_le' _ _) hb.len
  have hkl := kb_len (w := w) hGt
  have hw2 := hb.wk.2
  have hrl := ris_len (xs := kb w (as.take j))
  have hN : ∀ x ∈ ris (kb w (as.take j)), x ∈ NN := fun x hx => kb_nn hb.wk hGt x (ris_mem.mp hx)
  obtain ⟨a1, e1⟩ := known_at (m := m) (i := i) (j := j) hb.at_ hG hw2 hb.len
  obtain ⟨a2, e2⟩ := due_run (m := m ++ a1) (j := j) (w := w) hG hw2 hb.len
  have er := (Bn.tup (n := 40) (ds := (ris (kb w (as.take j))).map D.str) (q := 0) (s := 1921) (fun d hd => by
    obtain ⟨x, hx, rfl⟩ := List.mem_map.mp hd
    have := okNN x (hN x hx)
    exact Bn.str this.1 (by omega)) (by rw [List.length_map]; omega)).repr (by decide) (by decide)
  have hH : ∀ x ∈ lst, x ∈ ris (kb w (as.take j)) := fun x hx => ris_mem.mpr (hl x hx)
  have hUs := fun (a : Act) (mm : Mm) (h : as[j]? = some a) => used (m := mm) (bks := bks) (a := a) (K := kn w (as.take j)) (H := ris (kb w (as.take j))) (fun x hx => kb_nn hb.wk hGt x (kn_mem.mp hx)) (fun x hx => ris_mem.mpr (kn_mem.mp hx)) hN (by omega) hb.all (actsOk_at hb.as_ h)
  have hix : atI (bks.map bkD) (i : Int) = some (bkD (w, as)) := by
    rw [Nb.atI_nat, List.getElem?_map, hb.at_]
    rfl
  generalize hR : ris (kb w (as.take j)) = R at *
  have s1 : evS g5 (.asg (.n 7) (.call "known_at" [.var 3, .var 4, .var 6])) [x0, x1, x2, some (progD bks), some (.int (i : Int)), some (.tup (lst.map .str)), some (.int (j : Int)), x7, x8, none] m = some (.nx, [x0, x1, x2, some (progD bks), some (.int (i : Int)), some (.tup (lst.map .str)), some (.int (j : Int)), some (.tup (R.map .str)), x8, none], m ++ a1) := by
    generalize R.map D.str = rs at *
    generalize progD bks = pd at *
    simp only [evSs, evS.eq_1, evS.eq_2, evS.eq_3, evS.eq_4, evS.eq_5, evS.eq_6, evS.eq_7, evS.eq_8, evS.eq_9, evS.eq_10, evS.eq_13, evS.eq_14, evS.eq_15, evS.eq_16, evS.eq_17, evS_for, evS_whl, evE.eq_1, evE.eq_2, evE.eq_3, evE.eq_4, evE.eq_5, evE.eq_6, evE.eq_7, evE.eq_8, evE.eq_9, evE.eq_10, evE.eq_11, evE.eq_12, evE.eq_13, evE.eq_14, evE.eq_15, evE.eq_16, evE.eq_17, evE.eq_18, evE.eq_19, evE.eq_20, evE.eq_21, evE.eq_22, evE.eq_23, evE.eq_24, evE.eq_26, evE.eq_27, evE.eq_28, evE.eq_29, evE_comp, evA, evAnd, evOr, evP, evI, tst, bindT.eq_1, bindT.eq_2, bindTs.eq_1, bindTs.eq_2, stow_val, stow_tmp, truO, bltO, bop_int, bopI, cmp_int, Nb.ix_tup, ix_frz, ix_tmp, len_tup, len_frz, len_tmp, atI_0, atI_1, atI_2, atI_3, ixN_0, ixN_1, ixN_2, Option.bind_some, Option.map_some, Option.bind_none, Option.map_none, List.getElem?_cons_zero, List.getElem?_cons_succ, List.set_cons_zero, List.set_cons_succ, List.length_cons, List.length_nil, List.length_map, if_true, if_false, decide_true, decide_false, Bool.not_true, Bool.not_false, Bool.false_eq_true, reduceIte, List.map_cons, List.map_nil, List.cons_append, List.nil_append, List.replicate, Nat.sub_self, Nat.reduceSub, Nat.reduceAdd, Int.reduceAdd, Int.reducePow, Int.reduceToNat, Int.reduceLE, Int.reduceLT, Nat.reduceLT, Nat.reduceLeDiff, Nat.reducePow, Int.reduceSub, Int.reduceMul, Int.reduceEq, Nat.reduceEqDiff, and_self, true_and, and_true, or_true, true_or, Int.reduceNeg, eq_self, cmp_str, tyO, tyD, isi_ii, isi_is, isi_bi, isi_bs, isi_ib, isi_bb, dec_self, szE, bnd_int, seq_tup, seq_frz, seq_tmp, add_tup, p_5_known_at, e1]
  have s2 : evS g5 (.ife (.cmp .ne (.blt .repr (.var 7)) (.blt .repr (.call "_law_due" [.ix (.var 3) (.var 4), .var 6]))) [.ret (.bl false)] []) [x0, x1, x2, some (progD bks), some (.int (i : Int)), some (.tup (lst.map .str)), some (.int (j : Int)), some (.tup (R.map .str)), x8, none] (m ++ a1) = some (.nx, [x0, x1, x2, some (progD bks), some (.int (i : Int)), some (.tup (lst.map .str)), some (.int (j : Int)), some (.tup (R.map .str)), x8, none], m ++ a1 ++ a2) := by
    unfold progD
    generalize R.map D.str = rs at *
    generalize bks.map bkD = bl at *
    generalize bkD (w, as) = bd at *
    simp only [evSs, evS.eq_1, evS.eq_2, evS.eq_3, evS.eq_4, evS.eq_5, evS.eq_6, evS.eq_7, evS.eq_8, evS.eq_9, evS.eq_10, evS.eq_13, evS.eq_14, evS.eq_15, evS.eq_16, evS.eq_17, evS_for, evS_whl, evE.eq_1, evE.eq_2, evE.eq_3, evE.eq_4, evE.eq_5, evE.eq_6, evE.eq_7, evE.eq_8, evE.eq_9, evE.eq_10, evE.eq_11, evE.eq_12, evE.eq_13, evE.eq_14, evE.eq_15, evE.eq_16, evE.eq_17, evE.eq_18, evE.eq_19, evE.eq_20, evE.eq_21, evE.eq_22, evE.eq_23, evE.eq_24, evE.eq_26, evE.eq_27, evE.eq_28, evE.eq_29, evE_comp, evA, evAnd, evOr, evP, evI, tst, bindT.eq_1, bindT.eq_2, bindTs.eq_1, bindTs.eq_2, stow_val, stow_tmp, truO, bltO, bop_int, bopI, cmp_int, Nb.ix_tup, ix_frz, ix_tmp, len_tup, len_frz, len_tmp, atI_0, atI_1, atI_2, atI_3, ixN_0, ixN_1, ixN_2, Option.bind_some, Option.map_some, Option.bind_none, Option.map_none, List.getElem?_cons_zero, List.getElem?_cons_succ, List.set_cons_zero, List.set_cons_succ, List.length_cons, List.length_nil, List.length_map, if_true, if_false, decide_true, decide_false, Bool.not_true, Bool.not_false, Bool.false_eq_true, reduceIte, List.map_cons, List.map_nil, List.cons_append, List.nil_append, List.replicate, Nat.sub_self, Nat.reduceSub, Nat.reduceAdd, Int.reduceAdd, Int.reducePow, Int.reduceToNat, Int.reduceLE, Int.reduceLT, Nat.reduceLT, Nat.reduceLeDiff, Nat.reducePow, Int.reduceSub, Int.reduceMul, Int.reduceEq, Nat.reduceEqDiff, and_self, true_and, and_true, or_true, true_or, Int.reduceNeg, eq_self, cmp_str, tyO, tyD, isi_ii, isi_is, isi_bi, isi_bs, isi_ib, isi_bb, dec_self, szE, bnd_int, seq_tup, seq_frz, seq_tmp, add_tup, hix, p_5_Ldue, e2, er]
  have hc : evE g5 cLst [x0, x1, x2, some (progD bks), some (.int (i : Int)), some (.tup (lst.map .str)), some (.int (j : Int)), some (.tup (R.map .str)), x8, none] (m ++ a1 ++ a2) = some (.tmp [], m ++ a1 ++ a2) := by
    refine noneOut (i := 9) (c := 7) (H := R) (w := lst) (o := none) ?_ rfl hH (by omega) (by decide) (by show 9 < 10; decide) rfl
    generalize lst.map D.str = ls at *
    simp only [evSs, evS.eq_1, evS.eq_2, evS.eq_3, evS.eq_4, evS.eq_5, evS.eq_6, evS.eq_7, evS.eq_8, evS.eq_9, evS.eq_10, evS.eq_13, evS.eq_14, evS.eq_15, evS.eq_16, evS.eq_17, evS_for, evS_whl, evE.eq_1, evE.eq_2, evE.eq_3, evE.eq_4, evE.eq_5, evE.eq_6, evE.eq_7, evE.eq_8, evE.eq_9, evE.eq_10, evE.eq_11, evE.eq_12, evE.eq_13, evE.eq_14, evE.eq_15, evE.eq_16, evE.eq_17, evE.eq_18, evE.eq_19, evE.eq_20, evE.eq_21, evE.eq_22, evE.eq_23, evE.eq_24, evE.eq_26, evE.eq_27, evE.eq_28, evE.eq_29, evE_comp, evA, evAnd, evOr, evP, evI, tst, bindT.eq_1, bindT.eq_2, bindTs.eq_1, bindTs.eq_2, stow_val, stow_tmp, truO, bltO, bop_int, bopI, cmp_int, Nb.ix_tup, ix_frz, ix_tmp, len_tup, len_frz, len_tmp, atI_0, atI_1, atI_2, atI_3, ixN_0, ixN_1, ixN_2, Option.bind_some, Option.map_some, Option.bind_none, Option.map_none, List.getElem?_cons_zero, List.getElem?_cons_succ, List.set_cons_zero, List.set_cons_succ, List.length_cons, List.length_nil, List.length_map, if_true, if_false, decide_true, decide_false, Bool.not_true, Bool.not_false, Bool.false_eq_true, reduceIte, List.map_cons, List.map_nil, List.cons_append, List.nil_append, List.replicate, Nat.sub_self, Nat.reduceSub, Nat.reduceAdd, Int.reduceAdd, Int.reducePow, Int.reduceToNat, Int.reduceLE, Int.reduceLT, Nat.reduceLT, Nat.reduceLeDiff, Nat.reducePow, Int.reduceSub, Int.reduceMul, Int.reduceEq, Nat.reduceEqDiff, and_self, true_and, and_true, or_true, true_or, Int.reduceNeg, eq_self, cmp_str, tyO, tyD, isi_ii, isi_is, isi_bi, isi_bs, isi_ib, isi_bb, dec_self, szE, bnd_int, seq_tup, seq_frz, seq_tmp, add_tup, wkO]
  have s3 : evS g5 (.ife (.cmp .ne cLst (.lst [])) [.ret (.bl false)] []) [x0, x1, x2, some (progD bks), some (.int (i : Int)), some (.tup (lst.map .str)), some (.int (j : Int)), some (.tup (R.map .str)), x8, none] (m ++ a1 ++ a2) = some (.nx, [x0, x1, x2, some (progD bks), some (.int (i : Int)), some (.tup (lst.map .str)), some (.int (j : Int)), some (.tup (R.map .str)), x8, none], m ++ a1 ++ a2) := by
    have en := neNil (m := m ++ a1 ++ a2)
    rw [show cLst = id cLst from rfl]
    have hc : evE g5 (id cLst) _ _ = _ := hc
    simp only [evSs, evS.eq_1, evS.eq_2, evS.eq_3, evS.eq_4, evS.eq_5, evS.eq_6, evS.eq_7, evS.eq_8, evS.eq_9, evS.eq_10, evS.eq_13, evS.eq_14, evS.eq_15, evS.eq_16, evS.eq_17, evS_for, evS_whl, evE.eq_1, evE.eq_2, evE.eq_3, evE.eq_4, evE.eq_5, evE.eq_6, evE.eq_7, evE.eq_8, evE.eq_9, evE.eq_10, evE.eq_11, evE.eq_12, evE.eq_13, evE.eq_14, evE.eq_15, evE.eq_16, evE.eq_17, evE.eq_18, evE.eq_19, evE.eq_20, evE.eq_21, evE.eq_22, evE.eq_23, evE.eq_24, evE.eq_26, evE.eq_27, evE.eq_28, evE.eq_29, evE_comp, evA, evAnd, evOr, evP, evI, tst, bindT.eq_1, bindT.eq_2, bindTs.eq_1, bindTs.eq_2, stow_val, stow_tmp, truO, bltO, bop_int, bopI, cmp_int, Nb.ix_tup, ix_frz, ix_tmp, len_tup, len_frz, len_tmp, atI_0, atI_1, atI_2, atI_3, ixN_0, ixN_1, ixN_2, Option.bind_some, Option.map_some, Option.bind_none, Option.map_none, List.getElem?_cons_zero, List.getElem?_cons_succ, List.set_cons_zero, List.set_cons_succ, List.length_cons, List.length_nil, List.length_map, if_true, if_false, decide_true, decide_false, Bool.not_true, Bool.not_false, Bool.false_eq_true, reduceIte, List.map_cons, List.map_nil, List.cons_append, List.nil_append, List.replicate, Nat.sub_self, Nat.reduceSub, Nat.reduceAdd, Int.reduceAdd, Int.reducePow, Int.reduceToNat, Int.reduceLE, Int.reduceLT, Nat.reduceLT, Nat.reduceLeDiff, Nat.reducePow, Int.reduceSub, Int.reduceMul, Int.reduceEq, Nat.reduceEqDiff, and_self, true_and, and_true, or_true, true_or, Int.reduceNeg, eq_self, cmp_str, tyO, tyD, isi_ii, isi_is, isi_bi, isi_bs, isi_ib, isi_bb, dec_self, szE, bnd_int, seq_tup, seq_frz, seq_tmp, add_tup, hc, en]
  have s4 : evS g5 (.asg (.n 5) (.var 7)) [x0, x1, x2, some (progD bks), some (.int (i : Int)), some (.tup (lst.map .str)), some (.int (j : Int)), some (.tup (R.map .str)), x8, none] (m ++ a1 ++ a2) = some (.nx, [x0, x1, x2, some (progD bks), some (.int (i : Int)), some (.tup (R.map .str)), some (.int (j : Int)), some (.tup (R.map .str)), x8, none], m ++ a1 ++ a2) := by
    generalize R.map D.str = rs at *
    simp only [evSs, evS.eq_1, evS.eq_2, evS.eq_3, evS.eq_4, evS.eq_5, evS.eq_6, evS.eq_7, evS.eq_8, evS.eq_9, evS.eq_10, evS.eq_13, evS.eq_14, evS.eq_15, evS.eq_16, evS.eq_17, evS_for, evS_whl, evE.eq_1, evE.eq_2, evE.eq_3, evE.eq_4, evE.eq_5, evE.eq_6, evE.eq_7, evE.eq_8, evE.eq_9, evE.eq_10, evE.eq_11, evE.eq_12, evE.eq_13, evE.eq_14, evE.eq_15, evE.eq_16, evE.eq_17, evE.eq_18, evE.eq_19, evE.eq_20, evE.eq_21, evE.eq_22, evE.eq_23, evE.eq_24, evE.eq_26, evE.eq_27, evE.eq_28, evE.eq_29, evE_comp, evA, evAnd, evOr, evP, evI, tst, bindT.eq_1, bindT.eq_2, bindTs.eq_1, bindTs.eq_2, stow_val, stow_tmp, truO, bltO, bop_int, bopI, cmp_int, Nb.ix_tup, ix_frz, ix_tmp, len_tup, len_frz, len_tmp, atI_0, atI_1, atI_2, atI_3, ixN_0, ixN_1, ixN_2, Option.bind_some, Option.map_some, Option.bind_none, Option.map_none, List.getElem?_cons_zero, List.getElem?_cons_succ, List.set_cons_zero, List.set_cons_succ, List.length_cons, List.length_nil, List.length_map, if_true, if_false, decide_true, decide_false, Bool.not_true, Bool.not_false, Bool.false_eq_true, reduceIte, List.map_cons, List.map_nil, List.cons_append, List.nil_append, List.replicate, Nat.sub_self, Nat.reduceSub, Nat.reduceAdd, Int.reduceAdd, Int.reducePow, Int.reduceToNat, Int.reduceLE, Int.reduceLT, Nat.reduceLT, Nat.reduceLeDiff, Nat.reducePow, Int.reduceSub, Int.reduceMul, Int.reduceEq, Nat.reduceEqDiff, and_self, true_and, and_true, or_true, true_or, Int.reduceNeg, eq_self, cmp_str, tyO, tyD, isi_ii, isi_is, isi_bi, isi_bs, isi_ib, isi_bb, dec_self, szE, bnd_int, seq_tup, seq_frz, seq_tmp, add_tup]
  have e5 : evE g5 (.slc (.ix (.ix (.var 3) (.var 4)) (.int 1)) (some (.var 6)) (some (.bop .add (.var 6) (.int 1)))) [x0, x1, x2, some (progD bks), some (.int (i : Int)), some (.tup (R.map .str)), some (.int (j : Int)), some (.tup (R.map .str)), x8, none] (m ++ a1 ++ a2) = some (.val (.tup (((as.drop j).take 1).map Act.d)), m ++ a1 ++ a2) := by
    have hx : ixO (m ++ a1 ++ a2) (.val (bkD (w, as))) (.val (.int 1)) = some (.tup (as.map Act.d)) := rfl
    have hcc : cutA (as.map Act.d) (some (j : Int)) (some ((j : Int) + 1)) = ((as.drop j).take 1).map Act.d := by rw [cut_one, List.map_take, List.map_drop]
    unfold progD
    generalize bks.map bkD = bl at *
    generalize bkD (w, as) = bd at *
    generalize as.map Act.d = al at *
    generalize ((as.drop j).take 1).map Act.d = cl at *
    generalize R.map D.str = rs at *
    simp only [evSs, evS.eq_1, evS.eq_2, evS.eq_3, evS.eq_4, evS.eq_5, evS.eq_6, evS.eq_7, evS.eq_8, evS.eq_9, evS.eq_10, evS.eq_13, evS.eq_14, evS.eq_15, evS.eq_16, evS.eq_17, evS_for, evS_whl, evE.eq_1, evE.eq_2, evE.eq_3, evE.eq_4, evE.eq_5, evE.eq_6, evE.eq_7, evE.eq_8, evE.eq_9, evE.eq_10, evE.eq_11, evE.eq_12, evE.eq_13, evE.eq_14, evE.eq_15, evE.eq_16, evE.eq_17, evE.eq_18, evE.eq_19, evE.eq_20, evE.eq_21, evE.eq_22, evE.eq_23, evE.eq_24, evE.eq_26, evE.eq_27, evE.eq_28, evE.eq_29, evE_comp, evA, evAnd, evOr, evP, evI, tst, bindT.eq_1, bindT.eq_2, bindTs.eq_1, bindTs.eq_2, stow_val, stow_tmp, truO, bltO, bop_int, bopI, cmp_int, Nb.ix_tup, ix_frz, ix_tmp, len_tup, len_frz, len_tmp, atI_0, atI_1, atI_2, atI_3, ixN_0, ixN_1, ixN_2, Option.bind_some, Option.map_some, Option.bind_none, Option.map_none, List.getElem?_cons_zero, List.getElem?_cons_succ, List.set_cons_zero, List.set_cons_succ, List.length_cons, List.length_nil, List.length_map, if_true, if_false, decide_true, decide_false, Bool.not_true, Bool.not_false, Bool.false_eq_true, reduceIte, List.map_cons, List.map_nil, List.cons_append, List.nil_append, List.replicate, Nat.sub_self, Nat.reduceSub, Nat.reduceAdd, Int.reduceAdd, Int.reducePow, Int.reduceToNat, Int.reduceLE, Int.reduceLT, Nat.reduceLT, Nat.reduceLeDiff, Nat.reducePow, Int.reduceSub, Int.reduceMul, Int.reduceEq, Nat.reduceEqDiff, and_self, true_and, and_true, or_true, true_or, Int.reduceNeg, eq_self, cmp_str, tyO, tyD, isi_ii, isi_is, isi_bi, isi_bs, isi_ib, isi_bb, dec_self, szE, bnd_int, seq_tup, seq_frz, seq_tmp, add_tup, hix, hx, slc_tup, hcc]
  obtain ⟨y8, a3, s5⟩ : ∃ y8 a3, evS g5 sFor [x0, x1, x2, some (progD bks), some (.int (i : Int)), some (.tup (R.map .str)), some (.int (j : Int)), some (.tup (R.map .str)), x8, none] (m ++ a1 ++ a2) = some (.nx, [x0, x1, x2, some (progD bks), some (.int (i : Int)), some (.tup (R.map .str)), some (.int (j : Int)), some (.tup (R.map .str)), y8, none], m ++ a1 ++ a2 ++ a3) := by
    have ei : evI g5 (.e (.slc (.ix (.ix (.var 3) (.var 4)) (.int 1)) (some (.var 6)) (some (.bop .add (.var 6) (.int 1))))) [x0, x1, x2, some (progD bks), some (.int (i : Int)), some (.tup (R.map .str)), some (.int (j : Int)), some (.tup (R.map .str)), x8, none] (m ++ a1 ++ a2) = some ((((as.drop j).take 1).map Act.d, none), m ++ a1 ++ a2) := by
      show (evE _ _ _ _).bind _ = _
      rw [e5]
      rfl
    unfold sFor
    rw [evS_for, ei, Option.bind_some, take_one]
    cases ha : as[j]? with
    | none => exact ⟨x8, [], by rw [List.append_nil]; exact loopF_end rfl⟩
    | some a =>
      obtain ⟨a3, e6⟩ := hUs a (m ++ a1 ++ a2) ha
      refine ⟨some a.d, a3, (loopF_nx rfl ?_).trans (loopF_end rfl)⟩
      unfold forB sUse
      generalize a.d = ad at *
      generalize progD bks = pd at *
      generalize R.map D.str = rs at *
      simp only [evSs, evS.eq_1, evS.eq_2, evS.eq_3, evS.eq_4, evS.eq_5, evS.eq_6, evS.eq_7, evS.eq_8, evS.eq_9, evS.eq_10, evS.eq_13, evS.eq_14, evS.eq_15, evS.eq_16, evS.eq_17, evS_for, evS_whl, evE.eq_1, evE.eq_2, evE.eq_3, evE.eq_4, evE.eq_5, evE.eq_6, evE.eq_7, evE.eq_8, evE.eq_9, evE.eq_10, evE.eq_11, evE.eq_12, evE.eq_13, evE.eq_14, evE.eq_15, evE.eq_16, evE.eq_17, evE.eq_18, evE.eq_19, evE.eq_20, evE.eq_21, evE.eq_22, evE.eq_23, evE.eq_24, evE.eq_26, evE.eq_27, evE.eq_28, evE.eq_29, evE_comp, evA, evAnd, evOr, evP, evI, tst, bindT.eq_1, bindT.eq_2, bindTs.eq_1, bindTs.eq_2, stow_val, stow_tmp, truO, bltO, bop_int, bopI, cmp_int, Nb.ix_tup, ix_frz, ix_tmp, len_tup, len_frz, len_tmp, atI_0, atI_1, atI_2, atI_3, ixN_0, ixN_1, ixN_2, Option.bind_some, Option.map_some, Option.bind_none, Option.map_none, List.getElem?_cons_zero, List.getElem?_cons_succ, List.set_cons_zero, List.set_cons_succ, List.length_cons, List.length_nil, List.length_map, if_true, if_false, decide_true, decide_false, Bool.not_true, Bool.not_false, Bool.false_eq_true, reduceIte, List.map_cons, List.map_nil, List.cons_append, List.nil_append, List.replicate, Nat.sub_self, Nat.reduceSub, Nat.reduceAdd, Int.reduceAdd, Int.reducePow, Int.reduceToNat, Int.reduceLE, Int.reduceLT, Nat.reduceLT, Nat.reduceLeDiff, Nat.reducePow, Int.reduceSub, Int.reduceMul, Int.reduceEq, Nat.reduceEqDiff, and_self, true_and, and_true, or_true, true_or, Int.reduceNeg, eq_self, cmp_str, tyO, tyD, isi_ii, isi_is, isi_bi, isi_bs, isi_ib, isi_bb, dec_self, szE, bnd_int, seq_tup, seq_frz, seq_tmp, add_tup, p_5_Lused_right, e6]
  refine ⟨y8, a1 ++ a2 ++ a3, ?_⟩
  unfold forB bPl
  show (some [x0, x1, x2, some (progD bks), some (.int (i : Int)), some (.tup (lst.map .str)), some (.int (j : Int)), x7, x8, none]).bind _ = _
  rw [Option.bind_some, evSs.eq_2, s1, Option.bind_some, evSs.eq_2, s2, Option.bind_some, evSs.eq_2, s3, Option.bind_some, evSs.eq_2, s4, Option.bind_some, evSs.eq_2, s5, Option.bind_some, ← List.append_assoc, ← List.append_assoc]
  rfl
theorem kb_mono {w : List Str} {as : List Act} {j : Nat} : ∀ x ∈ kb w (as.take j), x ∈ kb w (as.take (j + 1)) := fun x hx => by
  rcases List.mem_append.mp hx with hx | hx
  · exact List.mem_append_left _ hx
  · obtain ⟨a, ha, hx⟩ := List.mem_flatMap.mp hx
    refine List.mem_append_right _ (List.mem_flatMap.mpr ⟨a, ?_, hx⟩)
    rw [List.take_add_one]
    exact List.mem_append_left _ ha
def bNum : List S := [
      .asg (.n 5) (.ix (.ix (.var 3) (.var 4)) (.int 0)), 
      .for_ (.n 6) (.rng1 (.bop .add (.blt .len (.ix (.ix (.var 3) (.var 4)) (.int 1))) (.int 1))) bPl]
theorem numStep {m : Mm} {bks : List (List Str × List Act)} {i : Nat} {w : List Str} {as : List Act} {x0 x1 x2 x4 x5 x6 x7 x8 : Option D} (hb : BlkOk bks i w as) :
    ∃ y5 y6 y7 y8 a, forB g5 (.n 4) bNum (.int (i : Int)) [x0, x1, x2, some (progD bks), x4, x5, x6, x7, x8, none] m = some (.nx, [x0, x1, x2, some (progD bks), some (.int (i : Int)), y5, y6, y7, y8, none], m ++ a) := by
  have hlen := hb.len
  have hG := actsG_of hb.as_
  have hix : atI (bks.map bkD) (i : Int) = some (bkD (w, as)) := by
    rw [Nb.atI_nat, List.getElem?_map, hb.at_]
    rfl
  have hr : inR ((as.length : Int) + 1) = true := inR_of (by omega) (by omega)
  obtain ⟨x', m', e, a, rfl, y5, e5, _⟩ := loopRng (ff := forB g5 (.n 6) bPl) (es := rngD 0 ((as.length : Int) + 1)) (fun x : Option D × Option D × Option D × Option D => [x0, x1, x2, some (progD bks), some (.int (i : Int)), x.1, x.2.1, x.2.2.1, x.2.2.2, none])
    (fun j x m' => ∃ a, m' = m ++ a ∧ ∃ lst : List Str, x.1 = some (.tup (lst.map .str)) ∧ (∀ y ∈ lst, y ∈ kb w (as.take j)) ∧ lst.length < 500) (as.length + 1) (fun j x m' hj I => by
      obtain ⟨a, rfl, lst, ex, hl, hll⟩ := I
      obtain ⟨z5, z6, z7, z8⟩ := x
      have ex : z5 = some (.tup (lst.map .str)) := ex
      subst ex
      obtain ⟨y8, a2, e⟩ := placeStep (m := m ++ a) (x0 := x0) (x1 := x1) (x2 := x2) (x6 := z6) (x7 := z7) (x8 := z8) hb (j := j) (by omega) hl hll
      have hGt : ActsG (as.take j) := fun a ha => hG a (List.mem_of_mem_take ha)
      have hkl := kb_len (w := w) hGt
      have htl : (as.take j).length ≤ 8 := Nat.le_trans (List.length_take_le' _ _) hb.len
      have hw2 := hb.wk.2
      have hrl := ris_len (xs := kb w (as.take j))
      exact ⟨(some (.tup ((ris (kb w (as.take j))).map .str)), some (.int j), some (.tup ((ris (kb w (as.take j))).map .str)), y8), m ++ a ++ a2, e, a ++ a2, by rw [List.append_assoc], ris (kb w (as.take j)), rfl, fun y hy => kb_mono y (ris_mem.mp hy), by omega⟩)
    (as.length + 1) 0 (some (.tup (w.map .str)), x6, x7, x8) m (by omega) (by omega) ⟨[], by rw [List.append_nil], w, rfl, fun y hy => List.mem_append_left _ hy, by have := hb.wk.2; omega⟩
  have ec : ((as.length + 1 : Nat) : Int) = (as.length : Int) + 1 := by omega
  rw [ec] at e
  refine ⟨x'.1, x'.2.1, x'.2.2.1, x'.2.2.2, a, ?_⟩
  have s1 : evS g5 (.asg (.n 5) (.ix (.ix (.var 3) (.var 4)) (.int 0))) [x0, x1, x2, some (progD bks), some (.int (i : Int)), x5, x6, x7, x8, none] m = some (.nx, [x0, x1, x2, some (progD bks), some (.int (i : Int)), some (.tup (w.map .str)), x6, x7, x8, none], m) := by
    have hx : ixO m (.val (bkD (w, as))) (.val (.int 0)) = some (.tup (w.map .str)) := rfl
    unfold progD
    generalize bks.map bkD = bl at *
    generalize bkD (w, as) = bd at *
    generalize w.map D.str = ws at *
    simp only [evSs, evS.eq_1, evS.eq_2, evS.eq_3, evS.eq_4, evS.eq_5, evS.eq_6, evS.eq_7, evS.eq_8, evS.eq_9, evS.eq_10, evS.eq_13, evS.eq_14, evS.eq_15, evS.eq_16, evS.eq_17, evS_for, evS_whl, evE.eq_1, evE.eq_2, evE.eq_3, evE.eq_4, evE.eq_5, evE.eq_6, evE.eq_7, evE.eq_8, evE.eq_9, evE.eq_10, evE.eq_11, evE.eq_12, evE.eq_13, evE.eq_14, evE.eq_15, evE.eq_16, evE.eq_17, evE.eq_18, evE.eq_19, evE.eq_20, evE.eq_21, evE.eq_22, evE.eq_23, evE.eq_24, evE.eq_26, evE.eq_27, evE.eq_28, evE.eq_29, evE_comp, evA, evAnd, evOr, evP, evI, tst, bindT.eq_1, bindT.eq_2, bindTs.eq_1, bindTs.eq_2, stow_val, stow_tmp, truO, bltO, bop_int, bopI, cmp_int, Nb.ix_tup, ix_frz, ix_tmp, len_tup, len_frz, len_tmp, atI_0, atI_1, atI_2, atI_3, ixN_0, ixN_1, ixN_2, Option.bind_some, Option.map_some, Option.bind_none, Option.map_none, List.getElem?_cons_zero, List.getElem?_cons_succ, List.set_cons_zero, List.set_cons_succ, List.length_cons, List.length_nil, List.length_map, if_true, if_false, decide_true, decide_false, Bool.not_true, Bool.not_false, Bool.false_eq_true, reduceIte, List.map_cons, List.map_nil, List.cons_append, List.nil_append, List.replicate, Nat.sub_self, Nat.reduceSub, Nat.reduceAdd, Int.reduceAdd, Int.reducePow, Int.reduceToNat, Int.reduceLE, Int.reduceLT, Nat.reduceLT, Nat.reduceLeDiff, Nat.reducePow, Int.reduceSub, Int.reduceMul, Int.reduceEq, Nat.reduceEqDiff, and_self, true_and, and_true, or_true, true_or, Int.reduceNeg, eq_self, cmp_str, tyO, tyD, isi_ii, isi_is, isi_bi, isi_bs, isi_ib, isi_bb, dec_self, szE, bnd_int, seq_tup, seq_frz, seq_tmp, add_tup, hix, hx]
  have s2 : evS g5 (.for_ (.n 6) (.rng1 (.bop .add (.blt .len (.ix (.ix (.var 3) (.var 4)) (.int 1))) (.int 1))) bPl) [x0, x1, x2, some (progD bks), some (.int (i : Int)), some (.tup (w.map .str)), x6, x7, x8, none] m = some (.nx, [x0, x1, x2, some (progD bks), some (.int (i : Int)), x'.1, x'.2.1, x'.2.2.1, x'.2.2.2, none], m ++ a) := by
    have h : evE g5 (.bop .add (.blt .len (.ix (.ix (.var 3) (.var 4)) (.int 1))) (.int 1)) [x0, x1, x2, some (progD bks), some (.int (i : Int)), some (.tup (w.map .str)), x6, x7, x8, none] m = some (.val (.int ((as.length : Int) + 1)), m) := by
      have hx : ixO m (.val (bkD (w, as))) (.val (.int 1)) = some (.tup (as.map Act.d)) := rfl
      have hn : lenO m (.val (.tup (as.map Act.d))) = some as.length := by rw [len_tup, List.length_map]
      unfold progD
      generalize bks.map bkD = bl at *
      generalize bkD (w, as) = bd at *
      generalize as.map Act.d = al at *
      generalize as.length = n at *
      generalize w.map D.str = ws at *
      have hn : some al.length = some n := hn
      simp only [evSs, evS.eq_1, evS.eq_2, evS.eq_3, evS.eq_4, evS.eq_5, evS.eq_6, evS.eq_7, evS.eq_8, evS.eq_9, evS.eq_10, evS.eq_13, evS.eq_14, evS.eq_15, evS.eq_16, evS.eq_17, evS_for, evS_whl, evE.eq_1, evE.eq_2, evE.eq_3, evE.eq_4, evE.eq_5, evE.eq_6, evE.eq_7, evE.eq_8, evE.eq_9, evE.eq_10, evE.eq_11, evE.eq_12, evE.eq_13, evE.eq_14, evE.eq_15, evE.eq_16, evE.eq_17, evE.eq_18, evE.eq_19, evE.eq_20, evE.eq_21, evE.eq_22, evE.eq_23, evE.eq_24, evE.eq_26, evE.eq_27, evE.eq_28, evE.eq_29, evE_comp, evA, evAnd, evOr, evP, evI, tst, bindT.eq_1, bindT.eq_2, bindTs.eq_1, bindTs.eq_2, stow_val, stow_tmp, truO, bltO, bop_int, bopI, cmp_int, Nb.ix_tup, ix_frz, ix_tmp, len_tup, len_frz, len_tmp, atI_0, atI_1, atI_2, atI_3, ixN_0, ixN_1, ixN_2, Option.bind_some, Option.map_some, Option.bind_none, Option.map_none, List.getElem?_cons_zero, List.getElem?_cons_succ, List.set_cons_zero, List.set_cons_succ, List.length_cons, List.length_nil, List.length_map, if_true, if_false, decide_true, decide_false, Bool.not_true, Bool.not_false, Bool.false_eq_true, reduceIte, List.map_cons, List.map_nil, List.cons_append, List.nil_append, List.replicate, Nat.sub_self, Nat.reduceSub, Nat.reduceAdd, Int.reduceAdd, Int.reducePow, Int.reduceToNat, Int.reduceLE, Int.reduceLT, Nat.reduceLT, Nat.reduceLeDiff, Nat.reducePow, Int.reduceSub, Int.reduceMul, Int.reduceEq, Nat.reduceEqDiff, and_self, true_and, and_true, or_true, true_or, Int.reduceNeg, eq_self, cmp_str, tyO, tyD, isi_ii, isi_is, isi_bi, isi_bs, isi_ib, isi_bb, dec_self, szE, bnd_int, seq_tup, seq_frz, seq_tmp, add_tup, hix, hx, hn]
    rw [evS_for, rngLen h hr, Option.bind_some]
    exact e
  unfold forB bNum
  show (some [x0, x1, x2, some (progD bks), some (.int (i : Int)), x5, x6, x7, x8, none]).bind _ = _
  rw [Option.bind_some, evSs.eq_2, s1, Option.bind_some, evSs.eq_2, s2, Option.bind_some]
  rfl
def bLaw : List S := [
    .asg (.n 3) (.call "_law_program" [.var 1]), 
    .for_ (.n 4) (.rng1 (.blt .len (.var 3))) bNum]
theorem round {ns : List Int} {b aq n : Nat} {m : Mm} {x0 x2 x3 x4 x5 x6 x7 x8 : Option D} {d : D} (h : Tp ns [.ref aq] n (b + 600) m) (ha : m[aq]? = some (.lst AGES)) (han : aq ≠ n) :
    ∃ y3 y4 y5 y6 y7 y8 m', forB g5 (.n 2) bLaw d [x0, some (.ref n), x2, x3, x4, x5, x6, x7, x8, none] m = some (.nx, [x0, some (.ref n), some d, y3, y4, y5, y6, y7, y8, none], m') ∧ Go ns [.ref aq] n b m m' := by
  obtain ⟨bks, m1, e1, hp, G1⟩ := Lprogram h ha han
  have hhi := hp.hi
  have hblk : ∀ i, i < bks.length → ∃ w as, BlkOk bks i w as := fun i hi => by
    obtain ⟨q1, q2, q3⟩ := hp.ok bks[i] (List.getElem_mem hi)
    exact ⟨bks[i].1, bks[i].2, List.getElem?_eq_getElem hi, q1, q2, q3, fun b hb => (hp.ok b hb).1.2⟩
  obtain ⟨x', m', e, a, rfl⟩ := loopRng (ff := forB g5 (.n 4) bNum) (es := rngD 0 (bks.length : Int)) (fun x : Option D × Option D × Option D × Option D × Option D => [x0, some (.ref n), some d, some (progD bks), x.1, x.2.1, x.2.2.1, x.2.2.2.1, x.2.2.2.2, none])
    (fun j x m' => ∃ a, m' = m1 ++ a) bks.length (fun i x m' hi I => by
      obtain ⟨a, rfl⟩ := I
      obtain ⟨w, as, hb⟩ := hblk i hi
      obtain ⟨y5, y6, y7, y8, a2, e⟩ := numStep (m := m1 ++ a) (x0 := x0) (x1 := some (.ref n)) (x2 := some d) (x4 := x.1) (x5 := x.2.1) (x6 := x.2.2.1) (x7 := x.2.2.2.1) (x8 := x.2.2.2.2) hb
      exact ⟨(some (.int i), y5, y6, y7, y8), m1 ++ a ++ a2, e, a ++ a2, by rw [List.append_assoc]⟩)
    bks.length 0 (x4, x5, x6, x7, x8) m1 (by omega) (by omega) ⟨[], by rw [List.append_nil]⟩
  refine ⟨some (progD bks), x'.1, x'.2.1, x'.2.2.1, x'.2.2.2.1, x'.2.2.2.2, m1 ++ a, ?_, G1.trans (Go.app G1.tp)⟩
  have hr : inR (bks.length : Int) = true := inR_of (by omega) (by omega)
  have s1 : evS g5 (.asg (.n 3) (.call "_law_program" [.var 1])) [x0, some (.ref n), some d, x3, x4, x5, x6, x7, x8, none] m = some (.nx, [x0, some (.ref n), some d, some (progD bks), x4, x5, x6, x7, x8, none], m1) := by
    generalize progD bks = pd at *
    simp only [evSs, evS.eq_1, evS.eq_2, evS.eq_3, evS.eq_4, evS.eq_5, evS.eq_6, evS.eq_7, evS.eq_8, evS.eq_9, evS.eq_10, evS.eq_13, evS.eq_14, evS.eq_15, evS.eq_16, evS.eq_17, evS_for, evS_whl, evE.eq_1, evE.eq_2, evE.eq_3, evE.eq_4, evE.eq_5, evE.eq_6, evE.eq_7, evE.eq_8, evE.eq_9, evE.eq_10, evE.eq_11, evE.eq_12, evE.eq_13, evE.eq_14, evE.eq_15, evE.eq_16, evE.eq_17, evE.eq_18, evE.eq_19, evE.eq_20, evE.eq_21, evE.eq_22, evE.eq_23, evE.eq_24, evE.eq_26, evE.eq_27, evE.eq_28, evE.eq_29, evE_comp, evA, evAnd, evOr, evP, evI, tst, bindT.eq_1, bindT.eq_2, bindTs.eq_1, bindTs.eq_2, stow_val, stow_tmp, truO, bltO, bop_int, bopI, cmp_int, Nb.ix_tup, ix_frz, ix_tmp, len_tup, len_frz, len_tmp, atI_0, atI_1, atI_2, atI_3, ixN_0, ixN_1, ixN_2, Option.bind_some, Option.map_some, Option.bind_none, Option.map_none, List.getElem?_cons_zero, List.getElem?_cons_succ, List.set_cons_zero, List.set_cons_succ, List.length_cons, List.length_nil, List.length_map, if_true, if_false, decide_true, decide_false, Bool.not_true, Bool.not_false, Bool.false_eq_true, reduceIte, List.map_cons, List.map_nil, List.cons_append, List.nil_append, List.replicate, Nat.sub_self, Nat.reduceSub, Nat.reduceAdd, Int.reduceAdd, Int.reducePow, Int.reduceToNat, Int.reduceLE, Int.reduceLT, Nat.reduceLT, Nat.reduceLeDiff, Nat.reducePow, Int.reduceSub, Int.reduceMul, Int.reduceEq, Nat.reduceEqDiff, and_self, true_and, and_true, or_true, true_or, Int.reduceNeg, eq_self, cmp_str, tyO, tyD, isi_ii, isi_is, isi_bi, isi_bs, isi_ib, isi_bb, dec_self, szE, bnd_int, seq_tup, seq_frz, seq_tmp, add_tup, p_5_Lprogram, e1]
  have s2 : evS g5 (.for_ (.n 4) (.rng1 (.blt .len (.var 3))) bNum) [x0, some (.ref n), some d, some (progD bks), x4, x5, x6, x7, x8, none] m1 = some (.nx, [x0, some (.ref n), some d, some (progD bks), x'.1, x'.2.1, x'.2.2.1, x'.2.2.2.1, x'.2.2.2.2, none], m1 ++ a) := by
    have h : evE g5 (.blt .len (.var 3)) [x0, some (.ref n), some d, some (progD bks), x4, x5, x6, x7, x8, none] m1 = some (.val (.int (bks.length : Int)), m1) := by
      have hn : lenO m1 (.val (progD bks)) = some bks.length := by
        unfold progD
        rw [len_tup, List.length_map]
      generalize progD bks = pd at *
      simp only [evSs, evS.eq_1, evS.eq_2, evS.eq_3, evS.eq_4, evS.eq_5, evS.eq_6, evS.eq_7, evS.eq_8, evS.eq_9, evS.eq_10, evS.eq_13, evS.eq_14, evS.eq_15, evS.eq_16, evS.eq_17, evS_for, evS_whl, evE.eq_1, evE.eq_2, evE.eq_3, evE.eq_4, evE.eq_5, evE.eq_6, evE.eq_7, evE.eq_8, evE.eq_9, evE.eq_10, evE.eq_11, evE.eq_12, evE.eq_13, evE.eq_14, evE.eq_15, evE.eq_16, evE.eq_17, evE.eq_18, evE.eq_19, evE.eq_20, evE.eq_21, evE.eq_22, evE.eq_23, evE.eq_24, evE.eq_26, evE.eq_27, evE.eq_28, evE.eq_29, evE_comp, evA, evAnd, evOr, evP, evI, tst, bindT.eq_1, bindT.eq_2, bindTs.eq_1, bindTs.eq_2, stow_val, stow_tmp, truO, bltO, bop_int, bopI, cmp_int, Nb.ix_tup, ix_frz, ix_tmp, len_tup, len_frz, len_tmp, atI_0, atI_1, atI_2, atI_3, ixN_0, ixN_1, ixN_2, Option.bind_some, Option.map_some, Option.bind_none, Option.map_none, List.getElem?_cons_zero, List.getElem?_cons_succ, List.set_cons_zero, List.set_cons_succ, List.length_cons, List.length_nil, List.length_map, if_true, if_false, decide_true, decide_false, Bool.not_true, Bool.not_false, Bool.false_eq_true, reduceIte, List.map_cons, List.map_nil, List.cons_append, List.nil_append, List.replicate, Nat.sub_self, Nat.reduceSub, Nat.reduceAdd, Int.reduceAdd, Int.reducePow, Int.reduceToNat, Int.reduceLE, Int.reduceLT, Nat.reduceLT, Nat.reduceLeDiff, Nat.reducePow, Int.reduceSub, Int.reduceMul, Int.reduceEq, Nat.reduceEqDiff, and_self, true_and, and_true, or_true, true_or, Int.reduceNeg, eq_self, cmp_str, tyO, tyD, isi_ii, isi_is, isi_bi, isi_bs, isi_ib, isi_bb, dec_self, szE, bnd_int, seq_tup, seq_frz, seq_tmp, add_tup, hn]
    rw [evS_for, rngLen h hr, Option.bind_some]
    exact e
  unfold forB bLaw
  show (some [x0, some (D.ref n), some d, x3, x4, x5, x6, x7, x8, none]).bind _ = _
  rw [Option.bind_some, evSs.eq_2, s1, Option.bind_some, evSs.eq_2, s2, Option.bind_some]
  rfl
theorem rounds {ns : List Int} {aq n : Nat} {x0 : Option D} {es : List D} (han : aq ≠ n) : ∀ (ds : List D) (x2 x3 x4 x5 x6 x7 x8 : Option D) (m : Mm), Tp ns [.ref aq] n (600 * ds.length) m → m[aq]? = some (.lst AGES) → ∃ fr m', loopF (forB g5 (.n 2) bLaw) (gdW (es, none)) ds [x0, some (.ref n), x2, x3, x4, x5, x6, x7, x8, none] m = some (.nx, fr, m')
  | [], x2, x3, x4, x5, x6, x7, x8, m, _, _ => ⟨_, m, loopF_end rfl⟩
  | d :: ds, x2, x3, x4, x5, x6, x7, x8, m, h, ha => by
    rw [List.length_cons] at h
    obtain ⟨y3, y4, y5, y6, y7, y8, m1, e1, G1⟩ := round (b := 600 * ds.length) (x0 := x0) (x2 := x2) (x3 := x3) (x4 := x4) (x5 := x5) (x6 := x6) (x7 := x7) (x8 := x8) (d := d) (h.less (by omega)) ha han
    obtain ⟨fr, m2, e2⟩ := rounds han ds (some d) y3 y4 y5 y6 y7 y8 m1 G1.tp (G1.ex.get ha han)
    exact ⟨fr, m2, (loopF_nx rfl e1).trans e2⟩
theorem main (ns : List Int) (hl : ns.length ≤ 63) : ∃ m, F_law [.frz (ns.map D.int)] [] = some (.val (.bl true), m) := by
  have hlen : (rngD 0 5).length = 5 := by
    rw [rng_len]
    decide
  have et : F_Ltape [.frz (ns.map D.int)] [] = some (.tmp [.ref 0, .int 0, .int 0, .ref 1], [.lst (ns.map D.int), .lst AGES]) := by
    have ec := slc63 hl
    unfold F_Ltape runF s_Ltape
    simp only [evSs, evS.eq_1, evS.eq_2, evS.eq_3, evS.eq_4, evS.eq_5, evS.eq_6, evS.eq_7, evS.eq_8, evS.eq_9, evS.eq_10, evS.eq_13, evS.eq_14, evS.eq_15, evS.eq_16, evS.eq_17, evS_for, evS_whl, evE.eq_1, evE.eq_2, evE.eq_3, evE.eq_4, evE.eq_5, evE.eq_6, evE.eq_7, evE.eq_8, evE.eq_9, evE.eq_10, evE.eq_11, evE.eq_12, evE.eq_13, evE.eq_14, evE.eq_15, evE.eq_16, evE.eq_17, evE.eq_18, evE.eq_19, evE.eq_20, evE.eq_21, evE.eq_22, evE.eq_23, evE.eq_24, evE.eq_26, evE.eq_27, evE.eq_28, evE.eq_29, evE_comp, evA, evAnd, evOr, evP, evI, tst, bindT.eq_1, bindT.eq_2, bindTs.eq_1, bindTs.eq_2, stow_val, stow_tmp, truO, bltO, bop_int, bopI, cmp_int, Nb.ix_tup, ix_frz, ix_tmp, len_tup, len_frz, len_tmp, atI_0, atI_1, atI_2, atI_3, ixN_0, ixN_1, ixN_2, Option.bind_some, Option.map_some, Option.bind_none, Option.map_none, List.getElem?_cons_zero, List.getElem?_cons_succ, List.set_cons_zero, List.set_cons_succ, List.length_cons, List.length_nil, List.length_map, if_true, if_false, decide_true, decide_false, Bool.not_true, Bool.not_false, Bool.false_eq_true, reduceIte, List.map_cons, List.map_nil, List.cons_append, List.nil_append, List.replicate, Nat.sub_self, Nat.reduceSub, Nat.reduceAdd, Int.reduceAdd, Int.reducePow, Int.reduceToNat, Int.reduceLE, Int.reduceLT, Nat.reduceLT, Nat.reduceLeDiff, Nat.reducePow, Int.reduceSub, Int.reduceMul, Int.reduceEq, Nat.reduceEqDiff, and_self, true_and, and_true, or_true, true_or, Int.reduceNeg, eq_self, cmp_str, tyO, tyD, isi_ii, isi_is, isi_bi, isi_bs, isi_ib, isi_bb, dec_self, szE, bnd_int, seq_tup, seq_frz, seq_tmp, add_tup, e_Ltape, ec]
    rfl
  obtain ⟨fr, m2, e2⟩ := rounds (ns := ns) (aq := 1) (n := 2) (es := rngD 0 5) (x0 := some (.frz (ns.map D.int))) (by decide) (rngD 0 5) none none none none none none none [.lst (ns.map D.int), .lst AGES, .lst [.ref 0, .int 0, .int 0, .ref 1]] (by
    rw [hlen]
    exact ⟨0, 0, 0, by decide, rfl, rfl, by decide, by decide⟩) rfl
  have hr : inR 5 = true := inR_of (by decide) (by decide)
  refine ⟨m2, ?_⟩
  unfold F_law runF s_law
  rw [e_law]
  have t1 : evS g5 (.asg (.n 1) (.call "_law_tape" [.var 0])) [some (.frz (ns.map D.int)), none, none, none, none, none, none, none, none, none] [] = some (.nx, [some (.frz (ns.map D.int)), some (.ref 2), none, none, none, none, none, none, none, none], [.lst (ns.map D.int), .lst AGES, .lst [.ref 0, .int 0, .int 0, .ref 1]]) := by
    simp only [evSs, evS.eq_1, evS.eq_2, evS.eq_3, evS.eq_4, evS.eq_5, evS.eq_6, evS.eq_7, evS.eq_8, evS.eq_9, evS.eq_10, evS.eq_13, evS.eq_14, evS.eq_15, evS.eq_16, evS.eq_17, evS_for, evS_whl, evE.eq_1, evE.eq_2, evE.eq_3, evE.eq_4, evE.eq_5, evE.eq_6, evE.eq_7, evE.eq_8, evE.eq_9, evE.eq_10, evE.eq_11, evE.eq_12, evE.eq_13, evE.eq_14, evE.eq_15, evE.eq_16, evE.eq_17, evE.eq_18, evE.eq_19, evE.eq_20, evE.eq_21, evE.eq_22, evE.eq_23, evE.eq_24, evE.eq_26, evE.eq_27, evE.eq_28, evE.eq_29, evE_comp, evA, evAnd, evOr, evP, evI, tst, bindT.eq_1, bindT.eq_2, bindTs.eq_1, bindTs.eq_2, stow_val, stow_tmp, truO, bltO, bop_int, bopI, cmp_int, Nb.ix_tup, ix_frz, ix_tmp, len_tup, len_frz, len_tmp, atI_0, atI_1, atI_2, atI_3, ixN_0, ixN_1, ixN_2, Option.bind_some, Option.map_some, Option.bind_none, Option.map_none, List.getElem?_cons_zero, List.getElem?_cons_succ, List.set_cons_zero, List.set_cons_succ, List.length_cons, List.length_nil, List.length_map, if_true, if_false, decide_true, decide_false, Bool.not_true, Bool.not_false, Bool.false_eq_true, reduceIte, List.map_cons, List.map_nil, List.cons_append, List.nil_append, List.replicate, Nat.sub_self, Nat.reduceSub, Nat.reduceAdd, Int.reduceAdd, Int.reducePow, Int.reduceToNat, Int.reduceLE, Int.reduceLT, Nat.reduceLT, Nat.reduceLeDiff, Nat.reducePow, Int.reduceSub, Int.reduceMul, Int.reduceEq, Nat.reduceEqDiff, and_self, true_and, and_true, or_true, true_or, Int.reduceNeg, eq_self, cmp_str, tyO, tyD, isi_ii, isi_is, isi_bi, isi_bs, isi_ib, isi_bb, dec_self, szE, bnd_int, seq_tup, seq_frz, seq_tmp, add_tup, p_5_Ltape, et]
  have t2 : evS g5 (.for_ (.n 2) (.rng1 (.int 5)) bLaw) [some (.frz (ns.map D.int)), some (.ref 2), none, none, none, none, none, none, none, none] [.lst (ns.map D.int), .lst AGES, .lst [.ref 0, .int 0, .int 0, .ref 1]] = some (.nx, fr, m2) := by
    rw [evS_for]
    simp only [evSs, evS.eq_1, evS.eq_2, evS.eq_3, evS.eq_4, evS.eq_5, evS.eq_6, evS.eq_7, evS.eq_8, evS.eq_9, evS.eq_10, evS.eq_13, evS.eq_14, evS.eq_15, evS.eq_16, evS.eq_17, evS_for, evS_whl, evE.eq_1, evE.eq_2, evE.eq_3, evE.eq_4, evE.eq_5, evE.eq_6, evE.eq_7, evE.eq_8, evE.eq_9, evE.eq_10, evE.eq_11, evE.eq_12, evE.eq_13, evE.eq_14, evE.eq_15, evE.eq_16, evE.eq_17, evE.eq_18, evE.eq_19, evE.eq_20, evE.eq_21, evE.eq_22, evE.eq_23, evE.eq_24, evE.eq_26, evE.eq_27, evE.eq_28, evE.eq_29, evE_comp, evA, evAnd, evOr, evP, evI, tst, bindT.eq_1, bindT.eq_2, bindTs.eq_1, bindTs.eq_2, stow_val, stow_tmp, truO, bltO, bop_int, bopI, cmp_int, Nb.ix_tup, ix_frz, ix_tmp, len_tup, len_frz, len_tmp, atI_0, atI_1, atI_2, atI_3, ixN_0, ixN_1, ixN_2, Option.bind_some, Option.map_some, Option.bind_none, Option.map_none, List.getElem?_cons_zero, List.getElem?_cons_succ, List.set_cons_zero, List.set_cons_succ, List.length_cons, List.length_nil, List.length_map, if_true, if_false, decide_true, decide_false, Bool.not_true, Bool.not_false, Bool.false_eq_true, reduceIte, List.map_cons, List.map_nil, List.cons_append, List.nil_append, List.replicate, Nat.sub_self, Nat.reduceSub, Nat.reduceAdd, Int.reduceAdd, Int.reducePow, Int.reduceToNat, Int.reduceLE, Int.reduceLT, Nat.reduceLT, Nat.reduceLeDiff, Nat.reducePow, Int.reduceSub, Int.reduceMul, Int.reduceEq, Nat.reduceEqDiff, and_self, true_and, and_true, or_true, true_or, Int.reduceNeg, eq_self, cmp_str, tyO, tyD, isi_ii, isi_is, isi_bi, isi_bs, isi_ib, isi_bb, dec_self, szE, bnd_int, seq_tup, seq_frz, seq_tmp, add_tup, hr]
    exact e2
  show (evSs g5 [.asg (.n 1) (.call "_law_tape" [.var 0]), .for_ (.n 2) (.rng1 (.int 5)) bLaw, .ret (.bl true)] [some (.frz (ns.map D.int)), none, none, none, none, none, none, none, none, none] []).bind _ = _
  rw [evSs.eq_2, t1, Option.bind_some, evSs.eq_2, t2, Option.bind_some]
  simp only [evSs, evS.eq_1, evS.eq_2, evS.eq_3, evS.eq_4, evS.eq_5, evS.eq_6, evS.eq_7, evS.eq_8, evS.eq_9, evS.eq_10, evS.eq_13, evS.eq_14, evS.eq_15, evS.eq_16, evS.eq_17, evS_for, evS_whl, evE.eq_1, evE.eq_2, evE.eq_3, evE.eq_4, evE.eq_5, evE.eq_6, evE.eq_7, evE.eq_8, evE.eq_9, evE.eq_10, evE.eq_11, evE.eq_12, evE.eq_13, evE.eq_14, evE.eq_15, evE.eq_16, evE.eq_17, evE.eq_18, evE.eq_19, evE.eq_20, evE.eq_21, evE.eq_22, evE.eq_23, evE.eq_24, evE.eq_26, evE.eq_27, evE.eq_28, evE.eq_29, evE_comp, evA, evAnd, evOr, evP, evI, tst, bindT.eq_1, bindT.eq_2, bindTs.eq_1, bindTs.eq_2, stow_val, stow_tmp, truO, bltO, bop_int, bopI, cmp_int, Nb.ix_tup, ix_frz, ix_tmp, len_tup, len_frz, len_tmp, atI_0, atI_1, atI_2, atI_3, ixN_0, ixN_1, ixN_2, Option.bind_some, Option.map_some, Option.bind_none, Option.map_none, List.getElem?_cons_zero, List.getElem?_cons_succ, List.set_cons_zero, List.set_cons_succ, List.length_cons, List.length_nil, List.length_map, if_true, if_false, decide_true, decide_false, Bool.not_true, Bool.not_false, Bool.false_eq_true, reduceIte, List.map_cons, List.map_nil, List.cons_append, List.nil_append, List.replicate, Nat.sub_self, Nat.reduceSub, Nat.reduceAdd, Int.reduceAdd, Int.reducePow, Int.reduceToNat, Int.reduceLE, Int.reduceLT, Nat.reduceLT, Nat.reduceLeDiff, Nat.reducePow, Int.reduceSub, Int.reduceMul, Int.reduceEq, Nat.reduceEqDiff, and_self, true_and, and_true, or_true, true_or, Int.reduceNeg, eq_self, cmp_str, tyO, tyD, isi_ii, isi_is, isi_bi, isi_bs, isi_ib, isi_bb, dec_self, szE, bnd_int, seq_tup, seq_frz, seq_tmp, add_tup]
end LawP

open PySem PySem.W PySem.Calls PyProof.Rows
theorem PySem.Challenge.cw_noteboard_k13_names_known_at_places_holds : PySem.Challenge.rw_noteboard_k13_names_known_at_places.Holds := by
  w_on; o_law
  refine HandSHeadRun.head_any (r := OpenLaw.row PySem.Challenge.rw_noteboard_k13_names_known_at_places) (q := view (OpenLaw.row PySem.Challenge.rw_noteboard_k13_names_known_at_places).prog [21]) (H := Hd.hk) (ob := Hd.ob) (M := 1080) (loose := Hd.loose) (d := HandSHeadRun.topDef (OpenLaw.row PySem.Challenge.rw_noteboard_k13_names_known_at_places).prog 21) (kwd := []) Hd.ob_eq
    (by kernel_rfl) (fun s => by kernel_rfl) Hd.run (by kernel_rfl) (by kernel_rfl) (by kernel_rfl) (by rfl) (by first | assumption | decide +kernel) (by decide +kernel) ⟨rfl, rfl, rfl, rfl, rfl, by decide +kernel⟩ ?hw ?hc
  case hw => w_witness2
  case hc =>
    refine Nb.walk_G (l := PySem.Challenge.rw_noteboard_k13_names_known_at_places) (n := 63) (k := 6) (x := "_law_script") rfl (by decide) (by kernel_rfl) ⟨rfl, by decide, by decide⟩ ?_
    intro w mg fa h Y G hmg0
    obtain ⟨K, KX, c, hx⟩ := Y
    have hmg : mg ("law" : PySem.Str) = some (.ref fa) := by
      have e : (HandSHeadRun.topDef (OpenLaw.row PySem.Challenge.rw_noteboard_k13_names_known_at_places).prog 21).name = ("law" : PySem.Str) := by kernel_rfl
      rw [← e]
      exact hmg0
    obtain ⟨fd, hb, hF⟩ := Hd.facts (P := (PySem.Challenge.rw_noteboard_k13_names_known_at_places).prog) (w := w) KX G hmg c hx
    exact ⟨K, fd, Hd.F_law, KX, hb, fun ns hl => LawP.main ns hl, hF⟩

