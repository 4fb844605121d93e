import PyProof.Rows.All
import Wide.All
import OpenK.AllK
import Wide.FinOn
import HandS.ForMost
import HandS.ForExc
import HandS.Wide
import HandS.Flow
import HandS.RaiseMore
import HandS.TupAny
import HandS.IsInst
import HandS.NoneIn
import HandS.Small
import HandS.Iter
import HandS.Style
import HandS.Defaults
import HandS.Ends
import HandS.HeadEnd
import PyProof.ReprLen
import KE.KUnpackStar
import HandS.FStr
import HandS.Zip
import HandS.SetKeys
import HandS.Text
import HandS.HeadHook1
import HandS.HeadHook2
import HandS.HeadHook3
import KE.DataEq
import HandS.Head0
import HandS.Head1
import HandS.Head2
import HandS.HeadHook4
import PySem.Challenge.RW_anystore_k31_expressions_written
set_option Elab.async false
set_option linter.all false
set_option maxRecDepth 100000
set_option maxHeartbeats 0
/-! PM1: structural values, virtual heap, the relation to HandS's heap. -/
namespace PM
open PySem L2

/-- values by structure; `ref n`: the n-th object of the virtual heap -/
inductive D where
  | non | bl (b : Bool) | int (i : Int) | str (x : Str)
  | tup (xs : List D) | lst (xs : List D) | dct (kvs : List (D × D)) | st (xs : List D)
  | ins (c : Nat) (fs : List (Str × D)) | ref (n : Nat) | fn (i : Nat) | cls (i : Nat) | ty (n : String)
  | scr (ns : List Int)
  deriving Inhabited
/-- mutable objects -/
inductive O where
  | lst (xs : List D) | dct (kvs : List (D × D)) | st (xs : List D) | ins (c : Nat) (fs : List (Str × D))
abbrev VH := List O
def O.toD : O → D
  | .lst xs => .lst xs | .dct kvs => .dct kvs | .st xs => .st xs | .ins c fs => .ins c fs
/-- a reference is looked through -/
def view (vh : VH) : D → D
  | .ref n => match vh[n]? with | some o => o.toD | none => .ref n
  | d => d
def keyD : D → Option Key
  | .int i => some (.inl i) | .str x => some (.inr x) | _ => none

/-- what the law's text leaves: addresses of defs, classes -/
structure Wd where
  K : PySem.W.Frag
  fn : Nat → Addr
  cls : Nat → Addr
/-- what is frozen, where the objects of the virtual heap stand, how many they are -/
structure Gh where
  F : Addr → Prop
  m : Nat → Addr
  n : Nat
abbrev noH : Hp := fun _ => none
/-- what a lock does not touch -/
def stab : HO → Prop
  | .dK _ => False
  | .dT _ => False
  | .frz _ (.dK _) => False
  | .frz _ (.dT _) => False
  | _ => True
def TupF (W : Wd) (g : Gh) (H : Hp) (a : Addr) (vs : List V) : Prop := (g.F a ∧ H a = some (.tup vs)) ∨ SqT W.K noH a vs

mutual
def Rep (W : Wd) (g : Gh) (H : Hp) : D → V → Prop
  | .non, v => v = .non
  | .bl b, v => v = .bl b
  | .int i, v => v = .int i
  | .str x, v => v = .str x
  | .ref n, v => n < g.n ∧ v = .ref (g.m n)
  | .fn i, v => v = .ref (W.fn i)
  | .cls i, v => v = .ref (W.cls i)
  | .ty n, v => v = .ty n
  | .tup xs, v => ∃ a vs, v = .ref a ∧ TupF W g H a vs ∧ Reps W g H xs vs
  | .lst xs, v => ∃ a vs, v = .ref a ∧ g.F a ∧ H a = some (.lst vs) ∧ Reps W g H xs vs
  | .scr ns, v => ∃ a, v = .ref a ∧ ((g.F a ∧ ∃ o, H a = some (.frz o (.lst (ns.map V.int)))) ∨ SqL W.K noH a (ns.map V.int))
  | .dct kvs, v => ∃ a ws, v = .ref a ∧ g.F a ∧ Rd H a (.dK ws) ∧ RepKV W g H kvs ws
  | .st xs, v => ∃ a S n, v = .ref a ∧ g.F a ∧ H a = some (.set S n) ∧ n = xs.length ∧ ∀ i, S i = xs.any (fun d => match d with | .int j => j == i | _ => false)
  | .ins c fs, v => ∃ a dx gs, v = .ref a ∧ g.F a ∧ H a = some (.ins (W.cls c) dx gs) ∧ RepFs W g H fs gs
def Reps (W : Wd) (g : Gh) (H : Hp) : List D → List V → Prop
  | [], vs => vs = []
  | x :: xs, vs => ∃ v r, vs = v :: r ∧ Rep W g H x v ∧ Reps W g H xs r
def RepKV (W : Wd) (g : Gh) (H : Hp) : List (D × D) → List (Key × V) → Prop
  | [], ws => ws = []
  | (k, d) :: r, ws => ∃ k' v s, ws = (k', v) :: s ∧ keyD k = some k' ∧ Rep W g H d v ∧ RepKV W g H r s
def RepFs (W : Wd) (g : Gh) (H : Hp) : List (Str × D) → List (Str × V) → Prop
  | [], ws => ws = []
  | (f, d) :: r, ws => ∃ v s, ws = (f, v) :: s ∧ Rep W g H d v ∧ RepFs W g H r s
end

structure Ext (g : Gh) (H : Hp) (g' : Gh) (H' : Hp) : Prop where
  F : ∀ a, g.F a → g'.F a
  m : ∀ i, i < g.n → g'.m i = g.m i
  n : g.n ≤ g'.n
  keep : ∀ a u, g.F a → stab u → H a = some u → H' a = some u
  dk : ∀ a ws, g.F a → Rd H a (.dK ws) → Rd H' a (.dK ws)
  dt : ∀ a ws, g.F a → Rd H a (.dT ws) → Rd H' a (.dT ws)
theorem Ext.refl (g : Gh) (H : Hp) : Ext g H g H := ⟨fun _ h => h, fun _ _ => rfl, Nat.le_refl _, fun _ _ _ _ h => h, fun _ _ _ h => h, fun _ _ _ h => h⟩
theorem Ext.trans {g H g1 H1 g2 H2} (a : Ext g H g1 H1) (b : Ext g1 H1 g2 H2) : Ext g H g2 H2 :=
  ⟨fun x h => b.F x (a.F x h), fun i h => (b.m i (Nat.lt_of_lt_of_le h a.n)).trans (a.m i h), Nat.le_trans a.n b.n,
   fun x u h p r => b.keep x u (a.F x h) p (a.keep x u h p r), fun x ws h e => b.dk x ws (a.F x h) (a.dk x ws h e), fun x ws h e => b.dt x ws (a.F x h) (a.dt x ws h e)⟩

section
variable {W : Wd} {g g' : Gh} {H H' : Hp}
mutual
theorem Rep.mono (e : Ext g H g' H') : ∀ (d : D) (v : V), Rep W g H d v → Rep W g' H' d v
  | .non, v, h => by simpa only [Rep] using h
  | .bl b, v, h => by simpa only [Rep] using h
  | .int i, v, h => by simpa only [Rep] using h
  | .str x, v, h => by simpa only [Rep] using h
  | .fn i, v, h => by simpa only [Rep] using h
  | .cls i, v, h => by simpa only [Rep] using h
  | .ty n, v, h => by simpa only [Rep] using h
  | .ref n, v, h => by
    simp only [Rep] at h ⊢
    exact ⟨Nat.lt_of_lt_of_le h.1 e.n, by rw [e.m n h.1]; exact h.2⟩
  | .tup xs, v, h => by
    simp only [Rep] at h ⊢
    obtain ⟨a, vs, rfl, t, r⟩ := h
    refine ⟨a, vs, rfl, ?_, Reps.mono e xs vs r⟩
    rcases t with ⟨f, t⟩ | t
    · exact .inl ⟨e.F a f, e.keep a _ f trivial t⟩
    · exact .inr t
  | .lst xs, v, h => by
    simp only [Rep] at h ⊢
    obtain ⟨a, vs, rfl, f, t, r⟩ := h
    exact ⟨a, vs, rfl, e.F a f, e.keep a _ f trivial t, Reps.mono e xs vs r⟩
  | .scr ns, v, h => by
    simp only [Rep] at h ⊢
    obtain ⟨a, rfl, t⟩ := h
    refine ⟨a, rfl, ?_⟩
    rcases t with ⟨f, o, t⟩ | t
    · exact .inl ⟨e.F a f, o, e.keep a _ f trivial t⟩
    · exact .inr t
  | .dct kvs, v, h => by
    simp only [Rep] at h ⊢
    obtain ⟨a, ws, rfl, f, t, r⟩ := h
    exact ⟨a, ws, rfl, e.F a f, e.dk a _ f t, RepKV.mono e kvs ws r⟩
  | .st xs, v, h => by
    simp only [Rep] at h ⊢
    obtain ⟨a, S, n, rfl, f, t, r⟩ := h
    exact ⟨a, S, n, rfl, e.F a f, e.keep a _ f trivial t, r⟩
  | .ins c fs, v, h => by
    simp only [Rep] at h ⊢
    obtain ⟨a, dx, gs, rfl, f, t, r⟩ := h
    exact ⟨a, dx, gs, rfl, e.F a f, e.keep a _ f trivial t, RepFs.mono e fs gs r⟩
theorem Reps.mono (e : Ext g H g' H') : ∀ (ds : List D) (vs : List V), Reps W g H ds vs → Reps W g' H' ds vs
  | [], vs, h => by simpa only [Reps] using h
  | x :: xs, vs, h => by
    simp only [Reps] at h ⊢
    obtain ⟨v, r, rfl, h1, h2⟩ := h
    exact ⟨v, r, rfl, Rep.mono e x v h1, Reps.mono e xs r h2⟩
theorem RepKV.mono (e : Ext g H g' H') : ∀ (ds : List (D × D)) (vs : List (Key × V)), RepKV W g H ds vs → RepKV W g' H' ds vs
  | [], vs, h => by simpa only [RepKV] using h
  | (k, x) :: xs, vs, h => by
    simp only [RepKV] at h ⊢
    obtain ⟨k', v, r, rfl, h0, h1, h2⟩ := h
    exact ⟨k', v, r, rfl, h0, Rep.mono e x v h1, RepKV.mono e xs r h2⟩
theorem RepFs.mono (e : Ext g H g' H') : ∀ (ds : List (Str × D)) (vs : List (Str × V)), RepFs W g H ds vs → RepFs W g' H' ds vs
  | [], vs, h => by simpa only [RepFs] using h
  | (k, x) :: xs, vs, h => by
    simp only [RepFs] at h ⊢
    obtain ⟨v, r, rfl, h1, h2⟩ := h
    exact ⟨v, r, rfl, Rep.mono e x v h1, RepFs.mono e xs r h2⟩
end
end

/-- an object of the virtual heap stands at a -/
def ObjAt (W : Wd) (g : Gh) (H : Hp) (a : Addr) : O → Prop
  | .lst xs => ∃ vs, H a = some (.lst vs) ∧ Reps W g H xs vs
  | .dct kvs => ∃ ws, H a = some (.dK ws) ∧ RepKV W g H kvs ws
  | .st xs => ∃ S n, H a = some (.set S n) ∧ n = xs.length ∧ ∀ i, S i = xs.any (fun d => match d with | .int j => j == i | _ => false)
  | .ins c fs => ∃ dx gs, H a = some (.ins (W.cls c) dx gs) ∧ RepFs W g H fs gs
theorem ObjAt.mono {W g H g' H' a o} (e : Ext g H g' H') (s : H' a = H a) (h : ObjAt W g H a o) : ObjAt W g' H' a o := by
  cases o with
  | lst xs => obtain ⟨vs, h1, h2⟩ := h; exact ⟨vs, s.trans h1, Reps.mono e _ _ h2⟩
  | dct kvs => obtain ⟨vs, h1, h2⟩ := h; exact ⟨vs, s.trans h1, RepKV.mono e _ _ h2⟩
  | st xs => obtain ⟨S, n, h1, h2⟩ := h; exact ⟨S, n, s.trans h1, h2⟩
  | ins c fs => obtain ⟨dx, gs, h1, h2⟩ := h; exact ⟨dx, gs, s.trans h1, RepFs.mono e _ _ h2⟩
theorem ObjAt.some {W g H a o} (h : ObjAt W g H a o) : H a ≠ none := by
  cases o with
  | lst xs => obtain ⟨vs, h1, h2⟩ := h; rw [h1]; exact fun e => by cases e
  | dct kvs => obtain ⟨vs, h1, h2⟩ := h; rw [h1]; exact fun e => by cases e
  | st xs => obtain ⟨S, n, h1, h2⟩ := h; rw [h1]; exact fun e => by cases e
  | ins c fs => obtain ⟨dx, gs, h1, h2⟩ := h; rw [h1]; exact fun e => by cases e

/-- what the body has to leave as it was -/
structure Con where
  H0 : Hp
  Fr : Addr → Prop
  Pd : Addr → Prop
structure RelH (W : Wd) (C : Con) (g : Gh) (vh : VH) (H : Hp) : Prop where
  len : vh.length = g.n
  vh : ∀ (i : Nat) o, vh[i]? = some o → ObjAt W g H (g.m i) o
  inj : ∀ i j, i < g.n → j < g.n → g.m i = g.m j → i = j
  nf : ∀ i, i < g.n → ¬ g.F (g.m i)
  ff : ∀ a, g.F a → H a ≠ none
  fr : ∀ a, C.Fr a → H a = C.H0 a ∧ H a ≠ none
  nfr : ∀ i, i < g.n → ¬ C.Fr (g.m i)
  pd : ∀ a, C.Pd a → C.Fr a ∧ ¬ g.F a
def RelS (W : Wd) (g : Gh) (H : Hp) (sl : List (Option D)) (σ : St) : Prop :=
  sl.length = σ.length ∧ ∀ (i : Nat) d, sl[i]? = some (some d) → ∃ v, σ[i]? = some (some v) ∧ Rep W g H d v
theorem RelS.mono {W g H g' H' sl σ} (e : Ext g H g' H') (h : RelS W g H sl σ) : RelS W g' H' sl σ :=
  ⟨h.1, fun i d x => let ⟨v, a, b⟩ := h.2 i d x; ⟨v, a, Rep.mono e d v b⟩⟩
theorem RelS.set {W g H sl σ} {i : Nat} {d : D} {v : V} (h : RelS W g H sl σ) (r : Rep W g H d v) : RelS W g H (sl.set i (some d)) (σ.set i (some v)) := by
  refine ⟨by simpa using h.1, fun j e x => ?_⟩
  by_cases hj : i = j
  · subst hj
    have hl : i < sl.length := by
      have := (List.getElem?_eq_some_iff.mp x).1
      simpa using this
    rw [List.getElem?_set_self hl] at x
    cases x
    exact ⟨v, by rw [List.getElem?_set_self (by rw [← h.1]; exact hl)], r⟩
  · rw [List.getElem?_set_ne hj] at x
    obtain ⟨w, a, b⟩ := h.2 j e x
    exact ⟨w, by rw [List.getElem?_set_ne hj]; exact a, b⟩
/-- slots are forgotten -/
theorem RelS.weak {W g H sl sl' σ} (h : RelS W g H sl σ) (hl : sl'.length = sl.length) (w : ∀ (i : Nat) d, sl'[i]? = some (some d) → sl[i]? = some (some d)) : RelS W g H sl' σ :=
  ⟨hl.trans h.1, fun i d x => h.2 i d (w i d x)⟩

/-! ### results -/
/-- an exception: its class, its own fields -/
structure XV where
  cls : Nat
  fs : List (Str × D)
inductive R (α : Type) where
  | ok (a : α) (vh : VH)
  | exc (x : XV) (vh : VH)
  | bad
inductive EV where
  | v (d : D)
  | f (o : O)
def EV.d : EV → D
  | .v d => d
  | .f o => o.toD
abbrev Sl := List (Option D)
abbrev EF := Sl → VH → R EV
abbrev TF := Sl → VH → R Bool
abbrev Den := List D → VH → R D

def RepE (W : Wd) (C : Con) (g : Gh) (H : Hp) : EV → V → Prop
  | .v d, v => Rep W g H d v
  | .f o, v => ∃ p, v = .ref p ∧ ObjAt W g H p o ∧ ¬ g.F p ∧ (∀ i, i < g.n → g.m i ≠ p) ∧ ¬ C.Fr p
def XRep (W : Wd) (g : Gh) (H : Hp) (x : XV) (c : Value) (od : Option Addr) : Prop :=
  c = .ref (W.cls x.cls) ∧ match od with
    | none => x.fs = []
    | some d => ∃ gs, g.F d ∧ H d = some (.xd gs) ∧ RepFs W g H x.fs gs

def Gh.add (g : Gh) (p : Addr) : Gh := ⟨fun a => g.F a ∨ a = p, g.m, g.n⟩
def Gh.put (g : Gh) (p : Addr) : Gh := ⟨g.F, fun i => if i = g.n then p else g.m i, g.n + 1⟩
theorem Ext.add (g : Gh) (H : Hp) (p : Addr) : Ext g H (g.add p) H := ⟨fun _ h => .inl h, fun _ _ => rfl, Nat.le_refl _, fun _ _ _ _ h => h, fun _ _ _ h => h, fun _ _ _ h => h⟩
theorem Ext.putG (g : Gh) (H : Hp) (p : Addr) : Ext g H (g.put p) H :=
  ⟨fun _ h => h, fun i h => if_neg (Nat.ne_of_lt h), Nat.le_succ _, fun _ _ _ _ h => h, fun _ _ _ h => h, fun _ _ _ h => h⟩
section
variable {W : Wd} {C : Con} {g g' : Gh} {vh : VH} {H H' : Hp}
theorem RelH.add {p : Addr} {o : O} (h : RelH W C g vh H) (ho : ObjAt W g H p o) (np : ∀ i, i < g.n → g.m i ≠ p) (nfr : ¬ C.Fr p) : RelH W C (g.add p) vh H where
  len := h.len
  vh := fun i o e => (h.vh i o e).mono (Ext.add g H p) rfl
  inj := h.inj
  nf := fun i hi hh => hh.elim (h.nf i hi) (np i hi)
  ff := fun a ha => ha.elim (h.ff a) fun e => by rw [e]; exact ho.some
  fr := h.fr
  nfr := h.nfr
  pd := fun a ha => ⟨(h.pd a ha).1, fun f => f.elim (h.pd a ha).2 fun e => nfr (by rw [← e]; exact (h.pd a ha).1)⟩
theorem ObjAt.rep {p : Addr} {o : O} (ho : ObjAt W g H p o) (f : g.F p) : Rep W g H o.toD (.ref p) := by
  cases o with
  | lst xs => obtain ⟨vs, h1, h2⟩ := ho; simp only [O.toD, Rep]; exact ⟨p, vs, rfl, f, h1, h2⟩
  | dct kvs => obtain ⟨vs, h1, h2⟩ := ho; simp only [O.toD, Rep]; exact ⟨p, vs, rfl, f, .inl h1, h2⟩
  | st xs => obtain ⟨S, n, h1, h2⟩ := ho; simp only [O.toD, Rep]; exact ⟨p, S, n, rfl, f, h1, h2⟩
  | ins c fs => obtain ⟨dx, gs, h1, h2⟩ := ho; simp only [O.toD, Rep]; exact ⟨p, dx, gs, rfl, f, h1, h2⟩
/-- what has come is frozen -/
theorem RepE.freeze {ev : EV} {v : V} (h : RelH W C g vh H) (r : RepE W C g H ev v) : ∃ g', RelH W C g' vh H ∧ Ext g H g' H ∧ Rep W g' H ev.d v := by
  cases ev with
  | v d => exact ⟨g, h, Ext.refl g H, r⟩
  | f o =>
    obtain ⟨p, rfl, ho, nf, np, nfr⟩ := r
    exact ⟨g.add p, h.add ho np nfr, Ext.add g H p, (ho.mono (Ext.add g H p) rfl).rep (.inr rfl)⟩
/-- .. or laid onto the virtual heap -/
theorem RelH.put {p : Addr} {o : O} (h : RelH W C g vh H) (ho : ObjAt W g H p o) (nf : ¬ g.F p) (np : ∀ i, i < g.n → g.m i ≠ p) (nfr : ¬ C.Fr p) : RelH W C (g.put p) (vh ++ [o]) H where
  len := by simp [Gh.put, h.len]
  vh := fun i q e => by
    by_cases hi : i < vh.length
    · rw [List.getElem?_append_left hi] at e
      have hi' : i ≠ g.n := by rw [← h.len]; omega
      show ObjAt W (g.put p) H (if i = g.n then p else g.m i) q
      rw [if_neg hi']
      exact (h.vh i q e).mono (Ext.putG g H p) rfl
    · rw [List.getElem?_append_right (by omega)] at e
      have h0 : i - vh.length = 0 := by
        have := (List.getElem?_eq_some_iff.mp e).1
        simpa using this
      rw [h0] at e
      cases e
      have hi' : i = g.n := by rw [← h.len]; omega
      show ObjAt W (g.put p) H (if i = g.n then p else g.m i) o
      rw [if_pos hi']
      exact ho.mono (Ext.putG g H p) rfl
  inj := fun i j hi hj e => by
    have hi : i < g.n + 1 := hi
    have hj : j < g.n + 1 := hj
    have e : (if i = g.n then p else g.m i) = (if j = g.n then p else g.m j) := e
    by_cases h1 : i = g.n
    · by_cases h2 : j = g.n
      · omega
      · rw [if_pos h1, if_neg h2] at e
        exact absurd e.symm (np j (by omega))
    · by_cases h2 : j = g.n
      · rw [if_neg h1, if_pos h2] at e
        exact absurd e (np i (by omega))
      · rw [if_neg h1, if_neg h2] at e
        exact h.inj i j (by omega) (by omega) e
  nf := fun i hi => by
    have hi : i < g.n + 1 := hi
    show ¬ g.F (if i = g.n then p else g.m i)
    by_cases h1 : i = g.n
    · rw [if_pos h1]; exact nf
    · rw [if_neg h1]; exact h.nf i (by omega)
  ff := h.ff
  fr := h.fr
  nfr := fun i hi => by
    have hi : i < g.n + 1 := hi
    show ¬ C.Fr (if i = g.n then p else g.m i)
    by_cases h1 : i = g.n
    · rw [if_pos h1]; exact nfr
    · rw [if_neg h1]; exact h.nfr i (by omega)
  pd := h.pd
/-- a new object stands at p (as yet nobody's) -/
theorem Ext.new {p : Addr} {u : HO} (h : RelH W C g vh H) (np : H p = none) : Ext g H g (upd H p u) := by
  have ne : ∀ a, g.F a → a ≠ p := fun a f e => h.ff a f (by rw [e]; exact np)
  exact ⟨fun _ x => x, fun _ _ => rfl, Nat.le_refl _, fun a w f _ r => by rw [upd_ne (ne a f)]; exact r, fun a w f r => by unfold Rd at r ⊢; rw [upd_ne (ne a f)]; exact r,
    fun a w f r => by unfold Rd at r ⊢; rw [upd_ne (ne a f)]; exact r⟩
theorem RelH.mp (h : RelH W C g vh H) {i : Nat} (hi : i < g.n) : H (g.m i) ≠ none := by
  have : i < vh.length := by rw [h.len]; exact hi
  exact (h.vh i _ (List.getElem?_eq_getElem this)).some
theorem RelH.new {p : Addr} {u : HO} (h : RelH W C g vh H) (np : H p = none) : RelH W C g vh (upd H p u) where
  len := h.len
  vh := fun i o e => by
    have hi : i < g.n := by rw [← h.len]; exact (List.getElem?_eq_some_iff.mp e).1
    exact (h.vh i o e).mono (Ext.new h np) (upd_ne fun z => h.mp hi (by rw [z]; exact np))
  inj := h.inj
  nf := h.nf
  ff := fun a ha => by rw [upd_ne fun z => h.ff a ha (by rw [z]; exact np)]; exact h.ff a ha
  fr := fun a ha => by
    have h0 := h.fr a ha
    rw [upd_ne fun z => h0.2 (by rw [z]; exact np)]
    exact h0
  nfr := h.nfr
  pd := h.pd
theorem RelH.free {p : Addr} (h : RelH W C g vh H) (np : H p = none) : ¬ g.F p ∧ (∀ i, i < g.n → g.m i ≠ p) ∧ ¬ C.Fr p :=
  ⟨fun f => h.ff p f np, fun i hi e => h.mp hi (by rw [e]; exact np), fun f => (h.fr p f).2 np⟩
/-- the i-th object is written -/
theorem Ext.write {i : Nat} {u : HO} (h : RelH W C g vh H) (hi : i < g.n) : Ext g H g (upd H (g.m i) u) := by
  have ne : ∀ a, g.F a → a ≠ g.m i := fun a f e => h.nf i hi (by rw [← e]; exact f)
  exact ⟨fun _ x => x, fun _ _ => rfl, Nat.le_refl _, fun a w f _ r => by rw [upd_ne (ne a f)]; exact r, fun a w f r => by unfold Rd at r ⊢; rw [upd_ne (ne a f)]; exact r,
    fun a w f r => by unfold Rd at r ⊢; rw [upd_ne (ne a f)]; exact r⟩
theorem RelH.write {i : Nat} {u : HO} {o : O} (h : RelH W C g vh H) (hi : i < g.n) (ho : ObjAt W g (upd H (g.m i) u) (g.m i) o) : RelH W C g (vh.set i o) (upd H (g.m i) u) where
  len := by simpa using h.len
  vh := fun j q e => by
    by_cases hj : i = j
    · subst hj
      rw [List.getElem?_set_self (by rw [h.len]; exact hi)] at e
      cases e
      exact ho
    · rw [List.getElem?_set_ne hj] at e
      have hj' : j < g.n := by rw [← h.len]; exact (List.getElem?_eq_some_iff.mp e).1
      exact (h.vh j q e).mono (Ext.write h hi) (upd_ne fun z => hj (h.inj i j hi hj' z.symm))
  inj := h.inj
  nf := h.nf
  ff := fun a ha => by rw [upd_ne fun z => h.nf i hi (by rw [← z]; exact ha)]; exact h.ff a ha
  fr := fun a ha => by
    rw [upd_ne fun z => h.nfr i hi (by rw [← z]; exact ha)]
    exact h.fr a ha
  nfr := h.nfr
  pd := h.pd
end
end PM

/-! PM2: the judgements; expressions, tests, statements without loops and calls. -/
namespace PM
open PySem L2

structure Cz (W : Wd) (Wx : WX) (k : Nat) (X : Cx) : Prop where
  K : X.K = W.K
  calm : X.calm = true
  tk : Takes X Wx
  rm : Room k X.A
  gd : X.A.guards = some []
  own : PassesOwn (model X.prog X.w) X.A X.env X.xe
  nd : X.N.Nodup

def PostE (W : Wd) (C : Con) (Wx : WX) (g0 : Gh) (H0 : Hp) (σ : St) (sl : Sl) (r : R EV) (Q : VK) : Prop :=
  match r with
  | .bad => False
  | .ok e vh => ∀ g H v, RelH W C g vh H → RelS W g H sl σ → Ext g0 H0 g H → RepE W C g H e v → Q v H
  | .exc x vh => ∀ g H c od, RelH W C g vh H → RelS W g H sl σ → Ext g0 H0 g H → XRep W g H x c od → Wx c od σ H
def TDE (W : Wd) (C : Con) (Wx : WX) (φ : EF) : TE := fun σ H Q => ∃ g sl vh, RelH W C g vh H ∧ RelS W g H sl σ ∧ PostE W C Wx g H σ sl (φ sl vh) Q
def DE (W : Wd) (Wx : WX) (X : Cx) (e : Expr) (φ : EF) : Prop := ∀ C, PE X e (TDE W C Wx φ)

def PostT (W : Wd) (C : Con) (Wx : WX) (g0 : Gh) (H0 : Hp) (σ : St) (sl : Sl) (r : R Bool) (Q : Bool → Hp → Prop) : Prop :=
  match r with
  | .bad => False
  | .ok b vh => ∀ g H, RelH W C g vh H → RelS W g H sl σ → Ext g0 H0 g H → Q b H
  | .exc x vh => ∀ g H c od, RelH W C g vh H → RelS W g H sl σ → Ext g0 H0 g H → XRep W g H x c od → Wx c od σ H
def TDT (W : Wd) (C : Con) (Wx : WX) (φ : TF) : TT := fun σ H Q => ∃ g sl vh, RelH W C g vh H ∧ RelS W g H sl σ ∧ PostT W C Wx g H σ sl (φ sl vh) Q
def DT (W : Wd) (Wx : WX) (X : Cx) (e : Expr) (φ : TF) : Prop := ∀ C, PT X e (TDT W C Wx φ)

/-! ### combinators -/
def eb (φ : EF) (k : D → EF) : EF := fun sl vh => match φ sl vh with
  | .ok e vh' => k e.d sl vh'
  | .exc x vh' => .exc x vh'
  | .bad => .bad
def tb (φ : TF) (k : Bool → EF) : EF := fun sl vh => match φ sl vh with
  | .ok b vh' => k b sl vh'
  | .exc x vh' => .exc x vh'
  | .bad => .bad
def tbb (φ : TF) (k : Bool → TF) : TF := fun sl vh => match φ sl vh with
  | .ok b vh' => k b sl vh'
  | .exc x vh' => .exc x vh'
  | .bad => .bad
def ebt (φ : EF) (k : D → TF) : TF := fun sl vh => match φ sl vh with
  | .ok e vh' => k e.d sl vh'
  | .exc x vh' => .exc x vh'
  | .bad => .bad
def lift : Option EV → VH → R EV
  | some e, vh => .ok e vh
  | none, _ => .bad
def e1 (p : D → Option EV) (a : EF) : EF := eb a fun x _ vh => lift (p (view vh x)) vh
def e2 (p : D → D → Option EV) (a b : EF) : EF := eb a fun x => eb b fun y _ vh => lift (p (view vh x) (view vh y)) vh
def e3 (p : D → D → D → Option EV) (a b c : EF) : EF := eb a fun x => eb b fun y => eb c fun z _ vh => lift (p (view vh x) (view vh y) (view vh z)) vh
def eVar (i : Nat) : EF := fun sl vh => match sl[i]? with | some (some d) => .ok (.v d) vh | _ => .bad
def eCon (d : D) : EF := fun _ vh => .ok (.v d) vh

section
variable {W : Wd} {C : Con} {Wx : WX} {X : Cx} {g g0 : Gh} {H H0 : Hp} {σ : St} {sl : Sl} {vh : VH}

theorem TDE.bind {φ : EF} {k : D → EF} {Q : VK} (h : RelH W C g vh H) (hs : RelS W g H sl σ) (e0 : Ext g0 H0 g H) (q : PostE W C Wx g0 H0 σ sl (eb φ k sl vh) Q) :
    TDE W C Wx φ σ H (fun v1 H1 => ∃ g1 vh1 d1, RelH W C g1 vh1 H1 ∧ RelS W g1 H1 sl σ ∧ Ext g0 H0 g1 H1 ∧ Ext g H g1 H1 ∧ Rep W g1 H1 d1 v1 ∧ PostE W C Wx g0 H0 σ sl (k d1 sl vh1) Q) := by
  refine ⟨g, sl, vh, h, hs, ?_⟩
  unfold eb at q
  cases r : φ sl vh with
  | bad => rw [r] at q; exact q
  | ok e vh1 =>
    rw [r] at q
    intro g1 H1 v1 h1 s1 x1 r1
    obtain ⟨g2, h2, x2, r2⟩ := r1.freeze h1
    exact ⟨g2, vh1, e.d, h2, s1.mono x2, (e0.trans x1).trans x2, x1.trans x2, r2, q⟩
  | exc x vh1 =>
    rw [r] at q
    exact fun g1 H1 c od h1 s1 x1 r1 => q g1 H1 c od h1 s1 (e0.trans x1) r1
theorem TDE.bindT {φ : EF} {k : D → TF} {Q : Bool → Hp → Prop} (h : RelH W C g vh H) (hs : RelS W g H sl σ) (e0 : Ext g0 H0 g H) (q : PostT W C Wx g0 H0 σ sl (ebt φ k sl vh) Q) :
    TDE W C Wx φ σ H (fun v1 H1 => ∃ g1 vh1 d1, RelH W C g1 vh1 H1 ∧ RelS W g1 H1 sl σ ∧ Ext g0 H0 g1 H1 ∧ Ext g H g1 H1 ∧ Rep W g1 H1 d1 v1 ∧ PostT W C Wx g0 H0 σ sl (k d1 sl vh1) Q) := by
  refine ⟨g, sl, vh, h, hs, ?_⟩
  unfold ebt at q
  cases r : φ sl vh with
  | bad => rw [r] at q; exact q
  | ok e vh1 =>
    rw [r] at q
    intro g1 H1 v1 h1 s1 x1 r1
    obtain ⟨g2, h2, x2, r2⟩ := r1.freeze h1
    exact ⟨g2, vh1, e.d, h2, s1.mono x2, (e0.trans x1).trans x2, x1.trans x2, r2, q⟩
  | exc x vh1 =>
    rw [r] at q
    exact fun g1 H1 c od h1 s1 x1 r1 => q g1 H1 c od h1 s1 (e0.trans x1) r1
theorem TDT.bind {φ : TF} {k : Bool → EF} {Q : VK} (h : RelH W C g vh H) (hs : RelS W g H sl σ) (e0 : Ext g0 H0 g H) (q : PostE W C Wx g0 H0 σ sl (tb φ k sl vh) Q) :
    TDT W C Wx φ σ H (fun b H1 => ∃ g1 vh1, RelH W C g1 vh1 H1 ∧ RelS W g1 H1 sl σ ∧ Ext g0 H0 g1 H1 ∧ PostE W C Wx g0 H0 σ sl (k b sl vh1) Q) := by
  refine ⟨g, sl, vh, h, hs, ?_⟩
  unfold tb at q
  cases r : φ sl vh with
  | bad => rw [r] at q; exact q
  | ok b vh1 =>
    rw [r] at q
    exact fun g1 H1 h1 s1 x1 => ⟨g1, vh1, h1, s1, e0.trans x1, q⟩
  | exc x vh1 =>
    rw [r] at q
    exact fun g1 H1 c od h1 s1 x1 r1 => q g1 H1 c od h1 s1 (e0.trans x1) r1
theorem TDT.bindT {φ : TF} {k : Bool → TF} {Q : Bool → Hp → Prop} (h : RelH W C g vh H) (hs : RelS W g H sl σ) (e0 : Ext g0 H0 g H) (q : PostT W C Wx g0 H0 σ sl (tbb φ k sl vh) Q) :
    TDT W C Wx φ σ H (fun b H1 => ∃ g1 vh1, RelH W C g1 vh1 H1 ∧ RelS W g1 H1 sl σ ∧ Ext g0 H0 g1 H1 ∧ PostT W C Wx g0 H0 σ sl (k b sl vh1) Q) := by
  refine ⟨g, sl, vh, h, hs, ?_⟩
  unfold tbb at q
  cases r : φ sl vh with
  | bad => rw [r] at q; exact q
  | ok b vh1 =>
    rw [r] at q
    exact fun g1 H1 h1 s1 x1 => ⟨g1, vh1, h1, s1, e0.trans x1, q⟩
  | exc x vh1 =>
    rw [r] at q
    exact fun g1 H1 c od h1 s1 x1 r1 => q g1 H1 c od h1 s1 (e0.trans x1) r1
/-- from a Post at another base -/
theorem PostE.at {r : R EV} {Q : VK} (h : RelH W C g vh H) (hs : RelS W g H sl σ) (e0 : Ext g0 H0 g H) (q : PostE W C Wx g0 H0 σ sl r Q) : PostE W C Wx g H σ sl r Q := by
  cases r with
  | bad => exact q
  | ok e vh1 => exact fun g1 H1 v h1 s1 x1 r1 => q g1 H1 v h1 s1 (e0.trans x1) r1
  | exc x vh1 => exact fun g1 H1 c od h1 s1 x1 r1 => q g1 H1 c od h1 s1 (e0.trans x1) r1
theorem TDE.go {φ : EF} {Q : VK} (h : RelH W C g vh H) (hs : RelS W g H sl σ) (e0 : Ext g0 H0 g H) (q : PostE W C Wx g0 H0 σ sl (φ sl vh) Q) : TDE W C Wx φ σ H Q := ⟨g, sl, vh, h, hs, q.at h hs e0⟩
theorem TDT.go {φ : TF} {Q : Bool → Hp → Prop} (h : RelH W C g vh H) (hs : RelS W g H sl σ) (e0 : Ext g0 H0 g H) (q : PostT W C Wx g0 H0 σ sl (φ sl vh) Q) : TDT W C Wx φ σ H Q := by
  refine ⟨g, sl, vh, h, hs, ?_⟩
  cases r : φ sl vh with
  | bad => rw [r] at q; exact q
  | ok e vh1 => rw [r] at q; exact fun g1 H1 h1 s1 x1 => q g1 H1 h1 s1 (e0.trans x1)
  | exc x vh1 => rw [r] at q; exact fun g1 H1 c od h1 s1 x1 r1 => q g1 H1 c od h1 s1 (e0.trans x1) r1
theorem TDE.mono {φ : EF} {Q Q' : VK} (t : TDE W C Wx φ σ H Q) (m : ∀ v H, Q v H → Q' v H) : TDE W C Wx φ σ H Q' := by
  obtain ⟨g, sl, vh, h, hs, q⟩ := t
  refine ⟨g, sl, vh, h, hs, ?_⟩
  cases r : φ sl vh with
  | bad => rw [r] at q; exact q
  | ok e vh1 => rw [r] at q; exact fun g1 H1 v h1 s1 x1 r1 => m _ _ (q g1 H1 v h1 s1 x1 r1)
  | exc x vh1 => rw [r] at q; exact q
theorem TDT.mono {φ : TF} {Q Q' : Bool → Hp → Prop} (t : TDT W C Wx φ σ H Q) (m : ∀ v H, Q v H → Q' v H) : TDT W C Wx φ σ H Q' := by
  obtain ⟨g, sl, vh, h, hs, q⟩ := t
  refine ⟨g, sl, vh, h, hs, ?_⟩
  cases r : φ sl vh with
  | bad => rw [r] at q; exact q
  | ok e vh1 => rw [r] at q; exact fun g1 H1 h1 s1 x1 => m _ _ (q g1 H1 h1 s1 x1)
  | exc x vh1 => rw [r] at q; exact q
/-- a weaker reading is enough -/
theorem pe_imp {e : Expr} {t t' : TE} (h : PE X e t) (i : ∀ σ H Q, t' σ H Q → t σ H Q) : PE X e t' := ⟨fun pins s σ H Q I q => h.run pins s σ H Q I (i σ H Q q)⟩
theorem pt_imp {e : Expr} {t t' : TT} (h : PT X e t) (i : ∀ σ H Q, t' σ H Q → t σ H Q) : PT X e t' := ⟨fun pins s σ H Q I q => h.run pins s σ H Q I (i σ H Q q)⟩
theorem ps_imp {st : Stmt} {t t' : TS} (h : PS X st t) (i : ∀ D σ H, t' D σ H → t D σ H) : PS X st t' := ⟨fun pins s σ H D I q => h.run pins s σ H D I (i D σ H q)⟩
theorem pss_imp {st : List Stmt} {t t' : TS} (h : PSs X st t) (i : ∀ D σ H, t' D σ H → t D σ H) : PSs X st t' := ⟨fun pins s σ H D I q => h.run pins s σ H D I (i D σ H q)⟩

/-! ### values seen -/
def RepW (W : Wd) (g : Gh) (H : Hp) (d : D) (v : V) : Prop := Rep W g H d v ∨ ∃ o a, d = O.toD o ∧ v = .ref a ∧ ObjAt W g H a o
theorem RelH.view (h : RelH W C g vh H) {d : D} {v : V} (r : Rep W g H d v) : RepW W g H (view vh d) v := by
  cases d with
  | ref n =>
    simp only [Rep] at r
    obtain ⟨hn, rfl⟩ := r
    have hl : n < vh.length := by rw [h.len]; exact hn
    have e : PM.view vh (.ref n) = (vh[n]).toD := by simp only [PM.view, List.getElem?_eq_getElem hl]
    rw [e]
    exact .inr ⟨_, _, rfl, rfl, h.vh n _ (List.getElem?_eq_getElem hl)⟩
  | _ => exact .inl r
theorem RepW.mono {g' : Gh} {H' : Hp} {d : D} {v : V} (e : Ext g H g' H') (r : Rep W g H d v) : RepW W g' H' d v := .inl (Rep.mono e d v r)
theorem RepW.int {i : Int} {v : V} (r : RepW W g H (.int i) v) : v = .int i := by
  rcases r with r | ⟨o, a, e, _⟩
  · simpa only [Rep] using r
  · cases o <;> cases e
theorem RepW.str {i : Str} {v : V} (r : RepW W g H (.str i) v) : v = .str i := by
  rcases r with r | ⟨o, a, e, _⟩
  · simpa only [Rep] using r
  · cases o <;> cases e
theorem RepW.bl {i : Bool} {v : V} (r : RepW W g H (.bl i) v) : v = .bl i := by
  rcases r with r | ⟨o, a, e, _⟩
  · simpa only [Rep] using r
  · cases o <;> cases e
theorem RepW.non {v : V} (r : RepW W g H .non v) : v = .non := by
  rcases r with r | ⟨o, a, e, _⟩
  · simpa only [Rep] using r
  · cases o <;> cases e
theorem sqL_noH {K : PySem.W.Frag} {a : Addr} {xs : List V} (h : SqL K noH a xs) : SqL K H a xs := by
  rcases h with (h | ⟨o, h⟩) | h
  · cases h
  · cases h
  · exact .inr h
theorem sqT_noH {K : PySem.W.Frag} {a : Addr} {xs : List V} (h : SqT K noH a xs) : SqT K H a xs := by
  rcases h with (h | ⟨o, h⟩) | h
  · cases h
  · cases h
  · exact .inr h
theorem TupF.sq {a : Addr} {vs : List V} (h : TupF W g H a vs) : SqT W.K H a vs := h.elim (fun x => SqT.of x.2) sqT_noH
theorem RepW.lst {xs : List D} {v : V} (r : RepW W g H (.lst xs) v) : ∃ a vs, v = .ref a ∧ H a = some (.lst vs) ∧ Reps W g H xs vs := by
  rcases r with r | ⟨o, a, e, rfl, ho⟩
  · simp only [Rep] at r
    obtain ⟨a, vs, rfl, f, t, r⟩ := r
    exact ⟨a, vs, rfl, t, r⟩
  · cases o <;> cases e
    obtain ⟨vs, h1, h2⟩ := ho
    exact ⟨a, vs, rfl, h1, h2⟩
theorem RepW.scr {xs : List Int} {v : V} (r : RepW W g H (.scr xs) v) : ∃ a, v = .ref a ∧ SqL W.K H a (xs.map V.int) := by
  rcases r with r | ⟨o, a, e, rfl, ho⟩
  · simp only [Rep] at r
    obtain ⟨a, rfl, t⟩ := r
    refine ⟨a, rfl, ?_⟩
    rcases t with ⟨f, o, t⟩ | t
    · exact .inl (.inr ⟨o, t⟩)
    · exact sqL_noH t
  · cases o <;> cases e
theorem RepW.tup {xs : List D} {v : V} (r : RepW W g H (.tup xs) v) : ∃ a vs, v = .ref a ∧ SqT W.K H a vs ∧ Reps W g H xs vs := by
  rcases r with r | ⟨o, a, e, rfl, ho⟩
  · simp only [Rep] at r
    obtain ⟨a, vs, rfl, t, r⟩ := r
    exact ⟨a, vs, rfl, t.sq, r⟩
  · cases o <;> cases e
theorem RepW.dct {xs : List (D × D)} {v : V} (r : RepW W g H (.dct xs) v) : ∃ a ws, v = .ref a ∧ Rd H a (.dK ws) ∧ RepKV W g H xs ws := by
  rcases r with r | ⟨o, a, e, rfl, ho⟩
  · simp only [Rep] at r
    obtain ⟨a, vs, rfl, f, t, r⟩ := r
    exact ⟨a, vs, rfl, t, r⟩
  · cases o <;> cases e
    obtain ⟨vs, h1, h2⟩ := ho
    exact ⟨a, vs, rfl, .inl h1, h2⟩
theorem RepW.ins {c : Nat} {fs : List (Str × D)} {v : V} (r : RepW W g H (.ins c fs) v) : ∃ a dx gs, v = .ref a ∧ H a = some (.ins (W.cls c) dx gs) ∧ RepFs W g H fs gs := by
  rcases r with r | ⟨o, a, e, rfl, ho⟩
  · simp only [Rep] at r
    obtain ⟨a, dx, gs, rfl, f, t, r⟩ := r
    exact ⟨a, dx, gs, rfl, t, r⟩
  · cases o <;> cases e
    obtain ⟨dx, gs, h1, h2⟩ := ho
    exact ⟨a, dx, gs, rfl, h1, h2⟩

/-! ### lists of values -/
theorem Reps.length : ∀ {xs : List D} {vs : List V}, Reps W g H xs vs → xs.length = vs.length
  | [], vs, h => by simp only [Reps] at h; subst h; rfl
  | x :: xs, vs, h => by
    simp only [Reps] at h
    obtain ⟨v, r, rfl, _, h⟩ := h
    simp [Reps.length h]
theorem Reps.get : ∀ {xs : List D} {vs : List V}, Reps W g H xs vs → ∀ {i : Nat} {d : D}, xs[i]? = some d → ∃ v, vs[i]? = some v ∧ Rep W g H d v
  | [], vs, h, i, d, e => by simp at e
  | x :: xs, vs, h, i, d, e => by
    simp only [Reps] at h
    obtain ⟨v, r, rfl, h1, h2⟩ := h
    cases i with
    | zero => simp at e; subst e; exact ⟨v, rfl, h1⟩
    | succ i => simpa using Reps.get h2 (by simpa using e)
theorem Reps.append : ∀ {xs ys : List D} {vs ws : List V}, Reps W g H xs vs → Reps W g H ys ws → Reps W g H (xs ++ ys) (vs ++ ws)
  | [], ys, vs, ws, h, k => by simp only [Reps] at h; subst h; exact k
  | x :: xs, ys, vs, ws, h, k => by
    simp only [Reps] at h
    obtain ⟨v, r, rfl, h1, h2⟩ := h
    simp only [List.cons_append, Reps]
    exact ⟨v, r ++ ws, rfl, h1, Reps.append h2 k⟩
theorem Reps.take : ∀ {xs : List D} {vs : List V} (n : Nat), Reps W g H xs vs → Reps W g H (xs.take n) (vs.take n)
  | xs, vs, 0, h => by simp [Reps]
  | [], vs, n + 1, h => by simp only [Reps] at h; subst h; simp [Reps]
  | x :: xs, vs, n + 1, h => by
    simp only [Reps] at h
    obtain ⟨v, r, rfl, h1, h2⟩ := h
    simp only [List.take_succ_cons, Reps]
    exact ⟨v, _, rfl, h1, Reps.take n h2⟩
theorem Reps.drop : ∀ {xs : List D} {vs : List V} (n : Nat), Reps W g H xs vs → Reps W g H (xs.drop n) (vs.drop n)
  | xs, vs, 0, h => by simpa using h
  | [], vs, n + 1, h => by simp only [Reps] at h; subst h; simp [Reps]
  | x :: xs, vs, n + 1, h => by
    simp only [Reps] at h
    obtain ⟨v, r, rfl, h1, h2⟩ := h
    simpa using Reps.drop n h2
theorem Reps.set : ∀ {xs : List D} {vs : List V} {d : D} {v : V} (n : Nat), Reps W g H xs vs → Rep W g H d v → Reps W g H (xs.set n d) (vs.set n v)
  | [], vs, d, v, n, h, k => by simp only [Reps] at h; subst h; simp [Reps]
  | x :: xs, vs, d, v, 0, h, k => by
    simp only [Reps] at h
    obtain ⟨w, r, rfl, h1, h2⟩ := h
    simp only [List.set_cons_zero, Reps]
    exact ⟨v, r, rfl, k, h2⟩
  | x :: xs, vs, d, v, n + 1, h, k => by
    simp only [Reps] at h
    obtain ⟨w, r, rfl, h1, h2⟩ := h
    simp only [List.set_cons_succ, Reps]
    exact ⟨w, _, rfl, h1, Reps.set n h2 k⟩
theorem Reps.nil : Reps W g H [] [] := by simp [Reps]
theorem Reps.one {d : D} {v : V} (h : Rep W g H d v) : Reps W g H [d] [v] := by simp [Reps, h]
theorem Reps.cons {d : D} {v : V} {xs : List D} {vs : List V} (h : Rep W g H d v) (k : Reps W g H xs vs) : Reps W g H (d :: xs) (v :: vs) := by
  simp only [Reps]; exact ⟨v, vs, rfl, h, k⟩

/-! ### prims -/
/-- a two-place operation by values: what is asked of the values' reading r -/
def Prim1 (W : Wd) (X : Cx) (r : V → Hp → VK → Prop) (p : D → Option EV) : Prop :=
  ∀ C g H vh dx x (Q : VK), RelH W C g vh H → RepW W g H dx x → (∀ e, p dx = some e → ∀ g' H' v, RelH W C g' vh H' → Ext g H g' H' → RepE W C g' H' e v → Q v H') → (p dx).isSome → r x H Q
def Prim2 (W : Wd) (X : Cx) (r : R2) (p : D → D → Option EV) : Prop :=
  ∀ C g H vh dx dy x y (Q : VK), RelH W C g vh H → RepW W g H dx x → RepW W g H dy y → (∀ e, p dx dy = some e → ∀ g' H' v, RelH W C g' vh H' → Ext g H g' H' → RepE W C g' H' e v → Q v H') → (p dx dy).isSome → r x y H Q
theorem Prim2.use {r : R2} {p : D → D → Option EV} (hp : Prim2 W X r p) {dx dy : D} {x y : V} {Q : VK} (h : RelH W C g vh H) (hs : RelS W g H sl σ) (e0 : Ext g0 H0 g H)
    (rx : Rep W g H dx x) (ry : Rep W g H dy y) (q : PostE W C Wx g0 H0 σ sl (lift (p (view vh dx) (view vh dy)) vh) Q) : r x y H Q := by
  refine hp C g H vh _ _ x y Q h (h.view rx) (h.view ry) (fun e he g' H' v h' x' r' => ?_) ?_
  · rw [he] at q
    exact q g' H' v h' (hs.mono x') (e0.trans x') r'
  · cases e : p (view vh dx) (view vh dy) with
    | none => rw [e] at q; exact q.elim
    | some _ => rfl
theorem Prim1.use {r : V → Hp → VK → Prop} {p : D → Option EV} (hp : Prim1 W X r p) {dx : D} {x : V} {Q : VK} (h : RelH W C g vh H) (hs : RelS W g H sl σ) (e0 : Ext g0 H0 g H)
    (rx : Rep W g H dx x) (q : PostE W C Wx g0 H0 σ sl (lift (p (view vh dx)) vh) Q) : r x H Q := by
  refine hp C g H vh _ x Q h (h.view rx) (fun e he g' H' v h' x' r' => ?_) ?_
  · rw [he] at q
    exact q g' H' v h' (hs.mono x') (e0.trans x') r'
  · cases e : p (view vh dx) with
    | none => rw [e] at q; exact q.elim
    | some _ => rfl
end

/-! ### expressions -/
section
variable {W : Wd} {Wx : WX} {X : Cx} {k : Nat} {a b c : Expr} {φ ψ χ : EF} {pos : Pos}
theorem de_var (i : Nat) {x : Str} (hN : X.N[i]? = some x := by rfl) (hv : Vis X.env.scope x := by first | exact Or.inl rfl | exact Or.inr (Or.inl rfl) | exact Or.inr (Or.inr rfl)) (hd : (x == ("__debug__" : Str)) = false := by decide)
    (hcd : (x == ("__classdict__" : Str)) = false := by decide) : DE W Wx X (.Name x pos) (eVar i) := fun C => pe_imp (pe_var hN hv hd hcd) fun σ H Q ⟨g, sl, vh, h, hs, q⟩ => by
  unfold eVar at q
  cases e : sl[i]? with
  | none => rw [e] at q; exact q.elim
  | some od =>
    cases od with
    | none => rw [e] at q; exact q.elim
    | some d =>
      rw [e] at q
      obtain ⟨v, e1, r⟩ := hs.2 i d e
      exact ⟨v, e1, q g H v h hs (Ext.refl g H) r⟩
theorem de_con {t : V} {d : D} {e : Expr} (h : PE X e (tC t)) (r : ∀ g H, Rep W g H d t) : DE W Wx X e (eCon d) := fun C => pe_imp h fun σ H Q ⟨g, sl, vh, h, hs, q⟩ => q g H t h hs (Ext.refl g H) (r g H)
theorem de_int {i : Int} {j} : DE W Wx X (.Constant (.int i) j pos) (eCon (.int i)) := de_con pe_int fun g H => by simp [Rep]
theorem de_bl {i : Bool} {j} : DE W Wx X (.Constant (.bool i) j pos) (eCon (.bl i)) := de_con pe_bl fun g H => by simp [Rep]
theorem de_non {j} : DE W Wx X (.Constant .none j pos) (eCon .non) := de_con pe_non fun g H => by simp [Rep]
theorem de_str {i : Str} {j} : DE W Wx X (.Constant (.str i) j pos) (eCon (.str i)) := de_con pe_str fun g H => by simp [Rep]
/-- a two-place reading -/
theorem de_2 {e : Expr} {r : R2} {p : D → D → Option EV} (ha : DE W Wx X a φ) (hb : DE W Wx X b ψ) (hp : Prim2 W X r p) (hr : ∀ ta tb, PE X a ta → PE X b tb → PE X e (tOp r ta tb)) : DE W Wx X e (e2 p φ ψ) := fun C =>
  pe_imp (hr _ _ (ha C) (hb C)) fun σ H Q ⟨g, sl, vh, h, hs, q⟩ => by
  exact (TDE.bind h hs (Ext.refl g H) q).mono fun v1 H1 ⟨g2, vh2, d1, i2, s2, x2, x2', p2, q2⟩ =>
    (TDE.bind i2 s2 x2 q2).mono fun v4 H4 ⟨g5, vh5, d5, i5, s5, x5, x5', p5, q5⟩ => hp.use i5 s5 x5 (Rep.mono x5' _ _ p2) p5 q5
end
end PM

/-! PM3: argument lists, displays, tests, prims of numbers, texts, lists, dicts. -/
namespace PM
open PySem L2
noncomputable section

abbrev AF := Sl → VH → R (List D)
def aNil : AF := fun _ vh => .ok [] vh
def aCons (φ : EF) (α : AF) : AF := fun sl vh => match φ sl vh with
  | .bad => .bad
  | .exc x vh' => .exc x vh'
  | .ok e vh' => match α sl vh' with
    | .bad => .bad
    | .exc x vh'' => .exc x vh''
    | .ok ds vh'' => .ok (e.d :: ds) vh''
def PostA (W : Wd) (C : Con) (Wx : WX) (g0 : Gh) (H0 : Hp) (σ : St) (sl : Sl) (r : R (List D)) (Q : List V → Hp → Prop) : Prop :=
  match r with
  | .bad => False
  | .ok ds vh => ∀ g H vs, RelH W C g vh H → RelS W g H sl σ → Ext g0 H0 g H → Reps W g H ds vs → Q vs H
  | .exc x vh => ∀ g H c od, RelH W C g vh H → RelS W g H sl σ → Ext g0 H0 g H → XRep W g H x c od → Wx c od σ H
def TDA (W : Wd) (C : Con) (Wx : WX) (α : AF) : TA := fun σ H Q => ∃ g sl vh, RelH W C g vh H ∧ RelS W g H sl σ ∧ PostA W C Wx g H σ sl (α sl vh) Q
def DA (W : Wd) (Wx : WX) (X : Cx) (es : List Expr) (α : AF) : Prop := ∀ C, PA X es (TDA W C Wx α)
theorem pa_imp {X : Cx} {e : List Expr} {t t' : TA} (h : PA X e t) (i : ∀ σ H Q, t' σ H Q → t σ H Q) : PA X e t' := ⟨fun pos pins s σ H Q I q => h.run pos pins s σ H Q I (i σ H Q q)⟩

def ab (α : AF) (k : List D → EF) : EF := fun sl vh => match α sl vh with
  | .ok ds vh' => k ds sl vh'
  | .exc x vh' => .exc x vh'
  | .bad => .bad

section
variable {W : Wd} {C : Con} {Wx : WX} {X : Cx} {g g0 : Gh} {H H0 : Hp} {σ : St} {sl : Sl} {vh : VH}
theorem TDA.mono {φ : AF} {Q Q' : List V → Hp → Prop} (t : TDA W C Wx φ σ H Q) (m : ∀ v H, Q v H → Q' v H) : TDA W C Wx φ σ H Q' := by
  obtain ⟨g, sl, vh, h, hs, q⟩ := t
  refine ⟨g, sl, vh, h, hs, ?_⟩
  cases r : φ sl vh with
  | bad => rw [r] at q; exact q
  | ok e vh1 => rw [r] at q; exact fun g1 H1 v h1 s1 x1 r1 => m _ _ (q g1 H1 v h1 s1 x1 r1)
  | exc x vh1 => rw [r] at q; exact q
theorem TDA.bind {α : AF} {k : List D → EF} {Q : VK} (h : RelH W C g vh H) (hs : RelS W g H sl σ) (e0 : Ext g0 H0 g H) (q : PostE W C Wx g0 H0 σ sl (ab α k sl vh) Q) :
    TDA W C Wx α σ H (fun v1 H1 => ∃ g1 vh1 d1, RelH W C g1 vh1 H1 ∧ RelS W g1 H1 sl σ ∧ Ext g0 H0 g1 H1 ∧ Ext g H g1 H1 ∧ Reps W g1 H1 d1 v1 ∧ PostE W C Wx g0 H0 σ sl (k d1 sl vh1) Q) := by
  refine ⟨g, sl, vh, h, hs, ?_⟩
  unfold ab at q
  cases r : α sl vh with
  | bad => rw [r] at q; exact q
  | ok ds vh1 =>
    rw [r] at q
    exact fun g1 H1 v1 h1 s1 x1 r1 => ⟨g1, vh1, ds, h1, s1, e0.trans x1, x1, r1, q⟩
  | exc x vh1 =>
    rw [r] at q
    exact fun g1 H1 c od h1 s1 x1 r1 => q g1 H1 c od h1 s1 (e0.trans x1) r1
theorem da_nil : DA W Wx X [] aNil := fun C => pa_imp pa_nil fun σ H Q ⟨g, sl, vh, h, hs, q⟩ => q g H [] h hs (Ext.refl g H) Reps.nil
theorem da_cons {e : Expr} {es : List Expr} {φ : EF} {α : AF} (ha : DE W Wx X e φ) (hr : DA W Wx X es α) (hst : starEach (e :: es) X.env = (false, eval e X.env) :: starEach es X.env := by rfl) : DA W Wx X (e :: es) (aCons φ α) := fun C =>
  pa_imp (pa_cons (ha C) (hr C) hst) fun σ H Q ⟨g, sl, vh, h, hs, q⟩ => by
    refine ⟨g, sl, vh, h, hs, ?_⟩
    unfold aCons at q
    cases r : φ sl vh with
    | bad => rw [r] at q; exact q
    | exc x vh1 => rw [r] at q; exact q
    | ok e vh1 =>
      rw [r] at q
      intro g1 H1 v1 h1 s1 x1 r1
      obtain ⟨g2, h2, x2, r2⟩ := r1.freeze h1
      refine ⟨g2, sl, vh1, h2, s1.mono x2, ?_⟩
      dsimp only at q
      cases r3 : α sl vh1 with
      | bad => rw [r3] at q; exact q
      | exc x vh2 => rw [r3] at q; exact fun g3 H3 c od h3 s3 x3 p3 => q g3 H3 c od h3 s3 ((x1.trans x2).trans x3) p3
      | ok ds vh2 =>
        rw [r3] at q
        exact fun g3 H3 vs h3 s3 x3 p3 => q g3 H3 _ h3 s3 ((x1.trans x2).trans x3) (Reps.cons (Rep.mono x3 _ _ r2) p3)
/-- what a reading asks of what comes behind arguments -/
def PrimA (W : Wd) (X : Cx) (r : List V → Hp → VK → Prop) (p : List D → Option EV) : Prop :=
  ∀ C g H vh ds vs (Q : VK), RelH W C g vh H → Reps W g H ds vs → (∀ e, p ds = some e → ∀ g' H' v, RelH W C g' vh H' → Ext g H g' H' → RepE W C g' H' e v → Q v H') → (p ds).isSome → r vs H Q
theorem PrimA.use {r : List V → Hp → VK → Prop} {p : List D → Option EV} (hp : PrimA W X r p) {ds : List D} {vs : List V} {Q : VK} (h : RelH W C g vh H) (hs : RelS W g H sl σ) (e0 : Ext g0 H0 g H)
    (rx : Reps W g H ds vs) (q : PostE W C Wx g0 H0 σ sl (lift (p ds) vh) Q) : r vs H Q := by
  refine hp C g H vh _ vs Q h rx (fun e he g' H' v h' x' r' => ?_) ?_
  · rw [he] at q
    exact q g' H' v h' (hs.mono x') (e0.trans x') r'
  · cases e : p ds with
    | none => rw [e] at q; exact q.elim
    | some _ => rfl
def eA (p : List D → Option EV) (α : AF) : EF := ab α fun ds _ vh => lift (p ds) vh
theorem de_A {e : Expr} {es : List Expr} {r : List V → Hp → VK → Prop} {p : List D → Option EV} {α : AF} (ha : DA W Wx X es α) (hp : PrimA W X r p) (hr : ∀ ta, PA X es ta → PE X e (fun σ H Q => ta σ H fun vs H1 => r vs H1 Q)) :
    DE W Wx X e (eA p α) := fun C => pe_imp (hr _ (ha C)) fun σ H Q ⟨g, sl, vh, h, hs, q⟩ =>
  (TDA.bind h hs (Ext.refl g H) q).mono fun v1 H1 ⟨g2, vh2, d1, i2, s2, x2, x2', p2, q2⟩ => hp.use i2 s2 x2 p2 q2

/-! ### new objects -/
theorem new_obj {p : Addr} {u : HO} {o : O} (h : RelH W C g vh H) (np : H p = none) (ho : ObjAt W g (upd H p u) p o) : RepE W C g (upd H p u) (.f o) (.ref p) :=
  let ⟨a, b, c⟩ := h.free np
  ⟨p, rfl, ho, a, b, c⟩
theorem RelH.addv {p : Addr} {u : HO} (h : RelH W C g vh H) (np : H p = none) : RelH W C (g.add p) vh (upd H p u) := by
  have h' := h.new (u := u) np
  exact {
    len := h'.len
    vh := fun i o e => (h'.vh i o e).mono (Ext.add g _ p) rfl
    inj := h'.inj
    nf := fun i hi hh => Or.elim hh (h'.nf i hi) fun z => h.mp hi (by rw [show g.m i = p from z]; exact np)
    ff := fun a ha => Or.elim ha (h'.ff a) fun z => by
      rw [z, upd_same]
      exact fun e => by cases e
    fr := h'.fr
    nfr := h'.nfr
    pd := fun a ha => ⟨(h.pd a ha).1, fun f => Or.elim f (h.pd a ha).2 fun e => (h.fr a (h.pd a ha).1).2 (by rw [e]; exact np)⟩ }
theorem new_tup {p : Addr} {xs : List D} {vs : List V} (h : RelH W C g vh H) (np : H p = none) (r : Reps W g H xs vs) :
    RelH W C (g.add p) vh (upd H p (.tup vs)) ∧ Ext g H (g.add p) (upd H p (.tup vs)) ∧ Rep W (g.add p) (upd H p (.tup vs)) (.tup xs) (.ref p) := by
  have x : Ext g H (g.add p) (upd H p (.tup vs)) := (Ext.new h np).trans (Ext.add g _ p)
  refine ⟨h.addv np, x, ?_⟩
  simp only [Rep]
  exact ⟨p, vs, rfl, .inl ⟨.inr rfl, upd_same⟩, Reps.mono x _ _ r⟩
theorem new_lst {p : Addr} {xs : List D} {vs : List V} (h : RelH W C g vh H) (np : H p = none) (r : Reps W g H xs vs) : RepE W C g (upd H p (.lst vs)) (.f (.lst xs)) (.ref p) :=
  new_obj h np ⟨vs, upd_same, Reps.mono (Ext.new h np) _ _ r⟩

/-- the greatest length; not to be unfolded (a kernel that compares with it would count) -/
noncomputable def lim : Nat := Classical.choose (⟨16777216, rfl⟩ : ∃ n : Nat, n = 16777216)
theorem lim_val : lim = 16777216 := Classical.choose_spec (⟨16777216, rfl⟩ : ∃ n : Nat, n = 16777216)
theorem lim_eq : lim = sizeLine := by rw [sizeLine_eq]; exact lim_val
def pTup (ds : List D) : Option EV := if ds.length ≤ lim then some (.v (.tup ds)) else none
def pLst (ds : List D) : Option EV := if ds.length ≤ lim then some (.f (.lst ds)) else none
theorem isSome_ite {α : Type} {c : Prop} [Decidable c] {x : α} (h : (if c then some x else none).isSome = true) : c := by
  by_cases hc : c
  · exact hc
  · rw [if_neg hc] at h; cases h
theorem de_tup {es : List Expr} {α : AF} {x1} {pos : Pos} (ha : DA W Wx X es α) : DE W Wx X (.Tuple es x1 pos) (eA pTup α) :=
  de_A ha (r := fun xs H1 Q => xs.length ≤ sizeLine ∧ ∀ p, H1 p = none → Q (.ref p) (upd H1 p (.tup xs))) (fun C g H vh ds vs Q h r q s => by
    have hc := isSome_ite s
    refine ⟨by rw [← r.length, ← lim_eq]; exact hc, fun p np => ?_⟩
    obtain ⟨a, b, c⟩ := new_tup h np r
    exact q _ (if_pos hc) _ _ _ a b c) fun ta h => pe_tup h
theorem de_lst {es : List Expr} {α : AF} {pos : Pos} (ha : DA W Wx X es α) : DE W Wx X (.List es pos) (eA pLst α) :=
  de_A ha (r := fun xs H1 Q => xs.length ≤ sizeLine ∧ ∀ p, H1 p = none → Q (.ref p) (upd H1 p (.lst xs))) (fun C g H vh ds vs Q h r q s => by
    have hc := isSome_ite s
    refine ⟨by rw [← r.length, ← lim_eq]; exact hc, fun p np => ?_⟩
    exact q _ (if_pos hc) _ _ _ (h.new np) (Ext.new h np) (new_lst h np r)) fun ta h => pe_lst h
end

/-! ### tests -/
def etoT (φ : EF) : TF := fun sl vh => match φ sl vh with
  | .ok (.v (.bl b)) vh' => .ok b vh'
  | .ok _ _ => .bad
  | .exc x vh' => .exc x vh'
  | .bad => .bad
def truD : D → Option Bool
  | .non => some false
  | .bl b => some b
  | .int i => some (i != 0)
  | .str y => if y.length ≤ lim then some ((y.length : Int) != 0) else none
  | .lst xs => some (!xs.isEmpty)
  | .tup xs => some (!xs.isEmpty)
  | _ => none
def liftB : Option Bool → VH → R Bool
  | some b, vh => .ok b vh
  | none, _ => .bad
def etru (φ : EF) : TF := ebt φ fun d _ vh => liftB (truD (view vh d)) vh
def tNotF (φ : TF) : TF := tbb φ fun b _ vh => .ok (!b) vh
def tAndF (φ ψ : TF) : TF := tbb φ fun b => if b = true then ψ else fun _ vh => .ok false vh
def tOrF (φ ψ : TF) : TF := tbb φ fun b => if b = true then fun _ vh => .ok true vh else ψ
def eIf (τ : TF) (φ ψ : EF) : EF := tb τ fun b => if b = true then φ else ψ
def ofT (τ : TF) : EF := tb τ fun b _ vh => .ok (.v (.bl b)) vh
section
variable {W : Wd} {Wx : WX} {X : Cx} {a b c : Expr} {φ ψ χ : EF} {τ υ : TF} {pos : Pos} {C : Con} {g g0 : Gh} {H H0 : Hp} {σ : St} {sl : Sl} {vh : VH}
theorem TDT.ofE {Q : Bool → Hp → Prop} (t : TDT W C Wx (etoT φ) σ H Q) : TDE W C Wx φ σ H fun x H' => ∃ k, x = .bl k ∧ Q k H' := by
  obtain ⟨g, sl, vh, h, hs, q⟩ := t
  refine ⟨g, sl, vh, h, hs, ?_⟩
  unfold etoT at q
  cases r : φ sl vh with
  | bad => rw [r] at q; exact q
  | exc x vh1 => rw [r] at q; exact q
  | ok e vh1 =>
    rw [r] at q
    cases e with
    | f o => exact q.elim
    | v d =>
      cases d with
      | bl k => exact fun g1 H1 v h1 s1 x1 r1 => ⟨k, by simpa only [RepE, Rep] using r1, q g1 H1 h1 s1 x1⟩
      | _ => exact q.elim
theorem RepW.tru {d : D} {v : V} {k : Bool} (r : RepW W g H d v) (e : truD d = some k) : TruV W.K v H k := by
  cases d with
  | non => cases e; rw [r.non]; exact rfl
  | bl b => cases e; rw [r.bl]; exact rfl
  | int i => cases e; rw [r.int]; exact rfl
  | str y =>
    rw [r.str]
    simp only [truD] at e
    split at e
    · rename_i hc
      cases e
      exact ⟨by rw [← lim_eq]; exact hc, rfl⟩
    · cases e
  | lst xs =>
    obtain ⟨a, vs, rfl, s, rr⟩ := r.lst
    cases e
    exact .inl ⟨vs, SqL.of s, by have := rr.length; cases xs <;> cases vs <;> simp_all⟩
  | tup xs =>
    obtain ⟨a, vs, rfl, s, rr⟩ := r.tup
    cases e
    exact .inr (.inl ⟨vs, s, by have := rr.length; cases xs <;> cases vs <;> simp_all⟩)
  | _ => cases e
theorem dt_truth (hK : X.K = W.K) (ha : DE W Wx X a φ) (he : ∀ whole, isTrue a X.env whole = (do let v ← whole; standAt a.pos; holding [v] (truthy v))) : DT W Wx X a (etru φ) := fun C =>
  pt_imp (pt_truth (ha C) he) fun σ H Q ⟨g, sl, vh, h, hs, q⟩ =>
    (TDE.bindT h hs (Ext.refl g H) q).mono fun v1 H1 ⟨g2, vh2, d1, i2, s2, x2, x2', p2, q2⟩ => by
      cases e : truD (view vh2 d1) with
      | none => rw [e] at q2; exact q2.elim
      | some k => rw [e] at q2; exact ⟨k, by rw [hK]; exact (i2.view p2).tru e, q2 g2 H1 i2 s2 x2⟩
theorem dt_not (ha : DT W Wx X a τ) : DT W Wx X (.UnaryOp .Not a pos) (tNotF τ) := fun C => pt_imp (pt_not (ha C)) fun σ H Q ⟨g, sl, vh, h, hs, q⟩ =>
  (TDT.bindT h hs (Ext.refl g H) q).mono fun b H1 ⟨g2, vh2, i2, s2, x2, q2⟩ => q2 g2 H1 i2 s2 x2
/-- and, or as tests -/
def DW (W : Wd) (Wx : WX) (X : Cx) (e : Expr) (φ : TF) : Prop := ∀ C, PW X e (TDT W C Wx φ)
theorem pw_imp {e : Expr} {t t' : TT} (h : PW X e t) (i : ∀ σ H Q, t' σ H Q → t σ H Q) : PW X e t' := ⟨fun wh pins s σ H Q I q => h.run wh pins s σ H Q I (i σ H Q q)⟩
theorem dw_t {e : Expr} (h : DW W Wx X e τ) : DT W Wx X e τ := fun C => (h C).pt
theorem dw_and1 (ha : DT W Wx X a τ) : DW W Wx X (.BoolOp .And [a] pos) τ := fun C => pw_and1 (ha C)
theorem dw_or1 (ha : DT W Wx X a τ) : DW W Wx X (.BoolOp .Or [a] pos) τ := fun C => pw_or1 (ha C)
theorem TDT.at {Q : Bool → Hp → Prop} (h : RelH W C g vh H) (hs : RelS W g H sl σ) (e0 : Ext g0 H0 g H) (q : PostT W C Wx g0 H0 σ sl (τ sl vh) Q) : TDT W C Wx τ σ H Q := TDT.go h hs e0 q
theorem dw_and {rest : List Expr} (ha : DT W Wx X a τ) (hb : DW W Wx X (.BoolOp .And (b :: rest) pos) υ) : DW W Wx X (.BoolOp .And (a :: b :: rest) pos) (tAndF τ υ) := fun C => pw_imp (pw_and (ha C) (hb C)) fun σ H Q ⟨g, sl, vh, h, hs, q⟩ =>
  (TDT.bindT h hs (Ext.refl g H) q).mono fun k H1 ⟨g2, vh2, i2, s2, x2, q2⟩ => by
    cases k with
    | true => exact TDT.go i2 s2 x2 q2
    | false => exact q2 g2 H1 i2 s2 x2
theorem dw_or {rest : List Expr} (ha : DT W Wx X a τ) (hb : DW W Wx X (.BoolOp .Or (b :: rest) pos) υ) : DW W Wx X (.BoolOp .Or (a :: b :: rest) pos) (tOrF τ υ) := fun C => pw_imp (pw_or (ha C) (hb C)) fun σ H Q ⟨g, sl, vh, h, hs, q⟩ =>
  (TDT.bindT h hs (Ext.refl g H) q).mono fun k H1 ⟨g2, vh2, i2, s2, x2, q2⟩ => by
    cases k with
    | true => exact q2 g2 H1 i2 s2 x2
    | false => exact TDT.go i2 s2 x2 q2
theorem de_if (hc : DT W Wx X c τ) (ha : DE W Wx X a φ) (hb : DE W Wx X b ψ) : DE W Wx X (.IfExp c a b pos) (eIf τ φ ψ) := fun C => pe_imp (pe_ifExp (hc C) (ha C) (hb C)) fun σ H Q ⟨g, sl, vh, h, hs, q⟩ =>
  (TDT.bind h hs (Ext.refl g H) q).mono fun k H1 ⟨g2, vh2, i2, s2, x2, q2⟩ => by
    cases k with
    | true => exact TDE.go i2 s2 x2 q2
    | false => exact TDE.go i2 s2 x2 q2
/-- and, or as values; the operand by its truth -/
def eAndV (φ ψ : EF) : EF := eb φ fun d sl vh => match truD (view vh d) with | none => .bad | some true => ψ sl vh | some false => .ok (.v d) vh
def eOrV (φ ψ : EF) : EF := eb φ fun d sl vh => match truD (view vh d) with | none => .bad | some true => .ok (.v d) vh | some false => ψ sl vh
theorem de_one {op} (h : DE W Wx X a φ) : DE W Wx X (.BoolOp op [a] pos) φ := fun C => pe_one (h C)
theorem de_and {rest : List Expr} (hK : X.K = W.K) (ha : DE W Wx X a φ) (hb : DE W Wx X (.BoolOp .And (b :: rest) pos) ψ) : DE W Wx X (.BoolOp .And (a :: b :: rest) pos) (eAndV φ ψ) := fun C => pe_imp (pe_andT (ha C) (hb C)) fun σ H Q ⟨g, sl, vh, h, hs, q⟩ =>
  (TDE.bind h hs (Ext.refl g H) q).mono fun v1 H1 ⟨g2, vh2, d1, i2, s2, x2, x2', p2, q2⟩ => by
    cases e : truD (view vh2 d1) with
    | none => rw [e] at q2; exact q2.elim
    | some k =>
      rw [e] at q2
      refine ⟨k, by rw [hK]; exact (i2.view p2).tru e, ?_⟩
      cases k with
      | true => exact TDE.go i2 s2 x2 q2
      | false => exact q2 g2 H1 v1 i2 s2 x2 p2
theorem de_or {rest : List Expr} (hK : X.K = W.K) (ha : DE W Wx X a φ) (hb : DE W Wx X (.BoolOp .Or (b :: rest) pos) ψ) : DE W Wx X (.BoolOp .Or (a :: b :: rest) pos) (eOrV φ ψ) := fun C => pe_imp (pe_orT (ha C) (hb C)) fun σ H Q ⟨g, sl, vh, h, hs, q⟩ =>
  (TDE.bind h hs (Ext.refl g H) q).mono fun v1 H1 ⟨g2, vh2, d1, i2, s2, x2, x2', p2, q2⟩ => by
    cases e : truD (view vh2 d1) with
    | none => rw [e] at q2; exact q2.elim
    | some k =>
      rw [e] at q2
      refine ⟨k, by rw [hK]; exact (i2.view p2).tru e, ?_⟩
      cases k with
      | true => exact q2 g2 H1 v1 i2 s2 x2 p2
      | false => exact TDE.go i2 s2 x2 q2
def eNotV (φ : EF) : EF := eb φ fun d _ vh => match truD (view vh d) with | none => .bad | some b => .ok (.v (.bl (!b))) vh
theorem de_not (hK : X.K = W.K) (ha : DE W Wx X a φ) : DE W Wx X (.UnaryOp .Not a pos) (eNotV φ) := fun C => pe_imp (pe_notT (ha C)) fun σ H Q ⟨g, sl, vh, h, hs, q⟩ =>
  (TDE.bind h hs (Ext.refl g H) q).mono fun v1 H1 ⟨g2, vh2, d1, i2, s2, x2, x2', p2, q2⟩ => by
    cases e : truD (view vh2 d1) with
    | none => rw [e] at q2; exact q2.elim
    | some k => rw [e] at q2; exact ⟨k, by rw [hK]; exact (i2.view p2).tru e, q2 g2 H1 _ i2 s2 x2 (by simp [RepE, Rep])⟩
/-- a comparison as a test, by its reading as a value -/
theorem dt_2 {e : Expr} {r : R2} {p : D → D → Option EV} (ha : DE W Wx X a φ) (hb : DE W Wx X b ψ) (hp : Prim2 W X r p) (hr : ∀ ta tb, PE X a ta → PE X b tb → PT X e (tTest (tOp r ta tb))) : DT W Wx X e (etoT (e2 p φ ψ)) := fun C =>
  pt_imp (hr _ _ (ha C) (hb C)) fun σ H Q t => by
    obtain ⟨g, sl, vh, h, hs, q⟩ := t.ofE
    exact (TDE.bind h hs (Ext.refl g H) q).mono fun v1 H1 ⟨g2, vh2, d1, i2, s2, x2, x2', p2, q2⟩ =>
      (TDE.bind i2 s2 x2 q2).mono fun v4 H4 ⟨g5, vh5, d5, i5, s5, x5, x5', p5, q5⟩ => hp.use i5 s5 x5 (Rep.mono x5' _ _ p2) p5 q5
theorem de_1 {e : Expr} {r : V → Hp → VK → Prop} {p : D → Option EV} (ha : DE W Wx X a φ) (hp : Prim1 W X r p) (hr : ∀ ta, PE X a ta → PE X e (tUn r ta)) : DE W Wx X e (e1 p φ) := fun C =>
  pe_imp (hr _ (ha C)) fun σ H Q ⟨g, sl, vh, h, hs, q⟩ =>
    (TDE.bind h hs (Ext.refl g H) q).mono fun v1 H1 ⟨g2, vh2, d1, i2, s2, x2, x2', p2, q2⟩ => hp.use i2 s2 x2 p2 q2
end
end
end PM

/-! PM4: operators, comparisons, subscripts. -/
namespace PM
open PySem L2
noncomputable section

noncomputable def mulOk (i j : Int) : Bool := @decide (i.natAbs < 2 ^ 64 ∨ j.natAbs < 2 ^ 64 ∨ i.natAbs.log2 + j.natAbs.log2 < 1000000) (Classical.propDecidable _)
theorem mulOk_iff {i j : Int} : mulOk i j = true ↔ (i.natAbs < 2 ^ 64 ∨ j.natAbs < 2 ^ 64 ∨ i.natAbs.log2 + j.natAbs.log2 < 1000000) := @decide_eq_true_iff _ (Classical.propDecidable _)
noncomputable def divOk (j : Int) : Bool := @decide (0 < j ∧ j.natAbs.log2 < 9000) (Classical.propDecidable _)
theorem divOk_iff {j : Int} : divOk j = true ↔ (0 < j ∧ j.natAbs.log2 < 9000) := @decide_eq_true_iff _ (Classical.propDecidable _)
noncomputable def powOk (i j : Int) : Bool := @decide (0 ≤ j ∧ j ≤ 1000 ∧ i.natAbs.log2 < 1000) (Classical.propDecidable _)
theorem powOk_iff {i j : Int} : powOk i j = true ↔ (0 ≤ j ∧ j ≤ 1000 ∧ i.natAbs.log2 < 1000) := @decide_eq_true_iff _ (Classical.propDecidable _)
def vI (i : Int) : Option EV := some (.v (.int i))
def vB (b : Bool) : Option EV := some (.v (.bl b))
def vS (x : Str) : Option EV := some (.v (.str x))
def opAdd : D → D → Option EV
  | .int i, .int j => vI (i + j)
  | .str x, .str y => if x.length + y.length ≤ lim then vS (x ++ y) else none
  | .lst xs, .lst ys => if xs.length + ys.length ≤ lim then some (.f (.lst (xs ++ ys))) else none
  | .tup xs, .tup ys => if xs.length + ys.length ≤ lim then some (.v (.tup (xs ++ ys))) else none
  | _, _ => none
def opSub : D → D → Option EV
  | .int i, .int j => vI (i - j)
  | _, _ => none
def strRep (x : Str) (k : Int) : Str := if k < 1 then Str.empty else if (k == 1 || x.length == 0) = true then x else ⟨(List.replicate k.toNat x.cps).foldl (· ++ ·) #[]⟩
def opMul : D → D → Option EV
  | .int i, .int j => if mulOk i j = true then vI (i * j) else none
  | .str x, .int k => if (k < 1000000 ∧ -1000000 < k) ∧ x.length * k.toNat ≤ lim then vS (strRep x k) else none
  | .lst xs, .int k => if (k < 1000000 ∧ -1000000 < k) ∧ xs.length * k.toNat ≤ lim then some (.f (.lst (List.replicate k.toNat xs).flatten)) else none
  | _, _ => none
def opDiv : D → D → Option EV
  | .int i, .int j => if divOk j = true then vI (i / j) else none
  | _, _ => none
def opMod : D → D → Option EV
  | .int i, .int j => if 0 < j then vI (i % j) else none
  | _, _ => none
def opPow : D → D → Option EV
  | .int i, .int j => if powOk i j = true then vI (i ^ j.toNat) else none
  | _, _ => none

section
variable {W : Wd} {Wx : WX} {X : Cx} {a b c : Expr} {φ ψ χ : EF} {pos : Pos}
theorem some_inj {α : Type} {x y : α} (h : some x = some y) : x = y := Option.some.inj h
theorem Reps.flat {g : Gh} {H : Hp} {xs : List D} {vs : List V} (r : Reps W g H xs vs) : ∀ k : Nat, Reps W g H (List.replicate k xs).flatten (List.replicate k vs).flatten
  | 0 => by simp [Reps]
  | k + 1 => by
    rw [List.replicate_succ, List.replicate_succ, List.flatten_cons, List.flatten_cons]
    exact r.append (r.flat k)
def rAddX (K : PySem.W.Frag) : R2 := fun x y H Q => (∃ i j, x = .int i ∧ y = .int j ∧ Q (.int (i + j)) H) ∨ ((∃ i j, x = .str i ∧ y = .str j ∧ i.length + j.length ≤ sizeLine ∧ Q (.str (i ++ j)) H) ∨ (rCat x y H Q ∨ rCatA K x y H Q))
theorem op_addX : OpR X (binaryOp .Add) (rAddX X.K) := op_add.or (op_add_str.or (op_cat.or op_catA))
theorem p_add (hK : X.K = W.K) : Prim2 W X (rAddX X.K) opAdd := by
  intro C g H vh dx dy x y Q h rx ry q s
  cases dx <;> cases dy <;> try (simp [opAdd] at s; done)
  · rw [rx.int, ry.int]
    exact .inl ⟨_, _, rfl, rfl, q _ rfl g H _ h (Ext.refl g H) (by simp [RepE, Rep])⟩
  · rw [rx.str, ry.str]
    have hc := isSome_ite s
    exact .inr (.inl ⟨_, _, rfl, rfl, by rw [← lim_eq]; exact hc, q _ (if_pos hc) g H _ h (Ext.refl g H) (by simp [RepE, Rep])⟩)
  · obtain ⟨a, vs, rfl, h1, r1⟩ := rx.tup
    obtain ⟨b, ws, rfl, h2, r2⟩ := ry.tup
    have hc := isSome_ite s
    refine .inr (.inr (.inr ⟨a, b, vs, ws, rfl, rfl, by rw [hK]; exact h1, by rw [hK]; exact h2, by rw [← r1.length, ← r2.length, ← lim_eq]; exact hc, fun e => ?_, fun e1 e => ?_, fun e1 e2 p np => ?_⟩))
    · subst e
      have e0 := List.eq_nil_of_length_eq_zero r1.length
      subst e0
      refine q _ (if_pos hc) g H _ h (Ext.refl g H) ?_
      rcases ry with ry | ⟨o, a', e, _⟩
      · exact ry
      · cases o <;> cases e
    · subst e
      have e0 := List.eq_nil_of_length_eq_zero r2.length
      subst e0
      refine q _ (if_pos hc) g H _ h (Ext.refl g H) ?_
      rw [List.append_nil]
      rcases rx with rx | ⟨o, a', e, _⟩
      · exact rx
      · cases o <;> cases e
    · obtain ⟨a1, b1, c1⟩ := new_tup h np (r1.append r2)
      exact q _ (if_pos hc) _ _ _ a1 b1 c1
  · obtain ⟨a, vs, rfl, h1, r1⟩ := rx.lst
    obtain ⟨b, ws, rfl, h2, r2⟩ := ry.lst
    have hc := isSome_ite s
    refine .inr (.inr (.inl ⟨a, b, vs, ws, rfl, rfl, h1, h2, by rw [← r1.length, ← r2.length, ← lim_eq]; exact hc, fun p np => ?_⟩))
    exact q _ (if_pos hc) _ _ _ (h.new np) (Ext.new h np) (new_lst h np (r1.append r2))
theorem de_add (hK : X.K = W.K) (ha : DE W Wx X a φ) (hb : DE W Wx X b ψ) : DE W Wx X (.BinOp a .Add b pos) (e2 opAdd φ ψ) := de_2 ha hb (p_add hK) fun _ _ => pe_op op_addX
theorem p_sub : Prim2 W X (rI0 fun i j => .int (i - j)) opSub := by
  intro C g H vh dx dy x y Q h rx ry q s
  cases dx <;> cases dy <;> try (simp [opSub] at s; done)
  rw [rx.int, ry.int]
  exact ⟨_, _, rfl, rfl, q _ rfl g H _ h (Ext.refl g H) (by simp [RepE, Rep])⟩
theorem de_sub (ha : DE W Wx X a φ) (hb : DE W Wx X b ψ) : DE W Wx X (.BinOp a .Sub b pos) (e2 opSub φ ψ) := de_2 ha hb p_sub fun _ _ => pe_op op_sub
theorem size_rep (a : Array Nat) : ∀ (n : Nat) (acc : Array Nat), ((List.replicate n a).foldl (· ++ ·) acc).size = acc.size + n * a.size
  | 0, acc => by simp
  | n + 1, acc => by
    rw [List.replicate_succ, List.foldl_cons, size_rep a n]
    simp only [Array.size_append]
    rw [Nat.add_mul]; omega
def rRepS : R2 := fun x y H Q => ∃ z k, x = .str z ∧ y = .int k ∧ -1000000 < k ∧ k < 1000000 ∧ z.length * k.toNat ≤ sizeLine ∧ Q (.str (strRep z k)) H
theorem op_repS : OpR X (binaryOp .Mult) rRepS := by
  intro pins s σ H x y v u Q I rx ry h
  obtain ⟨z, k, rfl, rfl, h1, h2, hl, q⟩ := h
  obtain ⟨t, rfl⟩ := rx
  obtain ⟨t', rfl⟩ := ry
  have hs := sizeLine_eq
  refine P.mul_str (by rw [decide_eq_false (by omega), decide_eq_false (by omega)]; rfl) (fun a b => ?_) (fun a b => decide_eq_false (by omega)) ?_
  · have hz : (z.length : Int) * k ≤ 16777216 := by
      have : ((z.length * k.toNat : Nat) : Int) ≤ 16777216 := by omega
      rw [Int.natCast_mul, Int.toNat_of_nonneg (by omega)] at this
      exact this
    have hm : (16777216 : Int) ≤ (2 ^ 63 - 1) / k := (Int.le_ediv_iff_mul_le (by omega)).mpr (by omega)
    have h0 : (z.length : Int) ≤ 16777216 := by
      have : (z.length : Int) * 1 ≤ (z.length : Int) * k := Int.mul_le_mul_of_nonneg_left (by omega) (by omega)
      omega
    omega
  · unfold strRep at q
    by_cases c1 : k < 1
    · rw [if_pos c1] at q ⊢
      exact ⟨by decide, .str _, H, I.tok _, ⟨_, rfl⟩, q⟩
    · rw [if_neg c1] at q ⊢
      by_cases c2 : (k == 1 || z.length == 0) = true
      · rw [if_pos c2] at q ⊢
        exact ⟨.str z, H, I, ⟨_, rfl⟩, q⟩
      · rw [if_neg c2] at q ⊢
        refine ⟨?_, .str _, H, I.tok _, ⟨_, rfl⟩, q⟩
        show ((List.replicate k.toNat z.cps).foldl (· ++ ·) #[]).size ≤ sizeLine
        rw [size_rep, Nat.mul_comm]
        have : z.cps.size * k.toNat ≤ sizeLine := hl
        simpa using this
theorem op_mulX : OpR X (binaryOp .Mult) (fun x y H Q => rI CMul (fun i j => .int (i * j)) x y H Q ∨ (rI CMulW (fun i j => .int (i * j)) x y H Q ∨ (rRep x y H Q ∨ rRepS x y H Q))) := op_mul.or (op_mulW.or (op_rep.or op_repS))
theorem p_mul : Prim2 W X (fun x y H Q => rI CMul (fun i j => .int (i * j)) x y H Q ∨ (rI CMulW (fun i j => .int (i * j)) x y H Q ∨ (rRep x y H Q ∨ rRepS x y H Q))) opMul := by
  intro C g H vh dx dy x y Q h rx ry q s
  cases dx <;> cases dy <;> try (simp [opMul] at s; done)
  · rename_i i j
    rw [rx.int, ry.int]
    have hc := isSome_ite s
    have q' : Q (.int (i * j)) H := q _ (if_pos hc) g H _ h (Ext.refl g H) (by simp only [RepE, Rep])
    rw [mulOk_iff] at hc
    rcases hc with hc | hc | hc
    · exact .inl ⟨_, _, rfl, rfl, .inl (by constructor <;> omega), q'⟩
    · exact .inl ⟨_, _, rfl, rfl, .inr (by constructor <;> omega), q'⟩
    · exact .inr (.inl ⟨_, _, rfl, rfl, hc, q'⟩)
  · rw [rx.str, ry.int]
    have hc := isSome_ite s
    exact .inr (.inr (.inr ⟨_, _, rfl, rfl, hc.1.2, hc.1.1, by rw [← lim_eq]; exact hc.2, q _ (if_pos hc) g H _ h (Ext.refl g H) (by simp only [RepE, Rep])⟩))
  · obtain ⟨a, vs, rfl, h1, r1⟩ := rx.lst
    rw [ry.int]
    have hc := isSome_ite s
    refine .inr (.inr (.inl ⟨a, _, vs, rfl, rfl, h1, by omega, by omega, by rw [← r1.length, ← lim_eq]; exact hc.2, fun p np => ?_⟩))
    exact q _ (if_pos hc) _ _ _ (h.new np) (Ext.new h np) (new_lst h np (r1.flat _))
theorem de_mul (ha : DE W Wx X a φ) (hb : DE W Wx X b ψ) : DE W Wx X (.BinOp a .Mult b pos) (e2 opMul φ ψ) := de_2 ha hb p_mul fun _ _ => pe_op op_mulX
theorem p_div : Prim2 W X (rI CDivW fun i j => .int (i / j)) opDiv := by
  intro C g H vh dx dy x y Q h rx ry q s
  cases dx <;> cases dy <;> try (simp [opDiv] at s; done)
  rw [rx.int, ry.int]
  have hc := isSome_ite s
  have hc' := hc
  rw [divOk_iff] at hc'
  exact ⟨_, _, rfl, rfl, hc', q _ (if_pos hc) g H _ h (Ext.refl g H) (by simp only [RepE, Rep])⟩
theorem de_div (ha : DE W Wx X a φ) (hb : DE W Wx X b ψ) : DE W Wx X (.BinOp a .FloorDiv b pos) (e2 opDiv φ ψ) := de_2 ha hb p_div fun _ _ => pe_op op_fdivW
theorem p_mod : Prim2 W X (rI (fun _ j => 0 < j) fun i j => .int (i % j)) opMod := by
  intro C g H vh dx dy x y Q h rx ry q s
  cases dx <;> cases dy <;> try (simp [opMod] at s; done)
  rw [rx.int, ry.int]
  have hc := isSome_ite s
  exact ⟨_, _, rfl, rfl, hc, q _ (if_pos hc) g H _ h (Ext.refl g H) (by simp only [RepE, Rep])⟩
theorem de_mod (ha : DE W Wx X a φ) (hb : DE W Wx X b ψ) : DE W Wx X (.BinOp a .Mod b pos) (e2 opMod φ ψ) := de_2 ha hb p_mod fun _ _ => pe_op op_mod
theorem bits_le {i : Int} (h : i.natAbs.log2 < 1000) : (Builtin.Int.intBits i : Int) ≤ 1000 := by
  unfold Builtin.Int.intBits
  split <;> omega
theorem op_powX : OpR X (binaryOp .Pow) (rI (fun i j => 0 ≤ j ∧ j ≤ 1000 ∧ i.natAbs.log2 < 1000) fun i j => .int (i ^ j.toNat)) := opI fun i j _ _ _ _ _ hc q => by
  refine PyProof.Rows.pow_int hc.1 ?_ q
  have h1 := bits_le hc.2.2
  have h2 := hc.2.1
  have h3 := hc.1
  have : (Builtin.Int.intBits i : Int) * j ≤ 1000 * 1000 := Int.mul_le_mul h1 h2 h3 (by decide)
  exact Int.le_trans this (by decide)
theorem p_pow : Prim2 W X (rI (fun i j => 0 ≤ j ∧ j ≤ 1000 ∧ i.natAbs.log2 < 1000) fun i j => .int (i ^ j.toNat)) opPow := by
  intro C g H vh dx dy x y Q h rx ry q s
  cases dx <;> cases dy <;> try (simp [opPow] at s; done)
  rw [rx.int, ry.int]
  have hc := isSome_ite s
  have hc' := hc
  rw [powOk_iff] at hc'
  exact ⟨_, _, rfl, rfl, hc', q _ (if_pos hc) g H _ h (Ext.refl g H) (by simp only [RepE, Rep])⟩
theorem de_pow (ha : DE W Wx X a φ) (hb : DE W Wx X b ψ) : DE W Wx X (.BinOp a .Pow b pos) (e2 opPow φ ψ) := de_2 ha hb p_pow fun _ _ => pe_op op_powX
def opNeg : D → Option EV
  | .int i => vI (-i)
  | _ => none
theorem p_neg : Prim1 W X (rU fun i => .int (-i)) opNeg := by
  intro C g H vh dx x Q h rx q s
  cases dx <;> try (simp [opNeg] at s; done)
  rw [rx.int]
  exact ⟨_, rfl, q _ rfl g H _ h (Ext.refl g H) (by simp [RepE, Rep])⟩
theorem de_neg (ha : DE W Wx X a φ) : DE W Wx X (.UnaryOp .USub a pos) (e1 opNeg φ) := de_1 ha p_neg fun _ => pe_un un_neg

/-! ### comparisons -/
def strLt (x y : Str) : Bool := decide (x.cps.toList < y.cps.toList)
def opLt : D → D → Option EV
  | .int i, .int j => vB (decide (i < j))
  | .str x, .str y => vB (strLt x y)
  | _, _ => none
def opGt : D → D → Option EV
  | .int i, .int j => vB (decide (j < i))
  | .str x, .str y => vB (strLt y x)
  | _, _ => none
def opLe : D → D → Option EV
  | .int i, .int j => vB (decide (i ≤ j))
  | .str x, .str y => vB (!strLt y x)
  | _, _ => none
def opGe : D → D → Option EV
  | .int i, .int j => vB (decide (j ≤ i))
  | .str x, .str y => vB (!strLt x y)
  | _, _ => none
abbrev rSS (g : Str → Str → Bool) : R2 := fun x y H Q => ∃ i j, x = .str i ∧ y = .str j ∧ Q (.bl (g i j)) H
theorem p_cmp {f : Int → Int → Bool} {g : Str → Str → Bool} {p : D → D → Option EV} (h1 : ∀ i j, p (.int i) (.int j) = vB (f i j)) (h2 : ∀ i j, p (.str i) (.str j) = vB (g i j))
    (h3 : ∀ x y, (p x y).isSome = true → (∃ i j, x = .int i ∧ y = .int j) ∨ ∃ i j, x = .str i ∧ y = .str j) : Prim2 W X (fun x y H Q => rI0 (fun i j => .bl (f i j)) x y H Q ∨ rSS g x y H Q) p := by
  intro C g H vh dx dy x y Q h rx ry q s
  rcases h3 dx dy s with ⟨i, j, rfl, rfl⟩ | ⟨i, j, rfl, rfl⟩
  · rw [rx.int, ry.int]
    exact .inl ⟨_, _, rfl, rfl, q _ (h1 i j) _ H _ h (Ext.refl _ H) (by simp [RepE, Rep])⟩
  · rw [rx.str, ry.str]
    exact .inr ⟨_, _, rfl, rfl, q _ (h2 i j) _ H _ h (Ext.refl _ H) (by simp [RepE, Rep])⟩
theorem p_lt : Prim2 W X (fun x y H Q => rI0 (fun i j => .bl (decide (i < j))) x y H Q ∨ rSS strLt x y H Q) opLt :=
  p_cmp (fun _ _ => rfl) (fun _ _ => rfl) fun x y s => by cases x <;> cases y <;> first | (simp [opLt] at s; done) | exact .inl ⟨_, _, rfl, rfl⟩ | exact .inr ⟨_, _, rfl, rfl⟩
theorem p_gt : Prim2 W X (fun x y H Q => rI0 (fun i j => .bl (decide (j < i))) x y H Q ∨ rSS (fun i j => strLt j i) x y H Q) opGt :=
  p_cmp (fun _ _ => rfl) (fun _ _ => rfl) fun x y s => by cases x <;> cases y <;> first | (simp [opGt] at s; done) | exact .inl ⟨_, _, rfl, rfl⟩ | exact .inr ⟨_, _, rfl, rfl⟩
theorem p_le : Prim2 W X (fun x y H Q => rI0 (fun i j => .bl (decide (i ≤ j))) x y H Q ∨ rSS (fun i j => !strLt j i) x y H Q) opLe :=
  p_cmp (fun _ _ => rfl) (fun _ _ => rfl) fun x y s => by cases x <;> cases y <;> first | (simp [opLe] at s; done) | exact .inl ⟨_, _, rfl, rfl⟩ | exact .inr ⟨_, _, rfl, rfl⟩
theorem p_ge : Prim2 W X (fun x y H Q => rI0 (fun i j => .bl (decide (j ≤ i))) x y H Q ∨ rSS (fun i j => !strLt i j) x y H Q) opGe :=
  p_cmp (fun _ _ => rfl) (fun _ _ => rfl) fun x y s => by cases x <;> cases y <;> first | (simp [opGe] at s; done) | exact .inl ⟨_, _, rfl, rfl⟩ | exact .inr ⟨_, _, rfl, rfl⟩
theorem or_lt : OpR X (compareOp .Lt) (fun x y H Q => rI0 (fun i j => .bl (decide (i < j))) x y H Q ∨ rSS strLt x y H Q) := op_lt.or op_lt_str
theorem or_gt : OpR X (compareOp .Gt) (fun x y H Q => rI0 (fun i j => .bl (decide (j < i))) x y H Q ∨ rSS (fun i j => strLt j i) x y H Q) := op_gt.or op_gt_str
theorem or_le : OpR X (compareOp .LtE) (fun x y H Q => rI0 (fun i j => .bl (decide (i ≤ j))) x y H Q ∨ rSS (fun i j => !strLt j i) x y H Q) := op_le.or op_le_str
theorem or_ge : OpR X (compareOp .GtE) (fun x y H Q => rI0 (fun i j => .bl (decide (j ≤ i))) x y H Q ∨ rSS (fun i j => !strLt i j) x y H Q) := op_ge.or op_ge_str
/-- a comparison: what is shown of its operator and its prim -/
structure CmpOk (W : Wd) (X : Cx) (op : CmpOp) (p : D → D → Option EV) : Prop where
  ex : ∃ r, OpR X (compareOp op) r ∧ Prim2 W X r p
theorem c_lt : CmpOk W X .Lt opLt := ⟨_, or_lt, p_lt⟩
theorem c_gt : CmpOk W X .Gt opGt := ⟨_, or_gt, p_gt⟩
theorem c_le : CmpOk W X .LtE opLe := ⟨_, or_le, p_le⟩
theorem c_ge : CmpOk W X .GtE opGe := ⟨_, or_ge, p_ge⟩
theorem de_cmp {op : CmpOp} {p : D → D → Option EV} (o : CmpOk W X op p) (ha : DE W Wx X a φ) (hb : DE W Wx X b ψ) (hm : behindInMarks op b = false) : DE W Wx X (.Compare a [op] [b] pos) (e2 p φ ψ) := by
  obtain ⟨r, h1, h2⟩ := o.ex
  exact de_2 ha hb h2 fun _ _ x y => pe_cmpR h1 x y hm
theorem dt_cmp {op : CmpOp} {p : D → D → Option EV} (o : CmpOk W X op p) (ha : DE W Wx X a φ) (hb : DE W Wx X b ψ) (hm : behindInMarks op b = false) : DT W Wx X (.Compare a [op] [b] pos) (etoT (e2 p φ ψ)) := by
  obtain ⟨r, h1, h2⟩ := o.ex
  exact dt_2 ha hb h2 fun _ _ x y => pt_cmpR h1 x y hm

/-! ### == of data -/
mutual
def toPy : D → Option PyData
  | .non => some .none
  | .bl b => some (.bool b)
  | .int i => some (.int i)
  | .str x => some (.str x)
  | .lst xs => (toPys xs).map .list
  | .tup xs => (toPys xs).map .tuple
  | _ => none
def toPys : List D → Option (List PyData)
  | [] => some []
  | x :: xs => match toPy x, toPys xs with
    | some a, some b => some (a :: b)
    | _, _ => none
end
def eqDeep (x y : D) : Option Bool := match toPy x, toPy y with
  | some a, some b => if SeqAt.shaped a && SeqAt.shaped b then some (PyData.eqv a b) else none
  | _, _ => none
/-- flat values -/
def scV : D → Option V
  | .non => some .non
  | .bl b => some (.bl b)
  | .int i => some (.int i)
  | .str x => some (.str x)
  | _ => none
def eqD (x y : D) : Option Bool := match scV x, scV y with
  | some a, some b => if scal a b = true then some (decide (a = b)) else eqDeep x y
  | _, _ => eqDeep x y
def opEq (x y : D) : Option EV := (eqD x y).bind vB
def opNe (x y : D) : Option EV := (eqD x y).bind fun b => vB (!b)
mutual
theorem Rep.dp {g : Gh} {H : Hp} : ∀ {d : D} {v : V} {p : PyData}, Rep W g H d v → toPy d = some p → Dp W.K H v p
  | .non, v, p, r, e => by simp only [Rep] at r; simp only [toPy, Option.some.injEq] at e; subst r e; exact .non
  | .bl b, v, p, r, e => by simp only [Rep] at r; simp only [toPy, Option.some.injEq] at e; subst r e; exact .bl b
  | .int b, v, p, r, e => by simp only [Rep] at r; simp only [toPy, Option.some.injEq] at e; subst r e; exact .int b
  | .str b, v, p, r, e => by simp only [Rep] at r; simp only [toPy, Option.some.injEq] at e; subst r e; exact .str b
  | .lst xs, v, p, r, e => by
    simp only [Rep] at r
    obtain ⟨a, vs, rfl, f, h1, h2⟩ := r
    simp only [toPy, Option.map_eq_some_iff] at e
    obtain ⟨ps, e1, rfl⟩ := e
    exact .lst (SqL.of h1) (Reps.dp h2 e1)
  | .tup xs, v, p, r, e => by
    simp only [Rep] at r
    obtain ⟨a, vs, rfl, h1, h2⟩ := r
    simp only [toPy, Option.map_eq_some_iff] at e
    obtain ⟨ps, e1, rfl⟩ := e
    exact .tup h1.sq (Reps.dp h2 e1)
  | .dct _, v, p, r, e => by simp [toPy] at e
  | .st _, v, p, r, e => by simp [toPy] at e
  | .ins _ _, v, p, r, e => by simp [toPy] at e
  | .ref _, v, p, r, e => by simp [toPy] at e
  | .fn _, v, p, r, e => by simp [toPy] at e
  | .cls _, v, p, r, e => by simp [toPy] at e
  | .ty _, v, p, r, e => by simp [toPy] at e
  | .scr _, v, p, r, e => by simp [toPy] at e
theorem Reps.dp {g : Gh} {H : Hp} : ∀ {ds : List D} {vs : List V} {ps : List PyData}, Reps W g H ds vs → toPys ds = some ps → DpAll W.K H vs ps
  | [], vs, ps, r, e => by simp only [Reps] at r; simp only [toPys, Option.some.injEq] at e; subst r e; exact .nil
  | d :: ds, vs, ps, r, e => by
    simp only [Reps] at r
    obtain ⟨v, s, rfl, h1, h2⟩ := r
    simp only [toPys] at e
    cases e1 : toPy d with
    | none => rw [e1] at e; cases e
    | some a =>
      cases e2 : toPys ds with
      | none => rw [e1, e2] at e; cases e
      | some b => rw [e1, e2] at e; cases e; exact .cons (Rep.dp h1 e1) (Reps.dp h2 e2)
end
theorem RepW.dp {g : Gh} {H : Hp} {d : D} {v : V} {p : PyData} (r : RepW W g H d v) (e : toPy d = some p) : Dp W.K H v p := by
  rcases r with r | ⟨o, a, rfl, rfl, ho⟩
  · exact r.dp e
  · cases o with
    | lst xs =>
      obtain ⟨vs, h1, h2⟩ := ho
      simp only [O.toD, toPy, Option.map_eq_some_iff] at e
      obtain ⟨ps, e1, rfl⟩ := e
      exact .lst (SqL.of h1) (h2.dp e1)
    | _ => simp [O.toD, toPy] at e
theorem eqDeep_some {x y : D} {b : Bool} (e : eqDeep x y = some b) : ∃ p q, toPy x = some p ∧ toPy y = some q ∧ SeqAt.shaped p = true ∧ SeqAt.shaped q = true ∧ b = PyData.eqv p q := by
  unfold eqDeep at e
  cases e1 : toPy x with
  | none => rw [e1] at e; cases e
  | some p =>
    cases e2 : toPy y with
    | none => rw [e1, e2] at e; cases e
    | some q =>
      rw [e1, e2] at e
      dsimp only at e
      split at e
      · rename_i hc
        cases e
        simp only [Bool.and_eq_true] at hc
        exact ⟨p, q, rfl, rfl, hc.1, hc.2, rfl⟩
      · cases e
theorem RepW.sc {g : Gh} {H : Hp} {d : D} {v x : V} (r : RepW W g H d v) (e : scV d = some x) : v = x := by
  cases d with
  | non => cases e; exact r.non
  | bl b => cases e; exact r.bl
  | int b => cases e; exact r.int
  | str b => cases e; exact r.str
  | _ => cases e
theorem eqD_some {x y : D} {b : Bool} (e : eqD x y = some b) : (∃ u v, scV x = some u ∧ scV y = some v ∧ scal u v = true ∧ b = decide (u = v)) ∨ eqDeep x y = some b := by
  unfold eqD at e
  cases e1 : scV x with
  | none => rw [e1] at e; exact .inr e
  | some p =>
    cases e2 : scV y with
    | none => rw [e1, e2] at e; exact .inr e
    | some q =>
      rw [e1, e2] at e
      dsimp only at e
      split at e
      · rename_i hc
        cases e
        exact .inl ⟨p, q, rfl, rfl, hc, rfl⟩
      · exact .inr e
theorem c_eq (hK : X.K = W.K) {k : Nat} (hr : Room k X.A) : CmpOk W X .Eq opEq := ⟨_, op_eq.or (op_eqD hr.units), by
  intro C g H vh dx dy x y Q h rx ry q s
  unfold opEq at s q
  cases e : eqD dx dy with
  | none => rw [e] at s; cases s
  | some b =>
    rw [e] at q
    have q' : Q (.bl b) H := q _ rfl g H _ h (Ext.refl g H) (by simp [RepE, Rep])
    rcases eqD_some e with ⟨u, v, e1, e2, e3, rfl⟩ | e
    · rw [rx.sc e1, ry.sc e2]
      exact .inl ⟨e3, q'⟩
    · obtain ⟨p, p', e1, e2, s1, s2, rfl⟩ := eqDeep_some e
      rw [hK]
      exact .inr ⟨p, p', rx.dp e1, ry.dp e2, s1, s2, q'⟩⟩
theorem c_ne (hK : X.K = W.K) {k : Nat} (hr : Room k X.A) : CmpOk W X .NotEq opNe := ⟨_, op_ne.or (op_neD hr.units), by
  intro C g H vh dx dy x y Q h rx ry q s
  unfold opNe at s q
  cases e : eqD dx dy with
  | none => rw [e] at s; cases s
  | some b =>
    rw [e] at q
    have q' : Q (.bl (!b)) H := q _ rfl g H _ h (Ext.refl g H) (by simp [RepE, Rep])
    rcases eqD_some e with ⟨u, v, e1, e2, e3, rfl⟩ | e
    · rw [rx.sc e1, ry.sc e2]
      exact .inl ⟨e3, q'⟩
    · obtain ⟨p, p', e1, e2, s1, s2, rfl⟩ := eqDeep_some e
      rw [hK]
      exact .inr ⟨p, p', rx.dp e1, ry.dp e2, s1, s2, q'⟩⟩
/-- is None -/
def isNon : D → Bool
  | .non => true
  | _ => false
def opIs : D → D → Option EV
  | x, .non => vB (isNon x)
  | _, _ => none
def opIsNot : D → D → Option EV
  | x, .non => vB (!isNon x)
  | _, _ => none
theorem RepW.isNon {g : Gh} {H : Hp} {d : D} {v : V} (r : RepW W g H d v) : decide (v = .non) = isNon d := by
  rcases r with r | ⟨o, a, rfl, rfl, ho⟩
  · cases d <;> simp only [Rep] at r <;> first
      | (subst r; rfl)
      | (obtain ⟨a, vs, rfl, r⟩ := r; rfl)
      | (obtain ⟨a, S, n, rfl, r⟩ := r; rfl)
      | (obtain ⟨r, rfl⟩ := r; rfl)
      | (obtain ⟨a, rfl, r⟩ := r; rfl)
  · cases o <;> rfl
theorem c_is : CmpOk W X .Is opIs := ⟨_, op_isN, by
  intro C g H vh dx dy x y Q h rx ry q s
  cases dy <;> try (simp [opIs] at s; done)
  exact ⟨ry.non, q _ rfl g H _ h (Ext.refl g H) (by simp only [RepE, Rep]; rw [rx.isNon])⟩⟩
theorem c_isnot : CmpOk W X .IsNot opIsNot := ⟨_, op_notN, by
  intro C g H vh dx dy x y Q h rx ry q s
  cases dy <;> try (simp [opIsNot] at s; done)
  exact ⟨ry.non, q _ rfl g H _ h (Ext.refl g H) (by simp only [RepE, Rep]; rw [rx.isNon])⟩⟩
end
end
end PM

/-! PM5: subscripts, slices, in, attributes, built-ins by name. -/
namespace PM
open PySem L2
noncomputable section

/-! ### flat values -/
def scVs : List D → Option (List V)
  | [] => some []
  | x :: xs => match scV x, scVs xs with
    | some a, some b => some (a :: b)
    | _, _ => none
def dget : List (D × D) → Key → Option D
  | [], _ => none
  | (k, d) :: r, y => if keyD k = some y then some d else dget r y
def pIx : D → D → Option EV
  | .lst xs, .int i => (atI xs i).map EV.v
  | .tup xs, .int i => (atI xs i).map EV.v
  | .str z, .int i => if z.length ≤ lim then (atI z.cps.toList i).map fun c => EV.v (.str ⟨#[c]⟩) else none
  | .scr ns, .int i => (atI ns i).map fun j => EV.v (.int j)
  | .dct kvs, k => (keyD k).bind fun y => (dget kvs y).map EV.v
  | _, _ => none
def inD (x : D) (xs : List D) : Option Bool := match scV x, scVs xs with
  | some a, some bs => some (inV a bs)
  | _, _ => none
def pIn : D → D → Option Bool
  | x, .lst xs => inD x xs
  | x, .tup xs => inD x xs
  | k, .dct kvs => (keyD k).map fun y => (dget kvs y).isSome
  | .str x, .str z => if x.cps.size = 1 then some (decide (x.cps.toList.headD 0 ∈ z.cps.toList)) else none
  | _, _ => none
def opIn (x c : D) : Option EV := (pIn x c).bind vB
def opNotIn (x c : D) : Option EV := (pIn x c).bind fun b => vB (!b)

section
variable {W : Wd} {Wx : WX} {X : Cx} {a b c : Expr} {φ ψ χ : EF} {pos : Pos} {g g0 : Gh} {H H0 : Hp} {σ : St} {sl : Sl} {vh : VH} {C : Con}
theorem scV_flat {d : D} {x : V} (e : scV d = some x) : flatV x = true := by
  cases d <;> simp [scV] at e <;> subst e <;> rfl
theorem Reps.sc : ∀ {ds : List D} {vs xs : List V}, Reps W g H ds vs → scVs ds = some xs → vs = xs
  | [], vs, xs, r, e => by simp only [Reps] at r; simp only [scVs, Option.some.injEq] at e; rw [r, e]
  | d :: ds, vs, xs, r, e => by
    simp only [Reps] at r
    obtain ⟨v, s, rfl, h1, h2⟩ := r
    simp only [scVs] at e
    cases e1 : scV d with
    | none => rw [e1] at e; cases e
    | some a =>
      cases e2 : scVs ds with
      | none => rw [e1, e2] at e; cases e
      | some b =>
        rw [e1, e2] at e
        cases e
        rw [RepW.sc (.inl h1) e1, Reps.sc h2 e2]
theorem scVs_flat : ∀ {ds : List D} {xs : List V}, scVs ds = some xs → xs.all flatV = true
  | [], xs, e => by simp only [scVs, Option.some.injEq] at e; subst e; rfl
  | d :: ds, xs, e => by
    simp only [scVs] at e
    cases e1 : scV d with
    | none => rw [e1] at e; cases e
    | some a =>
      cases e2 : scVs ds with
      | none => rw [e1, e2] at e; cases e
      | some b =>
        rw [e1, e2] at e
        cases e
        rw [List.all_cons, scV_flat e1, scVs_flat e2]
        rfl
theorem inD_some {x : D} {xs : List D} {k : Bool} (e : inD x xs = some k) : ∃ a bs, scV x = some a ∧ scVs xs = some bs ∧ k = inV a bs := by
  unfold inD at e
  cases e1 : scV x with
  | none => rw [e1] at e; cases e
  | some a =>
    cases e2 : scVs xs with
    | none => rw [e1, e2] at e; cases e
    | some b => rw [e1, e2] at e; cases e; exact ⟨a, b, rfl, rfl, rfl⟩
theorem keyD_kV {k : D} {v : V} {y : Key} (r : RepW W g H k v) (e : keyD k = some y) : v = kV y := by
  cases k with
  | int i => cases e; exact r.int
  | str i => cases e; exact r.str
  | _ => cases e
theorem RepKV.get : ∀ {kvs : List (D × D)} {ws : List (Key × V)} (y : Key), RepKV W g H kvs ws → (dget kvs y = none ∧ valV ws y = none) ∨ ∃ d v, dget kvs y = some d ∧ valV ws y = some v ∧ Rep W g H d v
  | [], ws, y, r => by simp only [RepKV] at r; subst r; exact .inl ⟨rfl, rfl⟩
  | (k, d) :: kvs, ws, y, r => by
    simp only [RepKV] at r
    obtain ⟨k', v, s, rfl, e, h1, h2⟩ := r
    unfold dget
    by_cases hk : k' = y
    · subst hk
      rw [if_pos e, valV_pos rfl]
      exact .inr ⟨d, v, rfl, rfl, h1⟩
    · rw [if_neg (by rw [e]; exact fun z => hk (Option.some.inj z)), valV_neg hk]
      exact RepKV.get y h2
theorem Reps.atI {ds : List D} {vs : List V} {i : Int} {d : D} (r : Reps W g H ds vs) (e : L2.atI ds i = some d) : ∃ v, L2.atI vs i = some v ∧ Rep W g H d v := by
  unfold L2.atI at e ⊢
  rw [← r.length]
  cases h : ixN ds.length i with
  | none => rw [h] at e; cases e
  | some j => rw [h] at e; exact r.get e
def rIxD : R2 := fun x y H Q => ∃ a v, x = .ref a ∧ DGet H a y (some v) ∧ Q v H
theorem ix_dict (hu : X.A.units + 1 < cLine) : IxR X rIxD := by
  intro value slice pins s σ H x y v u Q I rx ry h hs
  obtain ⟨a, z, rfl, hg, q⟩ := h
  cases rx
  exact PyProof.Rows.tail_any (dict_typeIs I hg) PySem.F.slot_dict_getitem.lookup (d_getItem hu I hg ry fun w' s' I' r' => ⟨z, H, I', r', q⟩) hs
theorem opt_map_some {α β : Type} {o : Option α} {f : α → β} (h : (o.map f).isSome = true) : ∃ x, o = some x := by
  cases o with
  | none => cases h
  | some x => exact ⟨x, rfl⟩
theorem p_ix (hK : X.K = W.K) : Prim2 W X (fun x y H Q => rIx X.K x y H Q ∨ rIxD x y H Q) pIx := by
  intro C g H vh dx dy x y Q h rx ry q s
  cases dx with
  | lst xs =>
    cases dy with
    | int i =>
      obtain ⟨a, vs, rfl, h1, r1⟩ := rx.lst
      rw [ry.int]
      obtain ⟨d, e⟩ := opt_map_some s
      obtain ⟨v, ev, rv⟩ := r1.atI e
      exact .inl (.inl ⟨a, vs, i, v, rfl, rfl, SqL.of h1, ev, q (.v d) (by simp only [pIx, e, Option.map_some]) g H v h (Ext.refl g H) rv⟩)
    | _ => cases s
  | tup xs =>
    cases dy with
    | int i =>
      obtain ⟨a, vs, rfl, h1, r1⟩ := rx.tup
      rw [ry.int]
      obtain ⟨d, e⟩ := opt_map_some s
      obtain ⟨v, ev, rv⟩ := r1.atI e
      exact .inl (.inr (.inl ⟨a, vs, i, v, rfl, rfl, by rw [hK]; exact h1, ev, q (.v d) (by simp only [pIx, e, Option.map_some]) g H v h (Ext.refl g H) rv⟩))
    | _ => cases s
  | str z =>
    cases dy with
    | int i =>
      rw [rx.str, ry.int]
      simp only [pIx] at s q
      split at s
      · rename_i hc
        obtain ⟨d, e⟩ := opt_map_some s
        exact .inl (.inr (.inr ⟨z, i, d, rfl, rfl, by rw [← lim_eq]; exact hc, e, q (.v (.str ⟨#[d]⟩)) (by rw [if_pos hc, e]; rfl) g H _ h (Ext.refl g H) (by simp [RepE, Rep])⟩))
      · cases s
    | _ => cases s
  | scr ns =>
    cases dy with
    | int i =>
      obtain ⟨a, rfl, h1⟩ := rx.scr
      rw [ry.int]
      obtain ⟨j, e⟩ := opt_map_some s
      refine .inl (.inl ⟨a, ns.map V.int, i, .int j, rfl, rfl, by rw [hK]; exact h1, ?_, q (.v (.int j)) (by simp only [pIx, e, Option.map_some]) g H _ h (Ext.refl g H) (by simp [RepE, Rep])⟩)
      unfold L2.atI at e ⊢
      rw [List.length_map]
      cases hh : ixN ns.length i with
      | none => rw [hh] at e; cases e
      | some k =>
        rw [hh] at e
        have e : ns[k]? = some j := e
        show (ns.map V.int)[k]? = some (V.int j)
        rw [List.getElem?_map, e]
        rfl
    | _ => cases s
  | dct kvs =>
    obtain ⟨a, ws, rfl, h1, r1⟩ := rx.dct
    simp only [pIx] at s q
    cases e : keyD dy with
    | none => rw [e] at s; cases s
    | some k =>
      rw [e] at s q
      rcases r1.get k with ⟨e1, e2⟩ | ⟨d, v, e1, e2, rv⟩
      · dsimp only [Option.bind_some] at s; rw [e1] at s; cases s
      · exact .inr ⟨a, v, rfl, .inl ⟨ws, k, h1, keyD_kV ry e, e2.symm⟩, q (.v d) (by dsimp only [Option.bind_some]; rw [e1]; rfl) g H v h (Ext.refl g H) rv⟩
  | _ => cases s
theorem de_ix (hK : X.K = W.K) {k : Nat} (hr : Room k X.A) (ha : DE W Wx X a φ) (hb : DE W Wx X b ψ) (hs : PlainIx b) : DE W Wx X (.Subscript a b pos) (e2 pIx φ ψ) :=
  de_2 ha hb (p_ix hK) fun _ _ x y => pe_ix (ix_seq.or (ix_dict (hu_of hr))) x y hs
def rInX (K : PySem.W.Frag) (neg : Bool) : R2 := fun x y H Q => rIn K neg x y H Q ∨ ((∃ a o, y = .ref a ∧ DGet H a x o ∧ Q (.bl (if neg then !o.isSome else o.isSome)) H) ∨
  ∃ (c : Nat) (z : Str), x = .str ⟨#[c]⟩ ∧ y = .str z ∧ Q (.bl (if neg then !decide (c ∈ z.cps.toList) else decide (c ∈ z.cps.toList))) H)
theorem op_in_dict (hu : X.A.units + 1 < cLine) : OpR X (compareOp .In) (fun x y H Q => ∃ a o, y = .ref a ∧ DGet H a x o ∧ Q (.bl o.isSome) H) := by
  intro pins s σ H x y v u Q I rx ry h
  obtain ⟨a, o, rfl, hg, q⟩ := h
  cases ry
  exact d_in hu I hg rx fun s' I' => ⟨.bl o.isSome, H, I', rfl, q⟩
theorem op_notIn_dict (hu : X.A.units + 1 < cLine) : OpR X (compareOp .NotIn) (fun x y H Q => ∃ a o, y = .ref a ∧ DGet H a x o ∧ Q (.bl (!o.isSome)) H) := by
  intro pins s σ H x y v u Q I rx ry h
  obtain ⟨a, o, rfl, hg, q⟩ := h
  cases ry
  exact d_notIn hu I hg rx fun s' I' => ⟨.bl (!o.isSome), H, I', rfl, q⟩
theorem p_inG (hK : X.K = W.K) (neg : Bool) : Prim2 W X (rInX X.K neg) (fun x y => (pIn x y).bind fun b => vB (if neg then !b else b)) := by
  intro C g H vh dx dy x y Q h rx ry q s
  dsimp only at s q
  cases e : pIn dx dy with
  | none => rw [e] at s; cases s
  | some k =>
    rw [e] at q
    have q' : Q (.bl (if neg then !k else k)) H := q _ rfl g H _ h (Ext.refl g H) (by simp [RepE, Rep])
    cases dy with
    | lst xs =>
      obtain ⟨a, vs, rfl, h1, r1⟩ := ry.lst
      obtain ⟨a', bs, e1, e2, rfl⟩ := inD_some (x := dx) (xs := xs) (by cases dx <;> exact e)
      refine .inl ⟨a, vs, rfl, .inl (SqL.of h1), ?_, ?_, ?_⟩
      · rw [rx.sc e1]; exact scV_flat e1
      · rw [r1.sc e2]; exact scVs_flat e2
      · rw [rx.sc e1, r1.sc e2]; exact q'
    | tup xs =>
      obtain ⟨a, vs, rfl, h1, r1⟩ := ry.tup
      obtain ⟨a', bs, e1, e2, rfl⟩ := inD_some (x := dx) (xs := xs) (by cases dx <;> exact e)
      refine .inl ⟨a, vs, rfl, .inr (by rw [hK]; exact h1), ?_, ?_, ?_⟩
      · rw [rx.sc e1]; exact scV_flat e1
      · rw [r1.sc e2]; exact scVs_flat e2
      · rw [rx.sc e1, r1.sc e2]; exact q'
    | dct kvs =>
      obtain ⟨a, ws, rfl, h1, r1⟩ := ry.dct
      have e : (keyD dx).map (fun y => (dget kvs y).isSome) = some k := by cases dx <;> exact e
      cases e3 : keyD dx with
      | none => rw [e3] at e; cases e
      | some y =>
        rw [e3] at e
        cases e
        refine .inr (.inl ⟨a, valV ws y, rfl, .inl ⟨ws, y, h1, keyD_kV rx e3, rfl⟩, ?_⟩)
        dsimp only at q'
        rcases r1.get y with ⟨e1, e2⟩ | ⟨d, v, e1, e2, _⟩ <;> rw [e2] <;> rw [e1] at q' <;> exact q'
    | str z =>
      cases dx with
      | str w =>
        simp only [pIn] at e
        split at e
        · rename_i hc
          obtain ⟨⟨l⟩⟩ := w
          have hc : l.length = 1 := by simpa using hc
          obtain ⟨c, rfl⟩ := List.length_eq_one_iff.mp hc
          cases e
          rw [rx.str, ry.str]
          exact .inr (.inr ⟨c, z, rfl, rfl, q'⟩)
        · cases e
      | _ => cases e
    | _ => cases dx <;> cases e
theorem c_in (hK : X.K = W.K) {k : Nat} (hr : Room k X.A) : CmpOk W X .In opIn :=
  ⟨rInX X.K false, op_in_seq.or ((op_in_dict (hu_of hr)).or op_in_sign), p_inG hK false⟩
theorem c_notin (hK : X.K = W.K) {k : Nat} (hr : Room k X.A) : CmpOk W X .NotIn opNotIn :=
  ⟨rInX X.K true, op_notIn_seq.or ((op_notIn_dict (hu_of hr)).or op_notIn_sign), p_inG hK true⟩

/-! ### slices -/
abbrev OFn := Sl → VH → R (Option Int)
def oNone : OFn := fun _ vh => .ok none vh
def oSome (φ : EF) : OFn := fun sl vh => match φ sl vh with
  | .ok (.v (.int i)) vh' => .ok (some i) vh'
  | .ok _ _ => .bad
  | .exc x vh' => .exc x vh'
  | .bad => .bad
def ob (ω : OFn) (k : Option Int → EF) : EF := fun sl vh => match ω sl vh with
  | .ok o vh' => k o sl vh'
  | .exc x vh' => .exc x vh'
  | .bad => .bad
def PostO (W : Wd) (C : Con) (Wx : WX) (g0 : Gh) (H0 : Hp) (σ : St) (sl : Sl) (r : R (Option Int)) (Q : Option Int → Hp → Prop) : Prop :=
  match r with
  | .bad => False
  | .ok b vh => ∀ g H, RelH W C g vh H → RelS W g H sl σ → Ext g0 H0 g H → Q b H
  | .exc x vh => ∀ g H c od, RelH W C g vh H → RelS W g H sl σ → Ext g0 H0 g H → XRep W g H x c od → Wx c od σ H
def TDO (W : Wd) (C : Con) (Wx : WX) (ω : OFn) : TO := fun σ H Q => ∃ g sl vh, RelH W C g vh H ∧ RelS W g H sl σ ∧ PostO W C Wx g H σ sl (ω sl vh) Q
def DO (W : Wd) (Wx : WX) (X : Cx) (e : Option Expr) (ω : OFn) : Prop := ∀ C, PO X e (TDO W C Wx ω)
theorem po_imp {e : Option Expr} {t t' : TO} (h : PO X e t) (i : ∀ σ H Q, t' σ H Q → t σ H Q) : PO X e t' := ⟨fun pins s σ H Q I q => h.run pins s σ H Q I (i σ H Q q)⟩
theorem do_none : DO W Wx X none oNone := fun C => po_imp po_none fun σ H Q ⟨g, sl, vh, h, hs, q⟩ => q g H h hs (Ext.refl g H)
theorem do_some {e : Expr} (ha : DE W Wx X e φ) : DO W Wx X (some e) (oSome φ) := fun C => po_imp (po_some (ha C)) fun σ H Q ⟨g, sl, vh, h, hs, q⟩ => by
  refine ⟨g, sl, vh, h, hs, ?_⟩
  unfold oSome at q
  cases r : φ sl vh with
  | bad => rw [r] at q; exact q
  | exc x vh1 => rw [r] at q; exact q
  | ok e vh1 =>
    rw [r] at q
    cases e with
    | f o => exact q.elim
    | v d =>
      cases d with
      | int k => exact fun g1 H1 v h1 s1 x1 r1 => ⟨k, by simpa only [RepE, Rep] using r1, q g1 H1 h1 s1 x1⟩
      | _ => exact q.elim
theorem TDO.bind {ω : OFn} {k : Option Int → EF} {Q : VK} (h : RelH W C g vh H) (hs : RelS W g H sl σ) (e0 : Ext g0 H0 g H) (q : PostE W C Wx g0 H0 σ sl (ob ω k sl vh) Q) :
    TDO W C Wx ω σ H (fun b H1 => ∃ g1 vh1, RelH W C g1 vh1 H1 ∧ RelS W g1 H1 sl σ ∧ Ext g0 H0 g1 H1 ∧ Ext g H g1 H1 ∧ PostE W C Wx g0 H0 σ sl (k b sl vh1) Q) := by
  refine ⟨g, sl, vh, h, hs, ?_⟩
  unfold ob at q
  cases r : ω sl vh with
  | bad => rw [r] at q; exact q
  | ok b vh1 =>
    rw [r] at q
    exact fun g1 H1 h1 s1 x1 => ⟨g1, vh1, h1, s1, e0.trans x1, x1, q⟩
  | exc x vh1 =>
    rw [r] at q
    exact fun g1 H1 c od h1 s1 x1 r1 => q g1 H1 c od h1 s1 (e0.trans x1) r1
theorem TDO.mono {φ : OFn} {Q Q' : Option Int → Hp → Prop} (t : TDO W C Wx φ σ H Q) (m : ∀ v H, Q v H → Q' v H) : TDO W C Wx φ σ H Q' := by
  obtain ⟨g, sl, vh, h, hs, q⟩ := t
  refine ⟨g, sl, vh, h, hs, ?_⟩
  cases r : φ sl vh with
  | bad => rw [r] at q; exact q
  | ok e vh1 => rw [r] at q; exact fun g1 H1 h1 s1 x1 => m _ _ (q g1 H1 h1 s1 x1)
  | exc x vh1 => rw [r] at q; exact q
def cutL {α : Type} (xs : List α) (lo hi : Option Int) : List α := (xs.drop (HT.sIx xs.length 0 lo)).take (HT.sIx xs.length xs.length hi - HT.sIx xs.length 0 lo)
def pCut (d : D) (lo hi : Option Int) : Option EV := match d with
  | .lst xs => some (.f (.lst (cutL xs lo hi)))
  | .tup xs => some (.v (.tup (cutL xs lo hi)))
  | .str z => if z.length ≤ lim then vS (cutS z lo hi) else none
  | _ => none
def eCut (φ : EF) (ω υ : OFn) : EF := eb φ fun d => ob ω fun lo => ob υ fun hi _ vh => lift (pCut (view vh d) lo hi) vh
theorem Reps.cut {xs : List D} {vs : List V} (r : Reps W g H xs vs) (lo hi : Option Int) : Reps W g H (cutL xs lo hi) (cutV vs lo hi) := by
  unfold cutL cutV
  rw [r.length]
  exact (r.drop _).take _
theorem cutL_all {xs : List D} {lo hi : Option Int} (h : HT.sIx xs.length 0 lo = 0 ∧ HT.sIx xs.length xs.length hi = xs.length) : cutL xs lo hi = xs := by
  unfold cutL
  rw [h.1, h.2]
  simp
theorem de_cut (hK : X.K = W.K) {lo hi : Option Expr} {ω υ : OFn} {p2 : Pos} (ha : DE W Wx X a φ) (hl : DO W Wx X lo ω) (hh : DO W Wx X hi υ) : DE W Wx X (.Subscript a (.Slice lo hi none p2) pos) (eCut φ ω υ) := fun C =>
  pe_imp (pe_slice (sl_list.or (sl_tupA.or sl_str)) (ha C) (hl C) (hh C)) fun σ H Q ⟨g, sl, vh, h, hs, q⟩ =>
  (TDE.bind h hs (Ext.refl g H) q).mono fun v1 H1 ⟨g2, vh2, d1, i2, s2, x2, x2', p2, q2⟩ =>
  (TDO.bind i2 s2 x2 q2).mono fun lo H3 ⟨g3, vh3, i3, s3, x3, x3', q3⟩ =>
  (TDO.bind i3 s3 x3 q3).mono fun hi H4 ⟨g4, vh4, i4, s4, x4, x4', q4⟩ => by
    have rx := i4.view (Rep.mono x4' _ _ (Rep.mono x3' _ _ p2))
    cases e : view vh4 d1 with
    | lst xs =>
      rw [e] at rx q4
      obtain ⟨a, vs, rfl, h1, r1⟩ := rx.lst
      refine .inl ⟨a, vs, rfl, SqL.of h1, fun p np => ?_⟩
      have x5 := Ext.new (u := .lst (cutV vs lo hi)) i4 np
      exact q4 g4 _ _ (i4.new np) (s4.mono x5) (x4.trans x5) (new_lst i4 np (r1.cut lo hi))
    | tup xs =>
      have rx0 := rx
      rw [e] at rx q4
      obtain ⟨a, vs, rfl, h1, r1⟩ := rx.tup
      refine .inr (.inl ⟨a, vs, rfl, by rw [hK]; exact h1, fun hc => ?_, fun hc p np => ?_⟩)
      · rw [← r1.length] at hc
        refine q4 g4 _ _ i4 s4 x4 ?_
        rw [cutL_all hc]
        rcases rx with rx | ⟨o, a', e', _⟩
        · exact rx
        · cases o <;> cases e'
      · obtain ⟨a1, b1, c1⟩ := new_tup i4 np (r1.cut lo hi)
        exact q4 _ _ _ a1 (s4.mono b1) (x4.trans b1) c1
    | str z =>
      rw [e] at rx q4
      rw [rx.str]
      simp only [pCut] at q4
      split at q4
      · rename_i hc
        exact .inr (.inr ⟨z, rfl, by rw [← lim_eq]; exact hc, q4 g4 H4 _ i4 s4 x4 (by simp [RepE, Rep])⟩)
      · exact q4.elim
    | _ => rw [e] at q4; exact q4.elim

/-! ### attributes -/
/-- which attributes of which classes are plain fields -/
structure Flds (W : Wd) (K : PySem.W.Frag) (fa : Nat → Str → Bool) : Prop where
  ok : ∀ c f, fa c f = true → Cls K (W.cls c) ∧ NoAttr K (W.cls c) f
def fget : List (Str × D) → Str → Option D
  | [], _ => none
  | (k, d) :: r, f => if f = k then some d else fget r f
def pFld (fa : Nat → Str → Bool) (f : Str) : D → Option EV
  | .ins c fs => if fa c f = true then (fget fs f).map EV.v else none
  | _ => none
theorem RepFs.get : ∀ {fs : List (Str × D)} {ws : List (Str × V)} {f : Str} {d : D}, RepFs W g H fs ws → fget fs f = some d → ∃ v, ws.lookup f = some v ∧ Rep W g H d v
  | [], ws, f, d, r, e => by cases e
  | (k, x) :: fs, ws, f, d, r, e => by
    simp only [RepFs] at r
    obtain ⟨v, s, rfl, h1, h2⟩ := r
    unfold fget at e
    by_cases hk : f = k
    · subst hk
      rw [if_pos rfl] at e
      cases e
      exact ⟨v, by simp, h1⟩
    · rw [if_neg hk] at e
      obtain ⟨w, e1, r1⟩ := RepFs.get h2 e
      refine ⟨w, ?_, r1⟩
      rw [List.lookup_cons, beq_eq_false_iff_ne.mpr hk]
      exact e1
theorem de_fld {fa : Nat → Str → Bool} {f : Str} (hK : X.K = W.K) (T : Flds W X.K fa) (ha : DE W Wx X a φ) (hb : attributeBase a f X.env (eval a X.env) = eval a X.env) : DE W Wx X (.Attribute a f pos) (e1 (pFld fa f) φ) :=
  de_1 ha (r := fun x H Q => ∃ a C dx fs v, x = .ref a ∧ H a = some (.ins C dx fs) ∧ Cls X.K C ∧ NoAttr X.K C f ∧ fs.lookup f = some v ∧ Q v H) (by
    intro C g H vh dx x Q h rx q s
    cases dx with
    | ins c fs =>
      obtain ⟨a, dx, gs, rfl, h1, r1⟩ := rx.ins
      simp only [pFld] at s q
      split at s
      · rename_i hc
        obtain ⟨d, e⟩ := opt_map_some s
        obtain ⟨v, e1, rv⟩ := r1.get e
        obtain ⟨t1, t2⟩ := T.ok c f hc
        exact ⟨a, W.cls c, dx, gs, v, rfl, h1, t1, t2, e1, q (.v d) (by rw [if_pos hc, e]; rfl) g H v h (Ext.refl g H) rv⟩
      · cases s
    | _ => cases s) fun ta x => pe_fld x hb
end
end
end PM

/-! PM6: statements without loops, defs, calls. -/
namespace PM
open PySem L2
noncomputable section

inductive RS where
  | nx (sl : Sl) (vh : VH)
  | rt (d : D) (vh : VH)
  | bk (sl : Sl) (vh : VH)
  | ct (sl : Sl) (vh : VH)
  | ex (x : XV) (sl : Sl) (vh : VH)
  | bad
abbrev SF := Sl → VH → RS
def PostS (W : Wd) (C : Con) (Wx : WX) (g0 : Gh) (H0 : Hp) (r : RS) (En : Ends) : Prop :=
  match r with
  | .bad => False
  | .nx sl vh => ∀ g H σ, RelH W C g vh H → RelS W g H sl σ → Ext g0 H0 g H → En.nx σ H
  | .bk sl vh => ∀ g H σ, RelH W C g vh H → RelS W g H sl σ → Ext g0 H0 g H → En.bk σ H
  | .ct sl vh => ∀ g H σ, RelH W C g vh H → RelS W g H sl σ → Ext g0 H0 g H → En.ct σ H
  | .rt d vh => ∀ g H v, RelH W C g vh H → Ext g0 H0 g H → Rep W g H d v → En.rt v H
  | .ex x sl vh => ∀ g H σ c od, RelH W C g vh H → RelS W g H sl σ → Ext g0 H0 g H → XRep W g H x c od → Wx c od σ H
def TDS (W : Wd) (C : Con) (Wx : WX) (δ : SF) : TS := fun En σ H => ∃ g sl vh, RelH W C g vh H ∧ RelS W g H sl σ ∧ PostS W C Wx g H (δ sl vh) En
def DS (W : Wd) (Wx : WX) (X : Cx) (st : Stmt) (δ : SF) : Prop := ∀ C, PS X st (TDS W C Wx δ)
def DSs (W : Wd) (Wx : WX) (X : Cx) (st : List Stmt) (δ : SF) : Prop := ∀ C, PSs X st (TDS W C Wx δ)

def sNext : SF := fun sl vh => .nx sl vh
def sSeq (δ ε : SF) : SF := fun sl vh => match δ sl vh with
  | .nx sl' vh' => ε sl' vh'
  | r => r
def sDrop (φ : EF) : SF := fun sl vh => match φ sl vh with
  | .ok _ vh' => .nx sl vh'
  | .exc x vh' => .ex x sl vh'
  | .bad => .bad
def sRet (φ : EF) : SF := fun sl vh => match φ sl vh with
  | .ok e vh' => .rt e.d vh'
  | .exc x vh' => .ex x sl vh'
  | .bad => .bad
def sRetH (φ : EF) : SF := fun sl vh => match φ sl vh with
  | .ok (.f o) vh' => .rt (.ref vh'.length) (vh' ++ [o])
  | .ok _ _ => .bad
  | .exc x vh' => .ex x sl vh'
  | .bad => .bad
def sRetN : SF := fun _ vh => .rt .non vh
def sIf (τ : TF) (δ ε : SF) : SF := fun sl vh => match τ sl vh with
  | .ok true vh' => δ sl vh'
  | .ok false vh' => ε sl vh'
  | .exc x vh' => .ex x sl vh'
  | .bad => .bad
def sSet (i : Nat) (φ : EF) : SF := fun sl vh => match φ sl vh with
  | .ok e vh' => .nx (sl.set i (some e.d)) vh'
  | .exc x vh' => .ex x sl vh'
  | .bad => .bad
/-- the new object goes onto the virtual heap -/
def sSetH (i : Nat) (φ : EF) : SF := fun sl vh => match φ sl vh with
  | .ok (.f o) vh' => .nx (sl.set i (some (.ref vh'.length))) (vh' ++ [o])
  | .ok _ _ => .bad
  | .exc x vh' => .ex x sl vh'
  | .bad => .bad

section
variable {W : Wd} {C : Con} {Wx : WX} {X : Cx} {g g0 : Gh} {H H0 : Hp} {σ : St} {sl : Sl} {vh : VH} {φ ψ χ : EF} {δ ε : SF} {τ : TF} {pos : Pos} {e : Expr} {st : Stmt} {rest : List Stmt}
theorem PostS.mono {r : RS} {A B : Ends} (q : PostS W C Wx g H r A) (h1 : ∀ σ H, A.nx σ H → B.nx σ H) (h2 : ∀ v H, A.rt v H → B.rt v H) (h3 : ∀ σ H, A.bk σ H → B.bk σ H) (h4 : ∀ σ H, A.ct σ H → B.ct σ H) : PostS W C Wx g H r B := by
  cases r with
  | bad => exact q
  | nx sl vh => exact fun g H σ a b c => h1 _ _ (q g H σ a b c)
  | bk sl vh => exact fun g H σ a b c => h3 _ _ (q g H σ a b c)
  | ct sl vh => exact fun g H σ a b c => h4 _ _ (q g H σ a b c)
  | rt d vh => exact fun g H v a b c => h2 _ _ (q g H v a b c)
  | ex x sl vh => exact q
theorem PostS.at {r : RS} {A : Ends} (e0 : Ext g0 H0 g H) (q : PostS W C Wx g0 H0 r A) : PostS W C Wx g H r A := by
  cases r with
  | bad => exact q
  | nx sl vh => exact fun g H σ a b c => q g H σ a b (e0.trans c)
  | bk sl vh => exact fun g H σ a b c => q g H σ a b (e0.trans c)
  | ct sl vh => exact fun g H σ a b c => q g H σ a b (e0.trans c)
  | rt d vh => exact fun g H v a b c => q g H v a (e0.trans b) c
  | ex x sl vh => exact fun g H σ c od a b d r => q g H σ c od a b (e0.trans d) r
theorem TDS.go {En : Ends} (h : RelH W C g vh H) (hs : RelS W g H sl σ) (e0 : Ext g0 H0 g H) (q : PostS W C Wx g0 H0 (δ sl vh) En) : TDS W C Wx δ En σ H := ⟨g, sl, vh, h, hs, q.at e0⟩
theorem ds_pass : DS W Wx X (.Pass pos) sNext := fun C => ps_imp ps_pass fun En σ H ⟨g, sl, vh, h, hs, q⟩ => q g H σ h hs (Ext.refl g H)
theorem ds_doc {x j pos'} : DS W Wx X (.Expr (.Constant (.str x) j pos) pos') sNext := fun C => ps_imp ps_doc fun En σ H ⟨g, sl, vh, h, hs, q⟩ => q g H σ h hs (Ext.refl g H)
theorem ds_break : DS W Wx X (.Break pos) (fun sl vh => .bk sl vh) := fun C => ps_imp ps_break fun En σ H ⟨g, sl, vh, h, hs, q⟩ => q g H σ h hs (Ext.refl g H)
theorem ds_continue : DS W Wx X (.Continue pos) (fun sl vh => .ct sl vh) := fun C => ps_imp ps_continue fun En σ H ⟨g, sl, vh, h, hs, q⟩ => q g H σ h hs (Ext.refl g H)
/-- what is never come to -/
theorem ds_bad : DS W Wx X st (fun _ _ => .bad) := fun C => ps_imp (ps_never (st := st)) fun En σ H ⟨g, sl, vh, h, hs, q⟩ => q
theorem dss_bad {sts : List Stmt} : DSs W Wx X sts (fun _ _ => .bad) := fun C => pss_imp (pss_never (sts := sts)) fun En σ H ⟨g, sl, vh, h, hs, q⟩ => q
theorem dss_nil : DSs W Wx X [] sNext := fun C => pss_imp pss_nil fun En σ H ⟨g, sl, vh, h, hs, q⟩ => q g H σ h hs (Ext.refl g H)
theorem dss_one (h : DS W Wx X st δ) : DSs W Wx X [st] δ := fun C => pss_one (h C)
theorem dss_cons (h1 : DS W Wx X st δ) (h2 : DSs W Wx X rest ε) : DSs W Wx X (st :: rest) (sSeq δ ε) := fun C => pss_imp (pss_cons (h1 C) (h2 C)) fun En σ H ⟨g, sl, vh, h, hs, q⟩ => by
  refine ⟨g, sl, vh, h, hs, ?_⟩
  unfold sSeq at q
  cases r : δ sl vh with
  | nx sl' vh' => rw [r] at q; exact fun g1 H1 σ1 h1 s1 x1 => TDS.go h1 s1 x1 q
  | bad => rw [r] at q; exact q
  | bk sl vh => rw [r] at q; exact q
  | ct sl vh => rw [r] at q; exact q
  | rt d vh => rw [r] at q; exact q
  | ex x sl vh => rw [r] at q; exact q
/-- a statement that goes on with a value -/
theorem TDE.stm {k : V → Hp → Prop} (h : RelH W C g vh H) (hs : RelS W g H sl σ) (q : match φ sl vh with
    | .ok e vh' => ∀ g1 H1 v, RelH W C g1 vh' H1 → RelS W g1 H1 sl σ → Ext g H g1 H1 → RepE W C g1 H1 e v → k v H1
    | .exc x vh' => ∀ g H0 c od, RelH W C g vh' H0 → RelS W g H0 sl σ → XRep W g H0 x c od → Wx c od σ H0
    | .bad => False) : TDE W C Wx φ σ H k := by
  refine ⟨g, sl, vh, h, hs, ?_⟩
  cases r : φ sl vh with
  | bad => rw [r] at q; exact q
  | ok e vh' => rw [r] at q; exact q
  | exc x vh' => rw [r] at q; exact fun g1 H1 c od a b d e => q g1 H1 c od a b e
theorem ds_expr (he : DE W Wx X e φ) (hsw : swapsWith e none pos.line X.env = pure false := by rfl) : DS W Wx X (.Expr e pos) (sDrop φ) := fun C => ps_imp (ps_expr (he C) hsw) fun En σ H ⟨g, sl, vh, h, hs, q⟩ => by
  refine ⟨g, sl, vh, h, hs, ?_⟩
  unfold sDrop at q
  cases r : φ sl vh with
  | bad => rw [r] at q; exact q
  | ok e vh' => rw [r] at q; exact fun g1 H1 v1 h1 s1 x1 r1 => q g1 H1 σ h1 s1 x1
  | exc x vh' => rw [r] at q; exact fun g1 H1 c od a b d e => q g1 H1 σ c od a b d e
theorem ds_ret (he : DE W Wx X e φ) : DS W Wx X (.Return (some e) pos) (sRet φ) := fun C => ps_imp (ps_ret (he C)) fun En σ H ⟨g, sl, vh, h, hs, q⟩ => by
  refine ⟨g, sl, vh, h, hs, ?_⟩
  unfold sRet at q
  cases r : φ sl vh with
  | bad => rw [r] at q; exact q
  | ok e vh' =>
    rw [r] at q
    intro g1 H1 v1 h1 s1 x1 r1
    obtain ⟨g2, h2, x2, r2⟩ := r1.freeze h1
    exact q g2 H1 v1 h2 (x1.trans x2) r2
  | exc x vh' => rw [r] at q; exact fun g1 H1 c od a b d e => q g1 H1 σ c od a b d e
theorem RepE.lay {o : O} {v : V} (h : RelH W C g vh H) (r : RepE W C g H (.f o) v) : ∃ g', RelH W C g' (vh ++ [o]) H ∧ Ext g H g' H ∧ Rep W g' H (.ref vh.length) v := by
  obtain ⟨p, rfl, ho, nf, np, nfr⟩ := r
  refine ⟨g.put p, h.put ho nf np nfr, Ext.putG g H p, ?_⟩
  simp only [Rep, h.len]
  exact ⟨Nat.lt_succ_self _, by simp [Gh.put]⟩
theorem ds_retH (he : DE W Wx X e φ) : DS W Wx X (.Return (some e) pos) (sRetH φ) := fun C => ps_imp (ps_ret (he C)) fun En σ H ⟨g, sl, vh, h, hs, q⟩ => by
  refine ⟨g, sl, vh, h, hs, ?_⟩
  unfold sRetH at q
  cases r : φ sl vh with
  | bad => rw [r] at q; exact q
  | ok e vh' =>
    rw [r] at q
    cases e with
    | v d => exact q.elim
    | f o =>
      intro g1 H1 v1 h1 s1 x1 r1
      obtain ⟨g2, h2, x2, r2⟩ := r1.lay h1
      exact q g2 H1 v1 h2 (x1.trans x2) r2
  | exc x vh' => rw [r] at q; exact fun g1 H1 c od a b d e => q g1 H1 σ c od a b d e
theorem ds_retN : DS W Wx X (.Return none pos) sRetN := fun C => ps_imp ps_retN fun En σ H ⟨g, sl, vh, h, hs, q⟩ => q g H .non h (Ext.refl g H) (by simp [Rep])
theorem ds_if {c : Expr} {a b : List Stmt} (hc : DT W Wx X c τ) (ha : DSs W Wx X a δ) (hb : DSs W Wx X b ε) : DS W Wx X (.If c a b pos) (sIf τ δ ε) := fun C => ps_imp (ps_if (hc C) (ha C) (hb C)) fun En σ H ⟨g, sl, vh, h, hs, q⟩ => by
  refine ⟨g, sl, vh, h, hs, ?_⟩
  unfold sIf at q
  cases r : τ sl vh with
  | bad => rw [r] at q; exact q
  | ok b vh' =>
    rw [r] at q
    intro g1 H1 h1 s1 x1
    cases b with
    | true => exact TDS.go h1 s1 x1 q
    | false => exact TDS.go h1 s1 x1 q
  | exc x vh' => rw [r] at q; exact fun g1 H1 c od a b d e => q g1 H1 σ c od a b d e
theorem ds_set {i : Nat} {x : Str} {pos' : Pos} (hN : X.N.Nodup) (hi : X.N[i]? = some x) (hx : Loc X.env.scope x) (he : DE W Wx X e φ) (hsw : swapsWith e (some (.Name x pos')) pos.line X.env = pure false := by rfl) (hf : X.fn x = true ∨ X.env.scope.names.lookup x = some .local := by first | exact .inl rfl | exact .inr rfl | assumption) :
    DS W Wx X (.Assign [.Name x pos'] e pos) (sSet i φ) := fun C => ps_imp (ps_set hN hi hx (he C) hsw hf) fun En σ H ⟨g, sl, vh, h, hs, q⟩ => by
  refine ⟨g, sl, vh, h, hs, ?_⟩
  unfold sSet at q
  cases r : φ sl vh with
  | bad => rw [r] at q; exact q
  | ok e vh' =>
    rw [r] at q
    intro g1 H1 v1 h1 s1 x1 r1
    obtain ⟨g2, h2, x2, r2⟩ := r1.freeze h1
    exact q g2 H1 _ h2 ((s1.mono x2).set r2) (x1.trans x2)
  | exc x vh' => rw [r] at q; exact fun g1 H1 c od a b d e => q g1 H1 σ c od a b d e
theorem ds_setH {i : Nat} {x : Str} {pos' : Pos} (hN : X.N.Nodup) (hi : X.N[i]? = some x) (hx : Loc X.env.scope x) (he : DE W Wx X e φ) (hsw : swapsWith e (some (.Name x pos')) pos.line X.env = pure false := by rfl) (hf : X.fn x = true ∨ X.env.scope.names.lookup x = some .local := by first | exact .inl rfl | exact .inr rfl | assumption) :
    DS W Wx X (.Assign [.Name x pos'] e pos) (sSetH i φ) := fun C => ps_imp (ps_set hN hi hx (he C) hsw hf) fun En σ H ⟨g, sl, vh, h, hs, q⟩ => by
  refine ⟨g, sl, vh, h, hs, ?_⟩
  unfold sSetH at q
  cases r : φ sl vh with
  | bad => rw [r] at q; exact q
  | ok e vh' =>
    rw [r] at q
    cases e with
    | v d => exact q.elim
    | f o =>
      intro g1 H1 v1 h1 s1 x1 r1
      obtain ⟨g2, h2, x2, r2⟩ := r1.lay h1
      exact q g2 H1 _ h2 ((s1.mono x2).set r2) (x1.trans x2)
  | exc x vh' => rw [r] at q; exact fun g1 H1 c od a b d e => q g1 H1 σ c od a b d e
end

/-! ### defs -/
/-- at a call: all that is tracked but the virtual heap is to stay -/
def callC (H : Hp) (g : Gh) : Con := ⟨H, fun a => H a ≠ none ∧ ∀ i, i < g.n → g.m i ≠ a, fun a => (H a ≠ none ∧ ∀ i, i < g.n → g.m i ≠ a) ∧ ¬ g.F a⟩
def PostD (W : Wd) (g0 : Gh) (H0 : Hp) (r : R D) (Q : VK) (E : XK) : Prop :=
  match r with
  | .bad => False
  | .ok d vh => ∀ g H v, RelH W (callC H0 g0) g vh H → Ext g0 H0 g H → Rep W g H d v → Q v H
  | .exc x vh => ∀ g H c od, RelH W (callC H0 g0) g vh H → Ext g0 H0 g H → XRep W g H x c od → E c od H
/-- a def's promise, by its denotation -/
def spD (W : Wd) (np : Nat) (Φ : Den) : Sp := fun vs H Q E => ∃ g ds vh, RelH W (callC H g) g vh H ∧ Reps W g H ds vs ∧ ds.length = np ∧ PostD W g H (Φ ds vh) Q E
theorem RelH.call {W C g vh H} (h : RelH W C g vh H) : RelH W (callC H g) g vh H :=
  ⟨h.len, h.vh, h.inj, h.nf, h.ff, fun a ha => ⟨rfl, ha.1⟩, fun i hi ha => ha.2 i hi rfl, fun a ha => ha⟩
theorem RelH.back {W C g vh H g' vh' H'} (h : RelH W C g vh H) (h' : RelH W (callC H g) g' vh' H') : RelH W C g' vh' H' := by
  have k : ∀ a, C.Fr a → (callC H g).Fr a := fun a ha => ⟨(h.fr a ha).2, fun i hi e => h.nfr i hi (by rw [e]; exact ha)⟩
  refine ⟨h'.len, h'.vh, h'.inj, h'.nf, h'.ff, fun a ha => ?_, fun i hi ha => h'.nfr i hi (k _ ha), fun a ha => ⟨(h.pd a ha).1, (h'.pd a ⟨k a (h.pd a ha).1, (h.pd a ha).2⟩).2⟩⟩
  obtain ⟨e1, e2⟩ := h'.fr a (k a ha)
  exact ⟨e1.trans (h.fr a ha).1, e2⟩
structure PFn (W : Wd) (P : Program) (w : World) (mg : Str → Option Value) (base : Heap) (k : Nat) (f : Addr) (fd : FuncData) (ps : List Str) (Φ : Den) : Prop where
  run : ∀ (A : Around) (outer : List Env) (s : Shared) (H : Hp) (args : Args) (us : List Value) (vs : List V) (Q : VK) (E : XK), Room k A → A.guards = some [] → Env0 P w W.K mg base A outer s H → BindsTo s fd args (ps.zip us) → Vals vs us → spD W ps.length Φ vs H Q E →
    codeAny (model P w) A (.call (.ref f) args) (CR (CX P w) outer P w H s Q E) s
theorem PFn.mono {W P w mg base j k f fd ps Φ} (F : PFn W P w mg base j f fd ps Φ) (h : j ≤ k) : PFn W P w mg base k f fd ps Φ := ⟨fun A outer s H args us vs Q E hr => F.run A outer s H args us vs Q E (hr.mono h)⟩
theorem spD.len {W np Φ vs H Q E} (h : spD W np Φ vs H Q E) : vs.length = np := by
  obtain ⟨g, ds, vh, _, r, e, _⟩ := h
  rw [← r.length]; exact e
/-- a denotation that says less -/
def Den.le (Φ Ψ : Den) (np : Nat) : Prop := ∀ ds vh, ds.length = np → Φ ds vh = .bad ∨ Φ ds vh = Ψ ds vh
theorem PFn.weak {W P w mg base k f fd ps Φ Ψ} (F : PFn W P w mg base k f fd ps Ψ) (h : Den.le Φ Ψ ps.length) : PFn W P w mg base k f fd ps Φ := ⟨fun A outer s H args us vs Q E hr hg he hb hv ⟨g, ds, vh, a, b, c, q⟩ =>
  F.run A outer s H args us vs Q E hr hg he hb hv ⟨g, ds, vh, a, b, c, by
    rcases h ds vh c with e | e
    · rw [e] at q; exact q.elim
    · rw [← e]; exact q⟩⟩
end
end PM

/-! PM7: a def by its body; calls. -/
namespace PM
open PySem L2 PySem.Spec PyProof.Rows
noncomputable section

/-- what the body's denotation makes of arguments -/
def slots (n : Nat) (ds : List D) : Sl := ds.map some ++ List.replicate (n - ds.length) none
def outD : RS → R D
  | .rt d vh => .ok d vh
  | .nx _ vh => .ok .non vh
  | .ex x _ vh => .exc x vh
  | _ => .bad
def runD (n : Nat) (δ : SF) : Den := fun ds vh => outD (δ (slots n ds) vh)
theorem relS_slots {W : Wd} {g : Gh} {H : Hp} {N : List Str} {ds : List D} {vs : List V} (r : Reps W g H ds vs) (hl : vs.length ≤ N.length) : RelS W g H (slots N.length ds) (L2.start N vs) := by
  refine ⟨by simp only [slots, L2.start, List.length_append, List.length_map, List.length_replicate]; rw [r.length], fun i d e => ?_⟩
  unfold slots at e
  unfold L2.start
  have hi : i < ds.length := by
    by_cases hi : i < ds.length
    · exact hi
    · rw [List.getElem?_append_right (by simpa using hi)] at e
      rw [List.getElem?_replicate] at e
      split at e <;> cases e
  rw [List.getElem?_append_left (by simpa using hi), List.getElem?_map] at e
  cases e1 : ds[i]? with
  | none => rw [e1] at e; cases e
  | some d' =>
    rw [e1] at e
    cases e
    obtain ⟨v, e2, r2⟩ := r.get e1
    refine ⟨v, ?_, r2⟩
    rw [List.getElem?_append_left (by rw [List.length_map, ← r.length]; exact hi), List.getElem?_map, e2]
    rfl
/-- the exceptions of a def's body -/
abbrev WxE (E : XK) : WX := fun cls d _ H => E cls d H
section
variable {W : Wd} {P : Program} {w : World} {mg : Str → Option Value} {base : Heap} {N ps : List Str} {qual : Str} {scope : Scope} {f : Addr} {cd : Value} {A : Around} {outer : List Env} {s : Shared} {H : Hp} {E : XK} {k : Nat}
theorem cz_of (S : FnScope N ps scope) (hr : Room k (A.deeper (envOfC qual scope s.heap.objs.size f cd))) (hg : A.guards = some []) :
    Cz W (WxE E) k (cxOf (CX P w) P w W.K mg base N qual scope f cd A outer s H E) := by
  refine ⟨rfl, rfl, takes_of rfl rfl rfl rfl, hr, hg, passes_of rfl, S.nd⟩
end
/-- a def as it stands: its text, by places -/
structure Txt (K : PySem.W.Frag) (x qual : Str) (st : Stmt) (f : Addr) (fd : FuncData) : Prop where
  ex : ∃ (oc : Value) (od : Option Addr) (dV kV doc pm : Value) (an : Option Addr) (cdv ct : Value) (osl : Array (Option Value)),
    fd = PySem.W.fnOf x qual (defArgs st) (defBody st) (defScope st) dV kV doc pm an cdv ct ∧ K.lookup f = some ⟨oc, od, .func fd, osl⟩ ∧ PySem.W.codeIn K cdv qual = true
  kp : PySem.W.keepIn K (.ref f) = true
theorem PFn.mk' {W : Wd} {P : Program} {w : World} {mg : Str → Option Value} {base : Heap} {x qual : Str} {st : Stmt} {f : Addr} {fd : FuncData} {N ps : List Str} {k : Nat} {δ : SF}
    (F : Txt W.K x qual st f fd) (S : FnScope N ps (defScope st))
    (body : ∀ (cdv : Value) (A : Around) (outer : List Env) (s : Shared) (H : Hp) (E : XK), Cz W (WxE E) k (cxOf (CX P w) P w W.K mg base N qual (defScope st) f cdv A outer s H E) →
      DSs W (WxE E) (cxOf (CX P w) P w W.K mg base N qual (defScope st) f cdv A outer s H E) (defBody st) δ) :
    PFn W P w mg base (k + 1) f fd ps (runD N.length δ) := by
  obtain ⟨oc, od, dV, kV, doc, pm, an, cdv, ct, osl, rfl, lk, hcd⟩ := F.ex
  constructor
  intro A outer s H args us vs Q E hr hg e0 hb r ⟨g, ds, vh, h, rd, hl, q⟩
  have hlen : vs.length = ps.length := by rw [← rd.length]; exact hl
  have hpl : ps.length ≤ N.length := by
    have := congrArg List.length S.pre
    rw [List.length_take] at this
    omega
  have stay : ∀ b o, base.get? b = some o → s.heap.get? b = some o := fun b o e => (e0.bs b o e).1
  have hK : W.K.In s.heap := e0.mod.kin.keeps stay
  have hlim : s.heap.NoLimit := e0.mod.nolimit.keeps stay
  have kinds : ∀ y ∈ ps.zip us, (defScope st).names.lookup y.1 = some .local ∨
      ((defScope st).names.lookup y.1 = some .cell ∧ ((cellsFrom (s.heap.objs.size + 1) (defScope st).names []).lookup y.1).isSome = true) := by
    rintro ⟨n, v⟩ hy
    rcases S.par n (List.of_mem_zip hy).1 with z | z
    · exact .inl z
    · exact .inr ⟨z, PySem.W.cellsFrom_some _ _ _ (.inl z)⟩
  refine codeAny_call_function hr.depth (hK _ _ lk) rfl S.co S.gen rfl (PySem.W.codeRec_of hK hcd) (hb _ _ _ _ ?_)
  refine wpAny_newFunctionEnv_cells S.kind kinds fun env he s1 x => ?_
  subst he
  refine ⟨hlim.keeps x.toInCall.keep, codeAny_func ?_⟩
  have cz := cz_of (W := W) (P := P) (w := w) (mg := mg) (base := base) (qual := qual) (f := f) (cd := cdv) (outer := outer) (s := s) (H := H) (E := E) S (hr.deeper _) hg
  have I := inv_start (CX := CX P w) (E := E) (P := P) (K := W.K) (mg := mg) (qual := qual) (f := f) (cd := cdv) S hr.hd e0 hlen r x
  have B := body cdv A outer s H E cz (callC H g)
  have q2 : PostS W (callC H g) (WxE E) g H (δ (slots N.length ds) vh) { nx := fun _ H' => Q .non H', rt := Q } := by
    unfold runD outD at q
    cases e : δ (slots N.length ds) vh with
    | bad => rw [e] at q; exact q
    | nx sl vh' => rw [e] at q; exact fun g1 H1 σ1 h1 s1 x1 => q g1 H1 .non h1 x1 (by simp [Rep])
    | rt d vh' => rw [e] at q; exact fun g1 H1 v h1 x1 r1 => q g1 H1 v h1 x1 r1
    | bk sl vh' => rw [e] at q; exact q.elim
    | ct sl vh' => rw [e] at q; exact q.elim
    | ex x sl vh' => rw [e] at q; exact fun g1 H1 σ c od h1 s1 x1 r1 => q g1 H1 c od h1 x1 r1
  refine wpAny_mono (B.run [] s1 (L2.start N vs) H _ I ⟨g, slots N.length ds, vh, h, relS_slots rd (by rw [hlen]; exact hpl), q2⟩) (fun fl s' hfl => ?_) fun e s' hx => hx
  cases fl with
  | ret u =>
    obtain ⟨v, σ', H', J, rv, qq⟩ := hfl
    exact ⟨v, H', J.os, J.bare, J.base, J.hok, rv, qq⟩
  | next =>
    obtain ⟨σ', H', J, qq⟩ := hfl
    exact ⟨V.non, H', J.os, J.bare, J.base, J.hok, rfl, qq⟩
  | brk =>
    obtain ⟨_, _, _, qq⟩ := hfl
    exact qq.elim
  | cont =>
    obtain ⟨_, _, _, qq⟩ := hfl
    exact qq.elim

/-! ### calls -/
/-- how the values of a call (positional, then by keywords ks) become the parameters' -/
structure Pat (W : Wd) (fd : FuncData) (ps : List Str) (np : Nat) (ks : List Str) (arr : List D → List D) : Prop where
  ok : ∀ (s : Shared) (us ws : List Value) (g : Gh) (H : Hp) (ds : List D) (vs : List V), W.K.In s.heap → us.length = np → ws.length = ks.length → Reps W g H ds vs → Vals vs (us ++ ws) →
    ∃ us' vs', BindsTo s fd ⟨us, ks.zip ws⟩ (ps.zip us') ∧ Vals vs' us' ∧ Reps W g H (arr ds) vs' ∧ (arr ds).length = ps.length
theorem Pat.pos {W : Wd} {fd : FuncData} {ps : List Str} (h : ∀ us : List Value, us.length = ps.length → bindArgs fd ⟨us, []⟩ = pure (ps.zip us)) : Pat W fd ps ps.length [] id :=
  ⟨fun s us ws g H ds vs _ h1 h2 r rv => by
    have e : ws = [] := List.eq_nil_of_length_eq_zero h2
    subst e
    rw [List.append_nil] at rv
    exact ⟨us, vs, .of_eq (h us h1), rv, r, by rw [id, r.length, rv.length, h1]⟩⟩
def dCall (arr : List D → List D) (Φ : Den) (α : AF) : EF := ab α fun ds _ vh => match Φ (arr ds) vh with
  | .ok d vh' => .ok (.v d) vh'
  | .exc x vh' => .exc x vh'
  | .bad => .bad
section
variable {W : Wd} {C : Con} {Wx : WX} {X : Cx} {g g0 : Gh} {H H0 : Hp} {σ : L2.St} {sl : Sl} {vh : VH} {k : Nat} {f : Addr} {fd : FuncData} {ps ks : List Str} {Φ : Den} {arr : List D → List D}
/-- a callee runs: what is wanted behind it -/
theorem run_pfn {pins : List (Addr × Obj)} {s : Shared} {Q : VK} {np : Nat} {us ws : List Value} {vs : List V} {ds : List D} (cz : Cz W Wx k X) (F : PFn W X.prog X.w X.mg X.base k f fd ps Φ) (pt : Pat W fd ps np ks arr)
    (I : Inv X pins σ H s) (h : RelH W C g vh H) (hs : RelS W g H sl σ) (e0 : Ext g0 H0 g H) (h1 : us.length = np) (h2 : ws.length = ks.length) (r : Reps W g H ds vs) (rv : Vals vs (us ++ ws))
    (q : PostE W C Wx g0 H0 σ sl (match Φ (arr ds) vh with | .ok d vh' => .ok (.v d) vh' | .exc x vh' => .exc x vh' | .bad => .bad) Q) :
    wpAny (model X.prog X.w) X.A (call (.ref f) us (ks.zip ws)) (EP X pins σ Q) X.xe s := by
  have KI : W.K.In s.heap := by rw [← cz.K]; exact I.kIn
  obtain ⟨us', vs', hb, rv', r', hl⟩ := pt.ok s us ws g H ds vs KI h1 h2 r rv
  have E0 : Env0 X.prog X.w W.K X.mg X.base X.A X.stack s H := by rw [← cz.K]; exact I.env0
  refine wpAny_call (codeAny_mono (F.run X.A X.stack s H ⟨us, ks.zip ws⟩ us' vs' Q (fun c od H' => Wx c od σ H') cz.rm cz.gd E0 hb rv' ⟨g, arr ds, vh, h.call, r', hl, ?_⟩) fun rr s' hq => ?_)
  · cases e : Φ (arr ds) vh with
    | bad => rw [e] at q; exact q.elim
    | ok d vh' => rw [e] at q; exact fun g1 H1 v i1 x1 p1 => q g1 H1 v (h.back i1) (hs.mono x1) (e0.trans x1) p1
    | exc x vh' => rw [e] at q; exact fun g1 H1 c od i1 x1 p1 => q g1 H1 c od (h.back i1) (hs.mono x1) (e0.trans x1) p1
  · cases rr with
    | error e => exact passAt cz.tk σ pins H s e s' I hq
    | ok fl =>
      cases fl with
      | ret u => exact I.after hq
      | next => exact hq.elim
      | brk => exact hq.elim
      | cont => exact hq.elim
/-- f(e, ..), all by their places -/
theorem de_call {x : Str} {p pos : Pos} {e : Expr} {es : List Expr} {α : AF} {np : Nat} (cz : Cz W Wx k X) (F : PFn W X.prog X.w X.mg X.base k f fd ps Φ) (pt : Pat W fd ps np [] arr) (hg : Gl X x) (hm : X.mg x = some (.ref f)) (hk : PySem.W.keepIn W.K (.ref f) = true)
    (ha : DA W Wx X (e :: es) α) (hn : (e :: es).length = np := by rfl) (hdb : (x == ("__debug__" : Str)) = false := by decide) (he : starEach (e :: es) X.env = (false, eval e X.env) :: starEach es X.env := by rfl) (hpl : (backTo pos (starEach es X.env)).any (·.1) = false := by rfl)
    (hal : ∀ sl vh ds vh', α sl vh = .ok ds vh' → ds.length = np) :
    DE W Wx X (.Call (.Name x p) (e :: es) [] pos) (dCall arr Φ α) := fun C => by
  refine ⟨fun pins s σ H Q I ⟨g, sl, vh, h, hs, q⟩ => ?_⟩
  refine wpAny_Call_Name_kw (ld_glob I hg hm ?_ hdb)
  have hk' : PySem.W.keepIn X.K (.ref f) = true := by rw [cz.K]; exact hk
  have T : TDA W C Wx α σ H (fun v1 H1 => ∃ g1 vh1 d1, RelH W C g1 vh1 H1 ∧ RelS W g1 H1 sl σ ∧ Ext g H g1 H1 ∧ Reps W g1 H1 d1 v1 ∧ d1.length = np ∧ PostE W C Wx g H σ sl (match Φ (arr d1) vh1 with | .ok d vh' => .ok (.v d) vh' | .exc x vh' => .exc x vh' | .bad => .bad) Q) := by
    refine ⟨g, sl, vh, h, hs, ?_⟩
    unfold dCall ab at q
    cases r : α sl vh with
    | bad => rw [r] at q; exact q
    | exc x vh1 => rw [r] at q; exact q
    | ok ds vh1 => rw [r] at q; exact fun g1 H1 v1 h1 s1 x1 r1 => ⟨g1, vh1, ds, h1, s1, x1, r1, hal _ _ _ _ r, q⟩
  refine PySem.W.callWith_K (h₀ := X.base) I.ok.mod.kin hk' (thn ((ha C).run pos pins s σ H _ I T) fun us s1 ⟨vs, H1, I1, rv, g1, vh1, d1, h1, s1', x1, r1, l1, q1⟩ => ⟨I1.kIn, ?_⟩) he hpl
  have lu : us.length = np := by rw [← rv.length, ← r1.length]; exact l1
  exact run_pfn (ws := []) (ks := []) cz F pt I1 h1 s1' x1 lu rfl r1 (by rw [List.append_nil]; exact rv) q1
end
end
end PM

/-! PM8: targets, assignments, what loops walk, for, while, list comprehensions. -/
namespace PM
open PySem L2
noncomputable section

/-- a new object is laid onto the virtual heap -/
def eLay (φ : EF) : EF := fun sl vh => match φ sl vh with
  | .ok (.f o) vh' => .ok (.v (.ref vh'.length)) (vh' ++ [o])
  | .ok _ _ => .bad
  | .exc x vh' => .exc x vh'
  | .bad => .bad
section
variable {W : Wd} {C : Con} {Wx : WX} {X : Cx} {g g0 : Gh} {H H0 : Hp} {σ : L2.St} {sl : Sl} {vh : VH} {φ ψ χ : EF} {δ ε : SF} {τ : TF} {pos : Pos} {e : Expr} {st : Stmt} {rest : List Stmt}
theorem de_lay (he : DE W Wx X e φ) : DE W Wx X e (eLay φ) := fun C => pe_imp (he C) fun σ H Q ⟨g, sl, vh, h, hs, q⟩ => by
  refine ⟨g, sl, vh, h, hs, ?_⟩
  unfold eLay at q
  cases r : φ sl vh with
  | bad => rw [r] at q; exact q
  | exc x vh' => rw [r] at q; exact q
  | ok e vh' =>
    rw [r] at q
    cases e with
    | v d => exact q.elim
    | f o =>
      intro g1 H1 v1 h1 s1 x1 r1
      obtain ⟨g2, h2, x2, r2⟩ := r1.lay h1
      exact q g2 H1 v1 h2 (s1.mono x2) (x1.trans x2) r2
end

/-! ### targets -/
abbrev GF := D → Sl → VH → Option (Sl × VH)
abbrev GFs := List D → Sl → VH → Option (Sl × VH)
def PostG (W : Wd) (C : Con) (ix : List Nat) (g : Gh) (H : Hp) (σ : L2.St) (r : Option (Sl × VH)) (Q : L2.St → Hp → Prop) : Prop :=
  match r with
  | none => False
  | some (sl', vh') => ∀ g' H' σ', RelH W C g' vh' H' → RelS W g' H' sl' σ' → Ext g H g' H' → (∀ vs, (∀ i ∈ ix, i ∈ vs) → wipe σ' vs = wipe σ vs) → Q σ' H'
def TDG (W : Wd) (γ : GF) (ix : List Nat) : TG := fun v σ H Q => ∃ C g sl vh d, RelH W C g vh H ∧ RelS W g H sl σ ∧ Rep W g H d v ∧ PostG W C ix g H σ (γ d sl vh) Q
def TDGs (W : Wd) (γ : GFs) (ix : List Nat) : TGs := fun vs σ H Q => ∃ C g sl vh ds, RelH W C g vh H ∧ RelS W g H sl σ ∧ Reps W g H ds vs ∧ PostG W C ix g H σ (γ ds sl vh) Q
def DG (W : Wd) (X : Cx) (tg : Expr) (γ : GF) (ix : List Nat) : Prop := PG X tg (TDG W γ ix)
def DGs (W : Wd) (X : Cx) (tg : List Expr) (γ : GFs) (ix : List Nat) : Prop := PGs X tg (TDGs W γ ix)
section
variable {W : Wd} {C : Con} {Wx : WX} {X : Cx} {k : Nat} {g g0 : Gh} {H H0 : Hp} {σ : L2.St} {sl : Sl} {vh : VH} {φ ψ χ : EF} {δ ε : SF} {τ : TF} {pos : Pos} {e a b : Expr} {st : Stmt} {rest : List Stmt}
theorem pg_imp {tg : Expr} {t t' : TG} (h : PG X tg t) (i : ∀ v σ H Q, t' v σ H Q → t v σ H Q) : PG X tg t' := ⟨fun pins s σ H v u Q I r q => h.run pins s σ H v u Q I r (i v σ H Q q)⟩
theorem pgs_imp {tg : List Expr} {t t' : TGs} (h : PGs X tg t) (i : ∀ v σ H Q, t' v σ H Q → t v σ H Q) : PGs X tg t' := ⟨fun pins s σ H v u Q I r q => h.run pins s σ H v u Q I r (i v σ H Q q)⟩
theorem pg_or {tg : Expr} {t t' : TG} (h : PG X tg t) (h' : PG X tg t') : PG X tg (fun v σ H Q => t v σ H Q ∨ t' v σ H Q) := ⟨fun pins s σ H v u Q I r q => q.elim (h.run pins s σ H v u Q I r) (h'.run pins s σ H v u Q I r)⟩
theorem wipe_set {σ : L2.St} {i : Nat} {o : Option V} : ∀ {vs : List Nat}, i ∈ vs → wipe (σ.set i o) vs = wipe σ vs
  | [], h => by cases h
  | v :: vs, h => by
    unfold wipe
    by_cases hv : i ∈ vs
    · rw [wipe_set hv]
    · have e : i = v := by
        rcases List.mem_cons.mp h with e | e
        · exact e
        · exact absurd e hv
      subst e
      have : ∀ (us : List Nat), i ∉ us → wipe (σ.set i o) us = (wipe σ us).set i o := fun us => by
        induction us with
        | nil => intro _; rfl
        | cons u us ih =>
          intro hu
          simp only [List.mem_cons, not_or] at hu
          unfold wipe
          rw [ih hu.2, List.set_comm _ _ hu.1]
      rw [this vs hv, List.set_set]
theorem wipe_nil : wipe σ [] = σ := rfl
def gNm (i : Nat) : GF := fun d sl vh => some (sl.set i (some d), vh)
theorem dg_name {i : Nat} {x : Str} (hN : X.N.Nodup) (hi : X.N[i]? = some x := by rfl) (hx : Loc X.env.scope x := by first | exact .inl rfl | exact .inr rfl) (hf : X.fn x = true ∨ X.env.scope.names.lookup x = some .local := by first | exact .inl rfl | exact .inr rfl) : DG W X (.Name x pos) (gNm i) [i] :=
  pg_imp (pg_name hN hi hx hf) fun v σ H Q ⟨C, g, sl, vh, d, h, hs, r, q⟩ => q g H _ h (hs.set r) (Ext.refl g H) fun vs hv => wipe_set (hv i (List.mem_singleton.mpr rfl))
def gsNil : GFs := fun ds sl vh => match ds with | [] => some (sl, vh) | _ => none
def gsCons (γ : GF) (γs : GFs) : GFs := fun ds sl vh => match ds with
  | d :: r => match γ d sl vh with
    | some (sl', vh') => γs r sl' vh'
    | none => none
  | [] => none
theorem dgs_nil : DGs W X [] gsNil [] := pgs_imp pgs_nil fun v σ H Q ⟨C, g, sl, vh, ds, h, hs, r, q⟩ => by
  cases ds with
  | nil => simp only [Reps] at r; exact ⟨r, q g H σ h hs (Ext.refl g H) fun vs _ => rfl⟩
  | cons _ _ => exact q.elim
theorem dgs_cons {tg : Expr} {tgs : List Expr} {γ : GF} {γs : GFs} {ix js : List Nat} (h1 : DG W X tg γ ix) (h2 : DGs W X tgs γs js) (hs : (assignEach (tg :: tgs) X.env).map (·.2) = assign tg X.env :: (assignEach tgs X.env).map (·.2) := by rfl) :
    DGs W X (tg :: tgs) (gsCons γ γs) (ix ++ js) := pgs_imp (pgs_cons h1 h2 hs) fun v σ H Q ⟨C, g, sl, vh, ds, h, hs, r, q⟩ => by
  cases ds with
  | nil => exact q.elim
  | cons d ds =>
    simp only [Reps] at r
    obtain ⟨v1, vr, rfl, r1, r2⟩ := r
    refine ⟨v1, vr, rfl, C, g, sl, vh, d, h, hs, r1, ?_⟩
    simp only [gsCons] at q
    cases e : γ d sl vh with
    | none => rw [e] at q; exact q.elim
    | some p =>
      obtain ⟨sl', vh'⟩ := p
      rw [e] at q
      intro g1 H1 σ1 h1 s1 x1 w1
      refine ⟨C, g1, sl', vh', ds, h1, s1, Reps.mono x1 _ _ r2, ?_⟩
      dsimp only at q
      cases e2 : γs ds sl' vh' with
      | none => rw [e2] at q; exact q.elim
      | some p2 =>
        obtain ⟨sl2, vh2⟩ := p2
        rw [e2] at q
        exact fun g2 H2 σ2 h2 s2 x2 w2 => q g2 H2 σ2 h2 s2 (x1.trans x2) fun vs hv => (w2 vs fun i hi => hv i (List.mem_append_right _ hi)).trans (w1 vs fun i hi => hv i (List.mem_append_left _ hi))
def gUnp (n : Nat) (γs : GFs) : GF := fun d sl vh => match view vh d with
  | .tup xs => if xs.length = n then γs xs sl vh else none
  | .lst xs => if xs.length = n then γs xs sl vh else none
  | _ => none
theorem dg_tup {es : List Expr} {kk : Nat} {γs : GFs} {n : Nat} {ix : List Nat} (cz : Cz W Wx k X) (h : DGs W X es γs ix) (hn : (assignEach es X.env).length = n := by rfl) (hst : (assignEach es X.env).findIdx? (·.1) = none := by rfl) : DG W X (.Tuple es kk pos) (gUnp n γs) ix :=
  pg_imp (pg_or (pg_tup cz.calm h hn hst) (pg_unl cz.calm h hn hst)) fun v σ H Q ⟨C, g, sl, vh, d, h, hs, r, q⟩ => by
    have rx := h.view r
    unfold gUnp at q
    cases e : view vh d with
    | tup xs =>
      rw [e] at q rx
      obtain ⟨a, vs, rfl, t, rr⟩ := rx.tup
      dsimp only at q
      split at q
      · rename_i hl
        exact .inl ⟨a, vs, rfl, by rw [cz.K]; exact t, by rw [← rr.length]; exact hl, C, g, sl, vh, xs, h, hs, rr, q⟩
      · exact q.elim
    | lst xs =>
      rw [e] at q rx
      obtain ⟨a, vs, rfl, t, rr⟩ := rx.lst
      dsimp only at q
      split at q
      · rename_i hl
        exact .inr ⟨a, vs, rfl, SqL.of t, by rw [← rr.length]; exact hl, C, g, sl, vh, xs, h, hs, rr, q⟩
      · exact q.elim
    | _ => rw [e] at q; exact q.elim
end

/-! ### o[i] = v -/
def dput (kvs : List (D × D)) (k d : D) : List (D × D) :=
  if (kvs.any fun p => decide (keyD p.1 = keyD k)) = true then kvs.map (fun p => if keyD p.1 = keyD k then (p.1, d) else p) else kvs ++ [(k, d)]
def ostore (o : O) (i d : D) : Option O := match o, i with
  | .lst xs, .int j => (ixN xs.length j).map fun n => .lst (xs.set n d)
  | .dct kvs, k => (keyD k).bind fun _ => if kvs.length < lim then some (.dct (dput kvs k d)) else none
  | _, _ => none
def dstore (o i d : D) (vh : VH) : Option VH := match o with
  | .ref n => (vh[n]?).bind fun u => (ostore u i d).map fun u' => vh.set n u'
  | _ => none
def gSubF (φ ψ : EF) : GF := fun d sl vh => match φ sl vh with
  | .ok ev vh1 => match ψ sl vh1 with
    | .ok iv vh2 => (dstore ev.d iv.d d vh2).map fun vh3 => (sl, vh3)
    | _ => none
  | _ => none
section
variable {W : Wd} {C : Con} {Wx : WX} {X : Cx} {k : Nat} {g g0 : Gh} {H H0 : Hp} {σ : L2.St} {sl : Sl} {vh : VH} {φ ψ χ : EF} {δ ε : SF} {τ : TF} {pos : Pos} {e a b : Expr} {st : Stmt} {rest : List Stmt}
theorem RepKV.length : ∀ {kvs : List (D × D)} {ws : List (Key × V)}, RepKV W g H kvs ws → kvs.length = ws.length
  | [], ws, r => by simp only [RepKV] at r; subst r; rfl
  | (k, d) :: kvs, ws, r => by
    simp only [RepKV] at r
    obtain ⟨k', v, s, rfl, _, _, h2⟩ := r
    simp [RepKV.length h2]
theorem RepKV.any {y : D} {ky : Key} (hy : keyD y = some ky) : ∀ {kvs : List (D × D)} {ws : List (Key × V)}, RepKV W g H kvs ws → (kvs.any fun p => decide (keyD p.1 = keyD y)) = (ws.any fun kv => decide (kv.1 = ky))
  | [], ws, r => by simp only [RepKV] at r; subst r; rfl
  | (k, d) :: kvs, ws, r => by
    simp only [RepKV] at r
    obtain ⟨k', v, s, rfl, e, _, h2⟩ := r
    rw [List.any_cons, List.any_cons, RepKV.any hy h2]
    congr 1
    rw [e, hy]
    by_cases hk : k' = ky
    · subst hk; simp
    · simp [hk]
theorem RepKV.map {y : D} {ky : Key} {d : D} {v : V} (hy : keyD y = some ky) (rd : Rep W g H d v) : ∀ {kvs : List (D × D)} {ws : List (Key × V)}, RepKV W g H kvs ws → RepKV W g H (kvs.map (fun p => if keyD p.1 = keyD y then (p.1, d) else p)) (ws.map (fun kv => if kv.1 = ky then (kv.1, v) else kv))
  | [], ws, r => by simp only [RepKV] at r; subst r; simp [RepKV]
  | (k, d0) :: kvs, ws, r => by
    simp only [RepKV] at r
    obtain ⟨k', v0, s, rfl, e, h1, h2⟩ := r
    rw [List.map_cons, List.map_cons]
    by_cases hk : k' = ky
    · subst hk
      dsimp only
      rw [if_pos (by rw [e, hy]), if_pos rfl]
      simp only [RepKV]
      exact ⟨k', v, _, rfl, e, rd, RepKV.map hy rd h2⟩
    · dsimp only
      rw [if_neg (by rw [e, hy]; exact fun z => hk (Option.some.inj z)), if_neg hk]
      simp only [RepKV]
      exact ⟨k', v0, _, rfl, e, h1, RepKV.map hy rd h2⟩
theorem RepKV.append : ∀ {xs ys : List (D × D)} {vs ws : List (Key × V)}, RepKV W g H xs vs → RepKV W g H ys ws → RepKV W g H (xs ++ ys) (vs ++ ws)
  | [], ys, vs, ws, h, k => by simp only [RepKV] at h; subst h; exact k
  | (x, d) :: xs, ys, vs, ws, h, k => by
    simp only [RepKV] at h
    obtain ⟨k', v, r, rfl, h0, h1, h2⟩ := h
    simp only [List.cons_append, RepKV]
    exact ⟨k', v, r ++ ws, rfl, h0, h1, RepKV.append h2 k⟩
theorem RepKV.put {y : D} {ky : Key} {d : D} {v : V} (hy : keyD y = some ky) (rd : Rep W g H d v) {kvs : List (D × D)} {ws : List (Key × V)} (r : RepKV W g H kvs ws) : RepKV W g H (dput kvs y d) (putK ws ky v) := by
  unfold dput putK
  rw [r.any hy]
  split
  · exact r.map hy rd
  · exact r.append (by simp only [RepKV]; exact ⟨ky, v, [], rfl, hy, rd, rfl⟩)
theorem Ext.ndk {p : Addr} {u : HO} {i : Nat} (h : RelH W C g vh H) (hi : i < g.n) : True := trivial
theorem dg_sub (cz : Cz W Wx k X) (ha : DE W Wx X a φ) (hb : DE W Wx X b ψ) (he : ∀ v, assign (.Subscript a b pos) X.env v = (do
      let ov ← holding [v] (eval a X.env)
      let iv ← holding [v, ov] (eval b X.env)
      standAt pos
      holding [v, ov, iv] (setItem ov iv v)
      release [v, ov, iv] []) := by intro _; rfl) : DG W X (.Subscript a b pos) (gSubF φ ψ) [] := by
  have pset : PSet X (fun o i v H Q => rSetL o i v H Q ∨ rSetD o i v H Q) := fun pins s σ H o i v ov iv u Q I ro ri rv h => h.elim (set_list pins s σ H o i v ov iv u Q I ro ri rv) (set_dict (hu_of cz.rm) pins s σ H o i v ov iv u Q I ro ri rv)
  refine ⟨fun pins s σ H v u Q I r ⟨C, g, sl, vh, d, h, hs, rd, q⟩ => ?_⟩
  refine (pg_sub (ha C) (hb C) pset he).run pins s σ H v u Q I r ?_
  refine ⟨g, sl, vh, h, hs, ?_⟩
  unfold gSubF at q
  cases e1 : φ sl vh with
  | bad => rw [e1] at q; exact q.elim
  | exc x vh' => rw [e1] at q; exact q.elim
  | ok ev vh1 =>
    rw [e1] at q
    dsimp only at q
    intro g1 H1 v1 h1 s1 x1 r1
    obtain ⟨g2, h2, x2, r2⟩ := r1.freeze h1
    refine ⟨g2, sl, vh1, h2, s1.mono x2, ?_⟩
    cases e2 : ψ sl vh1 with
    | bad => rw [e2] at q; exact q.elim
    | exc x vh' => rw [e2] at q; exact q.elim
    | ok iv vh2 =>
      rw [e2] at q
      dsimp only at q
      intro g3 H3 v3 h3 s3 x3 r3
      obtain ⟨g4, h4, x4, r4⟩ := r3.freeze h3
      have xx := x3.trans x4
      have ro := Rep.mono xx _ _ r2
      have rd' := Rep.mono ((x1.trans x2).trans xx) _ _ rd
      have ss := s3.mono x4
      cases eo : ev.d with
      | ref n =>
        rw [eo] at q ro
        simp only [Rep] at ro
        obtain ⟨hn, rfl⟩ := ro
        have hl : n < vh2.length := by rw [h4.len]; exact hn
        simp only [dstore, List.getElem?_eq_getElem hl, Option.bind_some] at q
        have ob := h4.vh n _ (List.getElem?_eq_getElem hl)
        cases eu : vh2[n] with
        | lst xs =>
          rw [eu] at q ob
          obtain ⟨ws, o1, o2⟩ := ob
          cases ei : iv.d with
          | int j =>
            rw [ei] at q r4
            simp only [Rep] at r4
            subst r4
            simp only [ostore] at q
            cases ej : ixN xs.length j with
            | none => rw [ej] at q; exact q.elim
            | some m =>
              rw [ej] at q
              refine .inl ⟨_, ws, j, m, rfl, rfl, o1, by rw [← o2.length]; exact ej, ?_⟩
              have xw := Ext.write (u := .lst (ws.set m v)) h4 hn
              exact q g4 _ σ (h4.write hn ⟨_, upd_same, Reps.mono xw _ _ (o2.set m rd')⟩) (ss.mono xw) (((x1.trans x2).trans xx).trans xw) fun _ _ => rfl
          | _ => rw [ei] at q; exact q.elim
        | dct kvs =>
          rw [eu] at q ob
          obtain ⟨ws, o1, o2⟩ := ob
          have q : PostG W C [] g H σ (((((keyD iv.d).bind fun _ => if kvs.length < lim then some (O.dct (dput kvs iv.d d)) else none)).map fun u' => vh2.set n u').map fun vh3 => (sl, vh3)) Q := by
            cases ei : iv.d <;> rw [ei] at q <;> exact q
          cases ek : keyD iv.d with
          | none => rw [ek] at q; exact q.elim
          | some y =>
            rw [ek] at q
            dsimp only [Option.bind_some] at q
            split at q
            · rename_i hlim
              have ey := keyD_kV (h4.view r4) (by
                have : view vh2 iv.d = iv.d := by cases h : iv.d <;> rw [h] at ek <;> first | rfl | cases ek
                rw [this]; exact ek)
              subst ey
              have xw := Ext.write (u := .dK (putK ws y v)) h4 hn
              refine .inr ⟨_, _, rfl, DPut.k o1 (by rw [← o2.length, ← lim_eq]; exact hlim), ?_⟩
              exact q g4 _ σ (h4.write hn ⟨_, upd_same, RepKV.mono xw _ _ (o2.put ek rd')⟩) (ss.mono xw) (((x1.trans x2).trans xx).trans xw) fun _ _ => rfl
            · exact q.elim
        | _ => rw [eu] at q; cases ei : iv.d <;> rw [ei] at q <;> exact q.elim
      | _ => rw [eo] at q; exact q.elim
end

/-! ### target = value -/
def sAsg (φ : EF) (γ : GF) : SF := fun sl vh => match φ sl vh with
  | .ok ev vh1 => match γ ev.d sl vh1 with
    | some (sl', vh') => .nx sl' vh'
    | none => .bad
  | .exc x vh' => .ex x sl vh'
  | .bad => .bad
/-- a, b = x, y -/
def sPar (i j : Nat) (α : AF) : SF := fun sl vh => match α sl vh with
  | .ok [d, e] vh' => .nx ((sl.set i (some d)).set j (some e)) vh'
  | .ok _ _ => .bad
  | .exc x vh' => .ex x sl vh'
  | .bad => .bad
section
variable {W : Wd} {C : Con} {Wx : WX} {X : Cx} {k : Nat} {g g0 : Gh} {H H0 : Hp} {σ : L2.St} {sl : Sl} {vh : VH} {φ ψ χ : EF} {δ ε : SF} {τ : TF} {pos : Pos} {e a b : Expr} {st : Stmt} {rest : List Stmt}
theorem ds_asg {tg : Expr} {γ : GF} {ix : List Nat} (he : DE W Wx X e φ) (hg : DG W X tg γ ix) (hs : swapsWithSole [tg] e pos.line X.env = pure false := by rfl) (hw : swappedStores [tg] e X.env = pure none := by rfl)
    (h1 : (assignEach [tg] X.env).map (·.2) = [assign tg X.env] := by rfl) : DS W Wx X (.Assign [tg] e pos) (sAsg φ γ) := fun C => ps_imp (ps_asg (he C) hg hs hw h1) fun En σ H ⟨g, sl, vh, h, hs, q⟩ => by
  refine ⟨g, sl, vh, h, hs, ?_⟩
  unfold sAsg at q
  cases r : φ sl vh with
  | bad => rw [r] at q; exact q
  | exc x vh' => rw [r] at q; exact fun g1 H1 c od a b d e => q g1 H1 σ c od a b d e
  | ok e vh' =>
    rw [r] at q
    intro g1 H1 v1 h1 s1 x1 r1
    obtain ⟨g2, h2, x2, r2⟩ := r1.freeze h1
    refine ⟨C, g2, sl, vh', _, h2, s1.mono x2, r2, ?_⟩
    dsimp only at q
    cases r3 : γ e.d sl vh' with
    | none => rw [r3] at q; exact q.elim
    | some p =>
      obtain ⟨sl', vh''⟩ := p
      rw [r3] at q
      exact fun g3 H3 σ3 h3 s3 x3 _ => q g3 H3 σ3 h3 s3 ((x1.trans x2).trans x3)
theorem ds_par {i j : Nat} {x y : Str} {px py pt : Pos} {kt k2 pt2} {α : AF} (cz : Cz W Wx k X) (ha : DA W Wx X [a, b] α) (hi : X.N[i]? = some x := by rfl) (hj : X.N[j]? = some y := by rfl) (hij : i ≠ j := by decide)
    (hx : X.env.scope.names.lookup x = some .local := by rfl) (hy : X.env.scope.names.lookup y = some .local := by rfl)
    (hw : swappedStores [.Tuple [.Name x px, .Name y py] kt pt] (.Tuple [a, b] k2 pt2) X.env = pure (some [x, y]) := by rfl)
    (hs : swapsWithSole [.Tuple [.Name x px, .Name y py] kt pt] (.Tuple [a, b] k2 pt2) pos.line X.env = pure false := by rfl) :
    DS W Wx X (.Assign [.Tuple [.Name x px, .Name y py] kt pt] (.Tuple [a, b] k2 pt2) pos) (sPar i j α) := fun C => ps_imp (ps_par cz.calm cz.nd hi hj hij hx hy (ha C) hw hs) fun En σ H ⟨g, sl, vh, h, hs, q⟩ => by
  refine ⟨g, sl, vh, h, hs, ?_⟩
  unfold sPar at q
  cases r : α sl vh with
  | bad => rw [r] at q; exact q
  | exc x vh' => rw [r] at q; exact fun g1 H1 c od a b d e => q g1 H1 σ c od a b d e
  | ok ds vh' =>
    rw [r] at q
    rcases ds with _ | ⟨d, _ | ⟨e, _ | ⟨f, ds⟩⟩⟩
    · exact q.elim
    · exact q.elim
    · intro g1 H1 vs h1 s1 x1 r1
      simp only [Reps] at r1
      obtain ⟨v, r, rfl, r2, w, r', rfl, r3, rfl⟩ := r1
      exact ⟨v, w, rfl, q g1 H1 _ h1 ((s1.set r2).set r3) x1⟩
    · exact q.elim
end
end
end PM

/-! PM9: what loops walk, for, while, list comprehensions. -/
namespace PM
open PySem L2
noncomputable section

/-- the items of what is walked; which object has to stay as it is -/
structure IV where
  items : List D
  gd : Option (Nat × O)
abbrev IF := Sl → VH → R IV
noncomputable def gdB : Option (Nat × O) → VH → Bool
  | none, _ => true
  | some (n, o), vh => @decide (vh[n]? = some o) (Classical.propDecidable _)
def YI (W : Wd) (J : It) (items : List D) (gd : Option (Nat × O)) (g1 : Gh) (H1 : Hp) : Prop := ∀ (C : Con) (i : Nat) g vh H, RelH W C g vh H → Ext g1 H1 g H → gdB gd vh = true →
  (items.length ≤ i → J.stop i H) ∧ ∀ d, items[i]? = some d → J.go i H ∧ ∀ x H', J.yld i H x H' → ∃ g', RelH W C g' vh H' ∧ Ext g H g' H' ∧ Rep W g' H' d x
def PostI (W : Wd) (C : Con) (Wx : WX) (g0 : Gh) (H0 : Hp) (σ : L2.St) (sl : Sl) (r : R IV) (Q : It → Hp → Prop) : Prop :=
  match r with
  | .bad => False
  | .ok iv vh => ∀ g H J, RelH W C g vh H → RelS W g H sl σ → Ext g0 H0 g H → YI W J iv.items iv.gd g H → Q J H
  | .exc x vh => ∀ g H c od, RelH W C g vh H → RelS W g H sl σ → Ext g0 H0 g H → XRep W g H x c od → Wx c od σ H
def TDI (W : Wd) (C : Con) (Wx : WX) (ι : IF) : TI := fun σ H Q => ∃ g sl vh, RelH W C g vh H ∧ RelS W g H sl σ ∧ PostI W C Wx g H σ sl (ι sl vh) Q
def DI (W : Wd) (Wx : WX) (X : Cx) (tg e : Expr) (ι : IF) : Prop := ∀ C, PI X tg e (TDI W C Wx ι)
def ivOf (vh : VH) (d : D) : Option IV := match d with
  | .tup xs => some ⟨xs, none⟩
  | .lst xs => some ⟨xs, none⟩
  | .scr ns => some ⟨ns.map D.int, none⟩
  | .ref n => match vh[n]? with
    | some (.lst xs) => some ⟨xs, some (n, .lst xs)⟩
    | _ => none
  | _ => none
def iVal (φ : EF) : IF := fun sl vh => match φ sl vh with
  | .ok e vh' => match ivOf vh' e.d with
    | some iv => .ok iv vh'
    | none => .bad
  | .exc x vh' => .exc x vh'
  | .bad => .bad
def rngI (lo : Int) (n : Nat) : List D := (List.range n).map fun (i : Nat) => D.int (lo + (i : Int))
def iRg1 (φ : EF) : IF := fun sl vh => match φ sl vh with
  | .ok (.v (.int j)) vh' => if j < 2 ^ 62 ∧ -(2 ^ 62) ≤ j then .ok ⟨rngI 0 j.toNat, none⟩ vh' else .bad
  | .ok _ _ => .bad
  | .exc x vh' => .exc x vh'
  | .bad => .bad
def iRg2 (α : AF) : IF := fun sl vh => match α sl vh with
  | .ok [.int i, .int j] vh' => if (-(2 ^ 62) ≤ i ∧ i < 2 ^ 62) ∧ -(2 ^ 62) ≤ j ∧ j < 2 ^ 62 then .ok ⟨rngI i (j - i).toNat, none⟩ vh' else .bad
  | .ok _ _ => .bad
  | .exc x vh' => .exc x vh'
  | .bad => .bad
section
variable {W : Wd} {C : Con} {Wx : WX} {X : Cx} {k : Nat} {g g0 : Gh} {H H0 : Hp} {σ : L2.St} {sl : Sl} {vh : VH} {φ ψ χ : EF} {δ ε : SF} {τ : TF} {pos : Pos} {e a b tg : Expr} {st : Stmt} {rest : List Stmt}
theorem pi_imp {t t' : TI} (h : PI X tg e t) (i : ∀ σ H Q, t' σ H Q → t σ H Q) : PI X tg e t' := ⟨fun pins s σ H Q I q => h.run pins s σ H Q I (i σ H Q q)⟩
theorem pi_or {t t' : TI} (h : PI X tg e t) (h' : PI X tg e t') : PI X tg e (fun σ H Q => t σ H Q ∨ t' σ H Q) := ⟨fun pins s σ H Q I q => q.elim (h.run pins s σ H Q I) (h'.run pins s σ H Q I)⟩
theorem sqL_inj {K : PySem.W.Frag} {a : Addr} {xs ys : List V} (h : H a = some (.lst xs)) (h' : ∀ y, SqL K H a y → y = ys) : xs = ys := h' xs (SqL.of h)
theorem yi_tup {K : PySem.W.Frag} (hK : K = W.K) {xs : List D} {vs : List V} {a : Addr} (t : TupF W g0 H0 a vs) (r : Reps W g0 H0 xs vs) : YI W (Itt K a) xs none g0 H0 := by
  intro C i g vh H h x _
  have t' : SqT K H a vs := by
    subst hK
    rcases t with ⟨f, t⟩ | t
    · exact SqT.of (x.keep a _ f trivial t)
    · exact sqT_noH t
  have r' := Reps.mono x _ _ r
  refine ⟨fun hi => ⟨vs, t', by rw [← r'.length]; exact hi⟩, fun d hd => ?_⟩
  obtain ⟨v, hv, rv⟩ := r'.get hd
  refine ⟨⟨vs, v, t', hv⟩, fun y H' ⟨e1, e2⟩ => ?_⟩
  subst e1
  have e3 := e2 vs t'
  rw [hv] at e3
  cases e3
  exact ⟨g, h, Ext.refl g _, rv⟩
theorem yi_lst {K : PySem.W.Frag} {xs : List D} {vs : List V} {a : Addr} (f : g0.F a) (t : H0 a = some (.lst vs)) (r : Reps W g0 H0 xs vs) : YI W (Itl K a) xs none g0 H0 := by
  intro C i g vh H h x _
  have t' : SqL K H a vs := SqL.of (x.keep a _ f trivial t)
  have r' := Reps.mono x _ _ r
  refine ⟨fun hi => ⟨vs, t', by rw [← r'.length]; exact hi⟩, fun d hd => ?_⟩
  obtain ⟨v, hv, rv⟩ := r'.get hd
  refine ⟨⟨vs, v, t', hv⟩, fun y H' ⟨e1, e2⟩ => ?_⟩
  subst e1
  have e3 := e2 vs t'
  rw [hv] at e3
  cases e3
  exact ⟨g, h, Ext.refl g _, rv⟩
theorem yi_scr {K : PySem.W.Frag} (hK : K = W.K) {ns : List Int} {a : Addr} (t : (g0.F a ∧ ∃ o, H0 a = some (.frz o (.lst (ns.map V.int)))) ∨ SqL W.K noH a (ns.map V.int)) : YI W (Itl K a) (ns.map D.int) none g0 H0 := by
  intro C i g vh H h x _
  have t' : SqL K H a (ns.map V.int) := by
    subst hK
    rcases t with ⟨f, o, t⟩ | t
    · exact .inl (.inr ⟨o, x.keep a _ f trivial t⟩)
    · exact sqL_noH t
  refine ⟨fun hi => ⟨_, t', by simpa using hi⟩, fun d hd => ?_⟩
  rw [List.getElem?_map] at hd
  cases hn : ns[i]? with
  | none => rw [hn] at hd; cases hd
  | some j =>
    rw [hn] at hd
    cases hd
    have hv : (ns.map V.int)[i]? = some (V.int j) := by rw [List.getElem?_map, hn]; rfl
    refine ⟨⟨_, _, t', hv⟩, fun y H' ⟨e1, e2⟩ => ?_⟩
    subst e1
    have e3 := e2 _ t'
    rw [hv] at e3
    cases e3
    exact ⟨g, h, Ext.refl g _, by simp only [Rep]⟩
theorem yi_ref {K : PySem.W.Frag} {n : Nat} {xs : List D} (hn : n < g0.n) : YI W (Itl K (g0.m n)) xs (some (n, .lst xs)) g0 H0 := by
  intro C i g vh H h x hg
  have hg : vh[n]? = some (.lst xs) := by
    unfold gdB at hg
    exact @of_decide_eq_true _ (Classical.propDecidable _) hg
  obtain ⟨vs, t, r'⟩ := h.vh n _ hg
  rw [x.m n hn] at t
  have t' : SqL K H (g0.m n) vs := SqL.of t
  refine ⟨fun hi => ⟨vs, t', by rw [← r'.length]; exact hi⟩, fun d hd => ?_⟩
  obtain ⟨v, hv, rv⟩ := r'.get hd
  refine ⟨⟨vs, v, t', hv⟩, fun y H' ⟨e1, e2⟩ => ?_⟩
  subst e1
  have e3 := e2 vs t'
  rw [hv] at e3
  cases e3
  exact ⟨g, h, Ext.refl g _, rv⟩
theorem yi_range {lo : Int} {n : Nat} : YI W (Itr lo n) (rngI lo n) none g0 H0 := by
  intro C i g vh H h x _
  unfold rngI
  refine ⟨fun hi => by simpa [Itr] using hi, fun d hd => ?_⟩
  rw [List.getElem?_map] at hd
  cases hn : (List.range n)[i]? with
  | none => rw [hn] at hd; cases hd
  | some j =>
    rw [hn] at hd
    cases hd
    obtain ⟨h1, h2⟩ := List.getElem?_eq_some_iff.mp hn
    simp at h1 h2
    subst h2
    refine ⟨h1, fun y H' ⟨e1, e2⟩ => ?_⟩
    subst e1 e2
    exact ⟨g, h, Ext.refl g _, by simp only [Rep]⟩
theorem di_val (hK : X.K = W.K) (he : DE W Wx X e φ) : DI W Wx X tg e (iVal φ) := fun C =>
  pi_imp (pi_or (pi_list (he C)) (pi_tup (he C))) fun σ H Q ⟨g, sl, vh, h, hs, q⟩ => by
    unfold iVal at q
    cases r : φ sl vh with
    | bad => rw [r] at q; exact q.elim
    | exc x vh' => rw [r] at q; exact .inl ⟨g, sl, vh, h, hs, by rw [r]; exact q⟩
    | ok ev vh' =>
      rw [r] at q
      dsimp only at q
      cases ei : ivOf vh' ev.d with
      | none => rw [ei] at q; exact q.elim
      | some iv =>
        rw [ei] at q
        cases ed : ev.d with
        | tup xs =>
          rw [ed] at ei
          cases ei
          refine .inr ⟨g, sl, vh, h, hs, ?_⟩
          rw [r]
          intro g1 H1 v1 h1 s1 x1 r1
          obtain ⟨g2, h2, x2, r2⟩ := r1.freeze h1
          rw [ed] at r2
          simp only [Rep] at r2
          obtain ⟨a, vs, rfl, t, rr⟩ := r2
          exact ⟨a, rfl, ⟨vs, by rw [hK]; exact t.sq⟩, q g2 H1 _ h2 (s1.mono x2) (x1.trans x2) (yi_tup hK t rr)⟩
        | lst xs =>
          rw [ed] at ei
          cases ei
          refine .inl ⟨g, sl, vh, h, hs, ?_⟩
          rw [r]
          intro g1 H1 v1 h1 s1 x1 r1
          obtain ⟨g2, h2, x2, r2⟩ := r1.freeze h1
          rw [ed] at r2
          simp only [Rep] at r2
          obtain ⟨a, vs, rfl, f, t, rr⟩ := r2
          exact ⟨a, rfl, ⟨vs, SqL.of t⟩, q g2 H1 _ h2 (s1.mono x2) (x1.trans x2) (yi_lst f t rr)⟩
        | scr ns =>
          rw [ed] at ei
          cases ei
          refine .inl ⟨g, sl, vh, h, hs, ?_⟩
          rw [r]
          intro g1 H1 v1 h1 s1 x1 r1
          obtain ⟨g2, h2, x2, r2⟩ := r1.freeze h1
          rw [ed] at r2
          have rw2 : RepW W g2 H1 (.scr ns) v1 := .inl r2
          simp only [Rep] at r2
          obtain ⟨a, rfl, t⟩ := r2
          obtain ⟨a', e1, t'⟩ := rw2.scr
          cases e1
          exact ⟨a, rfl, ⟨_, by rw [hK]; exact t'⟩, q g2 H1 _ h2 (s1.mono x2) (x1.trans x2) (yi_scr hK t)⟩
        | ref n =>
          rw [ed] at ei
          simp only [ivOf] at ei
          cases en : vh'[n]? with
          | none => rw [en] at ei; cases ei
          | some o =>
            rw [en] at ei
            cases o with
            | lst xs =>
              cases ei
              refine .inl ⟨g, sl, vh, h, hs, ?_⟩
              rw [r]
              intro g1 H1 v1 h1 s1 x1 r1
              obtain ⟨g2, h2, x2, r2⟩ := r1.freeze h1
              rw [ed] at r2
              simp only [Rep] at r2
              obtain ⟨hn, rfl⟩ := r2
              obtain ⟨vs, t, rr⟩ := h2.vh n _ en
              exact ⟨_, rfl, ⟨vs, SqL.of t⟩, q g2 H1 _ h2 (s1.mono x2) (x1.trans x2) (yi_ref hn)⟩
            | _ => cases ei
        | _ => rw [ed] at ei; cases ei
theorem di_rg1 {p : Pos} (hg : Gl X "range") (hm : X.mg "range" = none) (ha : DE W Wx X a φ) (hs : starEach [a] X.env = [(false, eval a X.env)] := by rfl) : DI W Wx X tg (.Call (.Name "range" p) [a] [] pos) (iRg1 φ) := fun C =>
  pi_imp (pi_range1 hg hm (pa_cons (ha C) pa_nil (by rw [hs]; rfl)) hs) fun σ H Q ⟨g, sl, vh, h, hs, q⟩ => by
    refine ⟨g, sl, vh, h, hs, ?_⟩
    unfold iRg1 at q
    cases r : φ sl vh with
    | bad => rw [r] at q; exact q
    | exc x vh' => rw [r] at q; exact q
    | ok ev vh' =>
      rw [r] at q
      cases ev with
      | f o => exact q.elim
      | v d =>
        cases d with
        | int j =>
          dsimp only at q
          split at q
          · rename_i hc
            intro g1 H1 v1 h1 s1 x1 r1
            simp only [RepE, Rep] at r1
            subst r1
            exact ⟨j, rfl, hc.2, hc.1, q g1 H1 _ h1 s1 x1 yi_range⟩
          · exact q.elim
        | _ => exact q.elim
theorem di_rg2 {p : Pos} {α : AF} (hg : Gl X "range") (hm : X.mg "range" = none) (ha : DA W Wx X [a, b] α) (hs : starEach [a, b] X.env = [(false, eval a X.env), (false, eval b X.env)] := by rfl) (hs2 : starEach [b] X.env = [(false, eval b X.env)] := by rfl) : DI W Wx X tg (.Call (.Name "range" p) [a, b] [] pos) (iRg2 α) := fun C =>
  pi_imp (pi_range2 hg hm (ha C) hs hs2) fun σ H Q ⟨g, sl, vh, h, hs, q⟩ => by
    refine ⟨g, sl, vh, h, hs, ?_⟩
    unfold iRg2 at q
    cases r : α sl vh with
    | bad => rw [r] at q; exact q
    | exc x vh' => rw [r] at q; exact q
    | ok ds vh' =>
      rw [r] at q
      rcases ds with _ | ⟨d, _ | ⟨e, _ | ⟨f, ds⟩⟩⟩
      · exact q.elim
      · cases d <;> exact q.elim
      · cases d with
        | int i =>
          cases e with
          | int j =>
            dsimp only at q
            split at q
            · rename_i hc
              intro g1 H1 v1 h1 s1 x1 r1
              simp only [Reps, Rep] at r1
              obtain ⟨_, _, rfl, rfl, _, _, rfl, rfl, rfl⟩ := r1
              exact ⟨i, j, rfl, ⟨hc.1.1, hc.1.2, hc.2.1, hc.2.2⟩, q g1 H1 _ h1 s1 x1 yi_range⟩
            · exact q.elim
          | _ => exact q.elim
        | _ => cases e <;> exact q.elim
      · cases d <;> (try exact q.elim) <;> cases e <;> exact q.elim
end

/-! ### for -/
noncomputable def sLoop (gd : Option (Nat × O)) (γ : GF) (δ : SF) : List D → SF
  | [], sl, vh => if gdB gd vh = true then .nx sl vh else .bad
  | d :: ds, sl, vh => if gdB gd vh = true then (match γ d sl vh with
    | none => .bad
    | some (sl', vh') => match δ sl' vh' with
      | .nx s v => sLoop gd γ δ ds s v
      | .ct s v => sLoop gd γ δ ds s v
      | .bk s v => .nx s v
      | r => r) else .bad
noncomputable def sFor (ι : IF) (γ : GF) (δ : SF) : SF := fun sl vh => match ι sl vh with
  | .ok iv vh' => sLoop iv.gd γ δ iv.items sl vh'
  | .exc x vh' => .ex x sl vh'
  | .bad => .bad
def sWhile (τ : TF) (δ : SF) : Nat → SF
  | 0 => fun _ _ => .bad
  | n + 1 => fun sl vh => match τ sl vh with
    | .ok true vh' => (match δ sl vh' with
      | .nx s v => sWhile τ δ n s v
      | .ct s v => sWhile τ δ n s v
      | .bk s v => .nx s v
      | r => r)
    | .ok false vh' => .nx sl vh'
    | .exc x vh' => .ex x sl vh'
    | .bad => .bad
section
variable {W : Wd} {C : Con} {Wx : WX} {X : Cx} {k : Nat} {g g0 : Gh} {H H0 : Hp} {σ : L2.St} {sl : Sl} {vh : VH} {φ ψ χ : EF} {δ ε : SF} {τ : TF} {pos : Pos} {e a b tg : Expr} {st : Stmt} {rest : List Stmt}
theorem ds_for {ι : IF} {γ : GF} {ix : List Nat} {iter : Expr} {body : List Stmt} (cz : Cz W Wx k X) (hi : DI W Wx X tg iter ι) (hg : DG W X tg γ ix) (hb : DSs W Wx X body δ)
    (hs : ∀ x, foldedSetIterable iter X.env x = pure x := by intro _; rfl) : DS W Wx X (.For tg iter body [] pos) (sFor ι γ δ) := fun C =>
  ps_imp (ps_for cz.own cz.calm (hi C) hg (hb C) hs) fun En σ H ⟨g, sl, vh, h, hs, q⟩ => by
    refine ⟨g, sl, vh, h, hs, ?_⟩
    unfold sFor at q
    cases r : ι sl vh with
    | bad => rw [r] at q; exact q
    | exc x vh' => rw [r] at q; exact fun g1 H1 c od a b d e => q g1 H1 σ c od a b d e
    | ok iv vh' =>
      rw [r] at q
      intro g1 H1 J h1 s1 x1 y1
      dsimp only at q
      refine ⟨fun i m σ H => m = iv.items.length - i ∧ i ≤ iv.items.length ∧ ∃ g sl vh, RelH W C g vh H ∧ RelS W g H sl σ ∧ Ext g1 H1 g H ∧ PostS W C Wx g1 H1 (sLoop iv.gd γ δ (iv.items.drop i) sl vh) En,
        ⟨_, rfl, Nat.zero_le _, g1, sl, vh', h1, s1, Ext.refl g1 H1, by rw [List.drop_zero]; exact q.at x1⟩, ?_⟩
      rintro i m σ2 H2 ⟨rfl, hi, g2, sl2, vh2, h2, s2, x2, q2⟩
      by_cases hlt : i < iv.items.length
      · rw [List.drop_eq_getElem_cons hlt] at q2
        unfold sLoop at q2
        split at q2
        · rename_i hgd
          obtain ⟨_, yy⟩ := y1 C i g2 vh2 H2 h2 x2 hgd
          obtain ⟨go, yy⟩ := yy _ (List.getElem?_eq_getElem hlt)
          refine .inr ⟨go, fun σ H => ∃ g sl vh, RelH W C g vh H ∧ RelS W g H sl σ ∧ Ext g1 H1 g H ∧ PostS W C Wx g1 H1 (sLoop iv.gd γ δ (iv.items.drop (i + 1)) sl vh) En,
            fun σ' H' n => ⟨_, by omega, rfl, hlt, n⟩, fun x H3 hy => ?_⟩
          obtain ⟨g3, h3, x3, r3⟩ := yy x H3 hy
          refine ⟨C, g3, sl2, vh2, _, h3, s2.mono x3, r3, ?_⟩
          cases eg : γ iv.items[i] sl2 vh2 with
          | none => rw [eg] at q2; exact q2.elim
          | some p =>
            obtain ⟨sl4, vh4⟩ := p
            rw [eg] at q2
            dsimp only at q2
            intro g4 H4 σ4 h4 s4 x4 _
            refine ⟨g4, sl4, vh4, h4, s4, ?_⟩
            have xx := (x2.trans x3).trans x4
            cases ed : δ sl4 vh4 with
            | bad => rw [ed] at q2; exact q2.elim
            | nx s v => rw [ed] at q2; exact fun g5 H5 σ5 h5 s5 x5 => ⟨g5, s, v, h5, s5, xx.trans x5, q2⟩
            | ct s v => rw [ed] at q2; exact fun g5 H5 σ5 h5 s5 x5 => ⟨g5, s, v, h5, s5, xx.trans x5, q2⟩
            | bk s v => rw [ed] at q2; exact fun g5 H5 σ5 h5 s5 x5 => q2 g5 H5 σ5 h5 s5 (xx.trans x5)
            | rt d v => rw [ed] at q2; exact fun g5 H5 v5 h5 x5 r5 => q2 g5 H5 v5 h5 (xx.trans x5) r5
            | ex x s v => rw [ed] at q2; exact fun g5 H5 σ5 c od h5 s5 x5 r5 => q2 g5 H5 σ5 c od h5 s5 (xx.trans x5) r5
        · exact q2.elim
      · have ei : iv.items.length ≤ i := Nat.le_of_not_lt hlt
        rw [List.drop_eq_nil_of_le ei] at q2
        unfold sLoop at q2
        split at q2
        · rename_i hgd
          exact .inl ⟨(y1 C i g2 vh2 H2 h2 x2 hgd).1 ei, q2 g2 H2 σ2 h2 s2 x2⟩
        · exact q2.elim
theorem ds_while {c : Expr} {body : List Stmt} (cz : Cz W Wx k X) (n : Nat) (hc : DT W Wx X c τ) (hb : DSs W Wx X body δ) : DS W Wx X (.While c body [] pos) (sWhile τ δ n) := fun C =>
  ps_imp (ps_while cz.own (hc C) (hb C)) fun En σ H ⟨g, sl, vh, h, hs, q⟩ => by
    refine ⟨fun m σ1 H1 => ∃ g1 sl1 vh1, RelH W C g1 vh1 H1 ∧ RelS W g1 H1 sl1 σ1 ∧ Ext g H g1 H1 ∧ PostS W C Wx g H (sWhile τ δ m sl1 vh1) En, ⟨n, g, sl, vh, h, hs, Ext.refl g H, q⟩, ?_⟩
    rintro m σ1 H1 ⟨g1, sl1, vh1, h1, s1, x1, q1⟩
    cases m with
    | zero => exact q1.elim
    | succ m =>
      unfold sWhile at q1
      refine ⟨g1, sl1, vh1, h1, s1, ?_⟩
      cases r : τ sl1 vh1 with
      | bad => rw [r] at q1; exact q1
      | exc x vh' => rw [r] at q1; exact fun g2 H2 c od a b d e => q1 g2 H2 σ1 c od a b (x1.trans d) e
      | ok bb vh2 =>
        rw [r] at q1
        intro g2 H2 h2 s2 x2
        cases bb with
        | false => exact q1 g2 H2 σ1 h2 s2 (x1.trans x2)
        | true =>
          rw [if_pos rfl]
          refine ⟨fun σ H' => ∃ g1 sl1 vh1, RelH W C g1 vh1 H' ∧ RelS W g1 H' sl1 σ ∧ Ext g H g1 H' ∧ PostS W C Wx g H (sWhile τ δ m sl1 vh1) En, fun σ' H' n => ⟨m, Nat.lt_succ_self _, n⟩, g2, sl1, vh2, h2, s2, ?_⟩
          dsimp only at q1
          have xx := x1.trans x2
          cases ed : δ sl1 vh2 with
          | bad => rw [ed] at q1; exact q1.elim
          | nx s v => rw [ed] at q1; exact fun g5 H5 σ5 h5 s5 x5 => ⟨g5, s, v, h5, s5, xx.trans x5, q1⟩
          | ct s v => rw [ed] at q1; exact fun g5 H5 σ5 h5 s5 x5 => ⟨g5, s, v, h5, s5, xx.trans x5, q1⟩
          | bk s v => rw [ed] at q1; exact fun g5 H5 σ5 h5 s5 x5 => q1 g5 H5 σ5 h5 s5 (xx.trans x5)
          | rt d v => rw [ed] at q1; exact fun g5 H5 v5 h5 x5 r5 => q1 g5 H5 v5 h5 (xx.trans x5) r5
          | ex x s v => rw [ed] at q1; exact fun g5 H5 σ5 c od h5 s5 x5 r5 => q1 g5 H5 σ5 c od h5 s5 (xx.trans x5) r5
end
end
end PM

/-! PM10: list comprehensions. -/
namespace PM
open PySem L2
noncomputable section

def wipeS (sl : Sl) : List Nat → Sl
  | [] => sl
  | v :: vs => (wipeS sl vs).set v none
noncomputable def lcLoop (gd : Option (Nat × O)) (γ : GF) (τ : TF) (φ : EF) (sl : Sl) : List D → List D → VH → R (List D)
  | [], acc, vh => if gdB gd vh = true then .ok acc vh else .bad
  | d :: ds, acc, vh => if gdB gd vh = true then (match γ d sl vh with
    | none => .bad
    | some (sl', vh1) => match τ sl' vh1 with
      | .ok true vh2 => (match φ sl' vh2 with
        | .ok e vh3 => if acc.length < lim then lcLoop gd γ τ φ sl ds (acc ++ [e.d]) vh3 else .bad
        | _ => .bad)
      | .ok false vh2 => lcLoop gd γ τ φ sl ds acc vh2
      | _ => .bad) else .bad
noncomputable def eLc (ι : IF) (γ : GF) (τ : TF) (φ : EF) (vs : List Nat) : EF := fun sl vh => match ι sl vh with
  | .ok iv vh1 => (match lcLoop iv.gd γ τ φ (wipeS sl vs) iv.items [] vh1 with
    | .ok acc vh2 => .ok (.f (.lst acc)) vh2
    | _ => .bad)
  | .exc x vh' => .exc x vh'
  | .bad => .bad
abbrev WF : WX := fun _ _ _ _ => False
def tYesF : TF := fun _ vh => .ok true vh
def DTs (W : Wd) (Wx : WX) (X : Cx) (es : List Expr) (φ : TF) : Prop := ∀ C, PTs X es (TDT W C Wx φ)
section
variable {W : Wd} {C : Con} {Wx : WX} {X : Cx} {k : Nat} {g g0 : Gh} {H H0 : Hp} {σ : L2.St} {sl : Sl} {vh : VH} {φ ψ χ : EF} {δ ε : SF} {τ : TF} {pos : Pos} {e a b tg : Expr} {st : Stmt} {rest : List Stmt}
theorem pts_imp {es : List Expr} {t t' : TT} (h : PTs X es t) (i : ∀ σ H Q, t' σ H Q → t σ H Q) : PTs X es t' := ⟨fun pins s σ H Q I q => h.run pins s σ H Q I (i σ H Q q)⟩
theorem dts_nil : DTs W Wx X [] tYesF := fun C => pts_imp pts_nil fun σ H Q ⟨g, sl, vh, h, hs, q⟩ => q g H h hs (Ext.refl g H)
theorem dts_one (h : DT W Wx X a τ) : DTs W Wx X [a] τ := fun C => pts_one (h C)
theorem Cz.blk (cz : Cz W Wx k X) (s : Shared) (H : Hp) (scope : Scope) (cenv : Env) (fp : List Addr) : Cz W WF k (X.blk s H scope cenv fp) :=
  ⟨cz.K, cz.calm, fun u s' ⟨a, B, sI, pins, σ, H, cls, d, e, I, nb, up, sky, na, os, ag, w⟩ => w.elim, cz.rm, cz.gd, PassesOwn.never, cz.nd⟩
theorem RelS.wipe (h : RelS W g H sl σ) : ∀ vs : List Nat, RelS W g H (wipeS sl vs) (wipe σ vs)
  | [] => h
  | v :: vs => by
    have ih := RelS.wipe h vs
    unfold wipeS L2.wipe
    refine ⟨by simpa using ih.1, fun i d e => ?_⟩
    by_cases hi : v = i
    · subst hi
      by_cases hv : v < (wipeS sl vs).length
      · rw [List.getElem?_set_self hv] at e; cases e
      · rw [List.getElem?_eq_none (by simpa using hv)] at e; cases e
    · rw [List.getElem?_set_ne hi] at e
      obtain ⟨w, e1, r⟩ := ih.2 i d e
      exact ⟨w, by rw [List.getElem?_set_ne hi]; exact e1, r⟩
theorem Ext.upd {p : Addr} {u : HO} (nf : ¬ g.F p) : Ext g H g (upd H p u) := by
  have ne : ∀ a, g.F a → a ≠ p := fun a f e => nf (by rw [← e]; exact f)
  exact ⟨fun _ x => x, fun _ _ => rfl, Nat.le_refl _, fun a w f _ r => by rw [upd_ne (ne a f)]; exact r, fun a w f r => by unfold Rd at r ⊢; rw [upd_ne (ne a f)]; exact r,
    fun a w f r => by unfold Rd at r ⊢; rw [upd_ne (ne a f)]; exact r⟩
/-- a pending object: nobody's -/
structure Pend (C : Con) (g : Gh) (D : Addr) : Prop where
  nf : ¬ g.F D
  np : ∀ i, i < g.n → g.m i ≠ D
  nfr : ¬ C.Fr D
/-- it is kept as it is -/
def keepC (C : Con) (H : Hp) (D : Addr) : Con := ⟨H, fun a => C.Fr a ∨ a = D, fun a => C.Pd a ∨ a = D⟩
theorem RelH.keep {D : Addr} (h : RelH W C g vh H) (p : Pend C g D) (hD : H D ≠ none) : RelH W (keepC C H D) g vh H :=
  ⟨h.len, h.vh, h.inj, h.nf, h.ff, fun a ha => ⟨rfl, ha.elim (fun x => (h.fr a x).2) fun x => by rw [x]; exact hD⟩, fun i hi ha => ha.elim (h.nfr i hi) (p.np i hi),
    fun a ha => ha.elim (fun x => ⟨.inl (h.pd a x).1, (h.pd a x).2⟩) fun x => ⟨.inr x, by rw [x]; exact p.nf⟩⟩
theorem RelH.unkeep {D : Addr} {g' : Gh} {vh' : VH} {H' : Hp} (h : RelH W C g vh H) (p : Pend C g D) (h' : RelH W (keepC C H D) g' vh' H') : RelH W C g' vh' H' ∧ Pend C g' D ∧ H' D = H D :=
  ⟨⟨h'.len, h'.vh, h'.inj, h'.nf, h'.ff, fun a ha => ⟨(h'.fr a (.inl ha)).1.trans (h.fr a ha).1, (h'.fr a (.inl ha)).2⟩, fun i hi ha => h'.nfr i hi (.inl ha),
    fun a ha => ⟨(h.pd a ha).1, (h'.pd a (.inl ha)).2⟩⟩, ⟨(h'.pd D (.inr rfl)).2, fun i hi e => h'.nfr i hi (.inr e), p.nfr⟩, (h'.fr D (.inr rfl)).1⟩
/-- it is written -/
theorem RelH.pend {D : Addr} {u : HO} (h : RelH W C g vh H) (p : Pend C g D) : RelH W C g vh (upd H D u) where
  len := h.len
  vh := fun i o e => by
    have hi : i < g.n := by rw [← h.len]; exact (List.getElem?_eq_some_iff.mp e).1
    exact (h.vh i o e).mono (Ext.upd p.nf) (upd_ne (p.np i hi))
  inj := h.inj
  nf := h.nf
  ff := fun a ha => by
    rw [upd_ne fun z => p.nf (by rw [← z]; exact ha)]
    exact h.ff a ha
  fr := fun a ha => by
    rw [upd_ne fun z => p.nfr (by rw [← z]; exact ha)]
    exact h.fr a ha
  nfr := h.nfr
  pd := h.pd
theorem lc_imp {ι : IF} {γ : GF} {ix vs : List Nat} {Q : VK} (hix : ∀ i ∈ ix, i ∈ vs) (h : RelH W C g vh H) (hs : RelS W g H sl σ) (q : PostE W C Wx g H σ sl (eLc ι γ τ φ vs sl vh) Q) :
    tLc (TDI W C Wx ι) (TDG W γ ix) (fun σ H Q => ∃ C, TDT W C WF τ σ H Q) (fun σ H Q => ∃ C, TDE W C WF φ σ H Q) vs σ H Q := by
  refine ⟨g, sl, vh, h, hs, ?_⟩
  unfold eLc at q
  cases r : ι sl vh with
  | bad => rw [r] at q; exact q
  | exc x vh' => rw [r] at q; exact q
  | ok iv vh1 =>
    rw [r] at q
    intro g1 H1 J h1 s1 x1 y1 D hD
    dsimp only at q
    obtain ⟨f1, f2, f3⟩ := h1.free hD
    have q : PostE W C Wx g H σ sl (match lcLoop iv.gd γ τ φ (wipeS sl vs) iv.items [] vh1 with | .ok acc vh2 => .ok (.f (.lst acc)) vh2 | _ => .bad) Q := q
    have p1 : Pend C g1 D := ⟨f1, f2, f3⟩
    refine ⟨fun i m H2 => m = iv.items.length - i ∧ i ≤ iv.items.length ∧ ∃ g2 vh2 acc vals, RelH W C g2 vh2 H2 ∧ Pend C g2 D ∧ Ext g1 H1 g2 H2 ∧ H2 D = some (.lst vals) ∧ Reps W g2 H2 acc vals ∧
        PostE W C Wx g H σ sl (match lcLoop iv.gd γ τ φ (wipeS sl vs) (iv.items.drop i) acc vh2 with | .ok acc vh2 => .ok (.f (.lst acc)) vh2 | _ => .bad) Q,
      ⟨_, rfl, Nat.zero_le _, g1, vh1, [], [], h1.pend p1, p1, Ext.upd f1, upd_same, Reps.nil, by rw [List.drop_zero]; exact q⟩, ?_⟩
    rintro i m H2 ⟨rfl, hi, g2, vh2, acc, vals, h2, p2, x2, e2, r2, q2⟩
    by_cases hlt : i < iv.items.length
    · rw [List.drop_eq_getElem_cons hlt] at q2
      unfold lcLoop at q2
      by_cases hgd : gdB iv.gd vh2 = true
      · rw [if_pos hgd] at q2
        have hk := h2.keep p2 (by rw [e2]; exact fun z => by cases z)
        obtain ⟨_, yy⟩ := y1 _ i g2 vh2 H2 hk x2 hgd
        obtain ⟨go, yy⟩ := yy _ (List.getElem?_eq_getElem hlt)
        refine .inr ⟨go, fun H2 => ∃ g2 vh2 acc vals, RelH W C g2 vh2 H2 ∧ Pend C g2 D ∧ Ext g1 H1 g2 H2 ∧ H2 D = some (.lst vals) ∧ Reps W g2 H2 acc vals ∧
          PostE W C Wx g H σ sl (match lcLoop iv.gd γ τ φ (wipeS sl vs) (iv.items.drop (i + 1)) acc vh2 with | .ok acc vh2 => .ok (.f (.lst acc)) vh2 | _ => .bad) Q,
          fun H' n => ⟨_, by omega, rfl, hlt, n⟩, fun x H3 hy => ?_⟩
        obtain ⟨g3, h3, x3, r3⟩ := yy x H3 hy
        have s3 : RelS W g3 H3 (wipeS sl vs) (wipe σ vs) := RelS.mono (x2.trans x3) (s1.wipe vs)
        refine ⟨_, g3, wipeS sl vs, vh2, _, h3, s3, r3, ?_⟩
        cases eg : γ iv.items[i] (wipeS sl vs) vh2 with
        | none => rw [eg] at q2; exact q2.elim
        | some p =>
          obtain ⟨sl4, vh4⟩ := p
          rw [eg] at q2
          dsimp only at q2
          intro g4 H4 σ4 h4 s4 x4 w4
          have w4' : wipe σ4 vs = wipe σ vs := by
            rw [w4 vs hix]
            have idem : ∀ (us ws : List Nat), (∀ i ∈ us, i ∈ ws) → wipe (wipe σ us) ws = wipe σ ws := fun us => by
              induction us with
              | nil => intro ws _; rfl
              | cons u us ih =>
                intro ws hw
                show wipe ((wipe σ us).set u none) ws = _
                rw [wipe_set (hw u (List.mem_cons_self ..)), ih ws fun i hi => hw i (List.mem_cons_of_mem _ hi)]
            exact idem vs vs fun i hi => hi
          refine ⟨w4', _, g4, sl4, vh4, h4, s4, ?_⟩
          cases et : τ sl4 vh4 with
          | bad => rw [et] at q2; exact q2.elim
          | exc x vh' => rw [et] at q2; exact q2.elim
          | ok bb vh5 =>
            rw [et] at q2
            intro g5 H5 h5 s5 x5
            have xx := ((x2.trans x3).trans x4).trans x5
            have xy := (x3.trans x4).trans x5
            cases bb with
            | false =>
              rw [if_neg Bool.false_ne_true]
              obtain ⟨h6, p6, e6⟩ := h2.unkeep p2 h5
              exact ⟨g5, vh5, acc, vals, h6, p6, xx, e6.trans e2, Reps.mono xy _ _ r2, q2⟩
            | true =>
              rw [if_pos rfl]
              refine ⟨_, g5, sl4, vh5, h5, s5, ?_⟩
              dsimp only at q2
              cases ee : φ sl4 vh5 with
              | bad => rw [ee] at q2; exact q2.elim
              | exc x vh' => rw [ee] at q2; exact q2.elim
              | ok ev vh6 =>
                rw [ee] at q2
                dsimp only at q2
                by_cases hlim : acc.length < lim
                · rw [if_pos hlim] at q2
                  intro g6 H6 v6 h6 s6 x6 r6
                  obtain ⟨g7, h7, x7, r7⟩ := r6.freeze h6
                  obtain ⟨h8, p8, e8⟩ := h2.unkeep p2 h7
                  have xz := xy.trans (x6.trans x7)
                  have xu := Ext.upd (H := H6) (u := .lst (vals ++ [v6])) p8.nf
                  refine ⟨vals, e8.trans e2, by rw [← r2.length, ← lim_eq]; exact hlim, g7, vh6, acc ++ [ev.d], vals ++ [v6], h8.pend p8, p8, (x2.trans xz).trans xu, upd_same, ?_, q2⟩
                  exact Reps.mono xu _ _ ((Reps.mono xz _ _ r2).append (Reps.one r7))
                · rw [if_neg hlim] at q2; exact q2.elim
      · rw [if_neg hgd] at q2; exact q2.elim
    · have ei : iv.items.length ≤ i := Nat.le_of_not_lt hlt
      rw [List.drop_eq_nil_of_le ei] at q2
      unfold lcLoop at q2
      by_cases hgd : gdB iv.gd vh2 = true
      · rw [if_pos hgd] at q2
        refine .inl ⟨(y1 C i g2 vh2 H2 h2 x2 hgd).1 ei, ?_⟩
        exact q2 g2 H2 (.ref D) h2 (RelS.mono x2 s1) (x1.trans x2) ⟨D, rfl, ⟨vals, e2, r2⟩, p2.nf, p2.np, p2.nfr⟩
      · rw [if_neg hgd] at q2; exact q2.elim
variable {elt iter : Expr} {ifs : List Expr} {scope : Scope} {ι : IF} {γ : GF} {ix : List Nat}
theorem de_lc (own : List (Str × Nat)) (cz : Cz W Wx k X) (hi : DI W Wx X tg iter ι) (ok : blkC X.N X.env.scope scope own = true)
    (hg : ∀ (s : Shared) (H : Hp) (C : Addr) (cl : List (Str × Addr)) (fp : List Addr), Cz W WF k (X.blk s H scope (compEnvC scope cl C X.env) fp) → DG W (X.blk s H scope (compEnvC scope cl C X.env) fp) tg γ ix)
    (ht : ∀ (s : Shared) (H : Hp) (C : Addr) (cl : List (Str × Addr)) (fp : List Addr), Cz W WF k (X.blk s H scope (compEnvC scope cl C X.env) fp) → DTs W WF (X.blk s H scope (compEnvC scope cl C X.env) fp) ifs τ)
    (he : ∀ (s : Shared) (H : Hp) (C : Addr) (cl : List (Str × Addr)) (fp : List Addr), Cz W WF k (X.blk s H scope (compEnvC scope cl C X.env) fp) → DE W WF (X.blk s H scope (compEnvC scope cl C X.env) fp) elt φ)
    (hix : ∀ i ∈ ix, i ∈ own.map (·.2) := by decide) (hs : ∀ x, foldedSetIterable iter X.env x = pure x := by intro _; rfl) :
    DE W Wx X (.ListComp elt [⟨tg, iter, ifs, 0⟩] scope pos) (eLc ι γ τ φ (own.map (·.2))) := fun C =>
  pe_imp (pe_lc cz.calm cz.nd (hi C) (blkOk_by ok) (fun s H C cl fp => hg s H C cl fp (cz.blk ..)) (fun s H C cl fp => ⟨fun pins s' σ H Q I ⟨C', q⟩ => ((ht s _ C cl fp (cz.blk ..)) C').run pins s' σ H Q I q⟩)
    (fun s H C cl fp => ⟨fun pins s' σ H Q I ⟨C', q⟩ => ((he s _ C cl fp (cz.blk ..)) C').run pins s' σ H Q I q⟩) hs) fun σ H Q ⟨g, sl, vh, h, hs, q⟩ => lc_imp hix h hs q
theorem TDE.lay {Q : VK} (t : TDE W C Wx (eLay φ) σ H Q) : TDE W C Wx φ σ H Q := by
  obtain ⟨g, sl, vh, h, hs, q⟩ := t
  refine ⟨g, sl, vh, h, hs, ?_⟩
  unfold eLay at q
  cases r : φ sl vh with
  | bad => rw [r] at q; exact q
  | exc x vh' => rw [r] at q; exact q
  | ok e vh' =>
    rw [r] at q
    cases e with
    | v d => exact q.elim
    | f o =>
      intro g1 H1 v1 h1 s1 x1 r1
      obtain ⟨g2, h2, x2, r2⟩ := r1.lay h1
      exact q g2 H1 v1 h2 (s1.mono x2) (x1.trans x2) r2
theorem TDS.set {i : Nat} {En : Ends} (t : TDS W C Wx (sSet i φ) En σ H) : TDE W C Wx φ σ H (fun v H' => En.nx (σ.set i (some v)) H') := by
  obtain ⟨g, sl, vh, h, hs, q⟩ := t
  refine ⟨g, sl, vh, h, hs, ?_⟩
  unfold sSet at q
  cases r : φ sl vh with
  | bad => rw [r] at q; exact q
  | ok e vh' =>
    rw [r] at q
    intro g1 H1 v1 h1 s1 x1 r1
    obtain ⟨g2, h2, x2, r2⟩ := r1.freeze h1
    exact q g2 H1 _ h2 ((s1.mono x2).set r2) (x1.trans x2)
  | exc x vh' => rw [r] at q; exact fun g1 H1 c od a b d e => q g1 H1 σ c od a b d e
/-- name = [..] on one line, a local -/
theorem ds_setLc {i : Nat} {y : Str} {py spos : Pos} (own : List (Str × Nat)) (cz : Cz W Wx k X) (hi : DI W Wx X tg iter ι) (ok : blkC X.N X.env.scope scope own = true)
    (hg : ∀ (s : Shared) (H : Hp) (C : Addr) (cl : List (Str × Addr)) (fp : List Addr), Cz W WF k (X.blk s H scope (compEnvC scope cl C X.env) fp) → DG W (X.blk s H scope (compEnvC scope cl C X.env) fp) tg γ ix)
    (ht : ∀ (s : Shared) (H : Hp) (C : Addr) (cl : List (Str × Addr)) (fp : List Addr), Cz W WF k (X.blk s H scope (compEnvC scope cl C X.env) fp) → DTs W WF (X.blk s H scope (compEnvC scope cl C X.env) fp) ifs τ)
    (he : ∀ (s : Shared) (H : Hp) (C : Addr) (cl : List (Str × Addr)) (fp : List Addr), Cz W WF k (X.blk s H scope (compEnvC scope cl C X.env) fp) → DE W WF (X.blk s H scope (compEnvC scope cl C X.env) fp) elt φ)
    (hy : X.N[i]? = some y := by rfl) (hyl : X.env.scope.names.lookup y = some .local := by rfl)
    (hsw : swapsWith (.ListComp elt [⟨tg, iter, ifs, 0⟩] scope pos) (some (.Name y py)) spos.line X.env = pure true := by rfl)
    (hix : ∀ i ∈ ix, i ∈ own.map (·.2) := by decide) (hs : ∀ x, foldedSetIterable iter X.env x = pure x := by intro _; rfl) :
    DS W Wx X (.Assign [.Name y py] (.ListComp elt [⟨tg, iter, ifs, 0⟩] scope pos) spos) (sSet i (eLc ι γ τ φ (own.map (·.2)))) := fun C =>
  ps_imp (ps_setLc (tt := fun σ H Q => ∃ C, TDT W C WF τ σ H Q) (te := fun σ H Q => ∃ C, TDE W C WF φ σ H Q) cz.calm cz.nd hy hyl hsw (hi C) (blkOk_by ok) (fun s H C cl fp => hg s H C cl fp (cz.blk ..)) (fun s H C cl fp => ⟨fun pins s' σ H Q I ⟨C', q⟩ => ((ht s _ C cl fp (cz.blk ..)) C').run pins s' σ H Q I q⟩)
    (fun s H C cl fp => ⟨fun pins s' σ H Q I ⟨C', q⟩ => ((he s _ C cl fp (cz.blk ..)) C').run pins s' σ H Q I q⟩) hs) fun En σ H t => by
    obtain ⟨g, sl, vh, h, hs, q⟩ := TDS.set t
    exact lc_imp hix h hs q
theorem ds_setLcH {i : Nat} {y : Str} {py spos : Pos} (own : List (Str × Nat)) (cz : Cz W Wx k X) (hi : DI W Wx X tg iter ι) (ok : blkC X.N X.env.scope scope own = true)
    (hg : ∀ (s : Shared) (H : Hp) (C : Addr) (cl : List (Str × Addr)) (fp : List Addr), Cz W WF k (X.blk s H scope (compEnvC scope cl C X.env) fp) → DG W (X.blk s H scope (compEnvC scope cl C X.env) fp) tg γ ix)
    (ht : ∀ (s : Shared) (H : Hp) (C : Addr) (cl : List (Str × Addr)) (fp : List Addr), Cz W WF k (X.blk s H scope (compEnvC scope cl C X.env) fp) → DTs W WF (X.blk s H scope (compEnvC scope cl C X.env) fp) ifs τ)
    (he : ∀ (s : Shared) (H : Hp) (C : Addr) (cl : List (Str × Addr)) (fp : List Addr), Cz W WF k (X.blk s H scope (compEnvC scope cl C X.env) fp) → DE W WF (X.blk s H scope (compEnvC scope cl C X.env) fp) elt φ)
    (hy : X.N[i]? = some y := by rfl) (hyl : X.env.scope.names.lookup y = some .local := by rfl)
    (hsw : swapsWith (.ListComp elt [⟨tg, iter, ifs, 0⟩] scope pos) (some (.Name y py)) spos.line X.env = pure true := by rfl)
    (hix : ∀ i ∈ ix, i ∈ own.map (·.2) := by decide) (hs : ∀ x, foldedSetIterable iter X.env x = pure x := by intro _; rfl) :
    DS W Wx X (.Assign [.Name y py] (.ListComp elt [⟨tg, iter, ifs, 0⟩] scope pos) spos) (sSet i (eLay (eLc ι γ τ φ (own.map (·.2))))) := fun C =>
  ps_imp (ps_setLc (tt := fun σ H Q => ∃ C, TDT W C WF τ σ H Q) (te := fun σ H Q => ∃ C, TDE W C WF φ σ H Q) cz.calm cz.nd hy hyl hsw (hi C) (blkOk_by ok) (fun s H C cl fp => hg s H C cl fp (cz.blk ..)) (fun s H C cl fp => ⟨fun pins s' σ H Q I ⟨C', q⟩ => ((ht s _ C cl fp (cz.blk ..)) C').run pins s' σ H Q I q⟩)
    (fun s H C cl fp => ⟨fun pins s' σ H Q I ⟨C', q⟩ => ((he s _ C cl fp (cz.blk ..)) C').run pins s' σ H Q I q⟩) hs) fun En σ H t => by
    obtain ⟨g, sl, vh, h, hs, q⟩ := (TDS.set t).lay
    exact lc_imp hix h hs q
end
end
end PM

/-! PM11: built-ins by name, methods of lists, repr, keyword calls. -/
namespace PM
open PySem L2
noncomputable section

section
variable {W : Wd} {C : Con} {Wx : WX} {X : Cx} {k : Nat} {g g0 : Gh} {H H0 : Hp} {σ : L2.St} {sl : Sl} {vh : VH} {φ ψ χ : EF} {α : AF} {pos : Pos} {e a b : Expr} {x : Str} {p0 : Pos} {id : String} {r : List V → Hp → VK → Prop}
theorem de_b1 {p : D → Option EV} (hc : CallR X (.builtin id) r) (hp : Prim1 W X (fun x H Q => r [x] H Q) p) (hg : Gl X x) (hm : X.mg x = none) (ha : DE W Wx X a φ) (hv : bootBuiltins x = some (.builtin id) := by rfl) (hn : x ≠ "__name__" := by decide) (hdb : (x == ("__debug__" : Str)) = false := by decide)
    (he : starEach (a :: []) X.env = (false, eval a X.env) :: starEach [] X.env := by rfl) (hpl : (backTo pos (starEach [] X.env)).any (·.1) = false := by rfl) : DE W Wx X (.Call (.Name x p0) [a] [] pos) (e1 p φ) :=
  de_1 ha hp fun ta h => pe_imp (pe_callB hc hg hm hv (pa_cons h pa_nil he) hn hdb he hpl) fun σ H Q q => q
theorem de_t1 {p : D → Option EV} (hc : CallR X (.type id) r) (hp : Prim1 W X (fun x H Q => r [x] H Q) p) (hg : Gl X x) (hm : X.mg x = none) (ha : DE W Wx X a φ) (hv : bootBuiltins x = some (.type id) := by rfl) (hn : x ≠ "__name__" := by decide) (hdb : (x == ("__debug__" : Str)) = false := by decide)
    (he : starEach (a :: []) X.env = (false, eval a X.env) :: starEach [] X.env := by rfl) (hpl : (backTo pos (starEach [] X.env)).any (·.1) = false := by rfl) : DE W Wx X (.Call (.Name x p0) [a] [] pos) (e1 p φ) :=
  de_1 ha hp fun ta h => pe_imp (pe_callTy hc hg hm hv (pa_cons h pa_nil he) hn hdb he hpl) fun σ H Q q => q
theorem de_b2 {p : D → D → Option EV} (hc : CallR X (.builtin id) r) (hp : Prim2 W X (fun x y H Q => r [x, y] H Q) p) (hg : Gl X x) (hm : X.mg x = none) (ha : DE W Wx X a φ) (hb : DE W Wx X b ψ) (hv : bootBuiltins x = some (.builtin id) := by rfl) (hn : x ≠ "__name__" := by decide) (hdb : (x == ("__debug__" : Str)) = false := by decide)
    (he : starEach (a :: [b]) X.env = (false, eval a X.env) :: starEach [b] X.env := by rfl) (he2 : starEach (b :: []) X.env = (false, eval b X.env) :: starEach [] X.env := by rfl) (hpl : (backTo pos (starEach [b] X.env)).any (·.1) = false := by rfl) : DE W Wx X (.Call (.Name x p0) [a, b] [] pos) (e2 p φ ψ) :=
  de_2 ha hb hp fun ta tb h h' => pe_imp (pe_callB hc hg hm hv (pa_cons h (pa_cons h' pa_nil he2) he) hn hdb he hpl) fun σ H Q q => q
end

/-! ### numbers -/
def bAbs : D → Option EV
  | .int i => vI (if i < 0 then -i else i)
  | _ => none
def bInt : D → Option EV
  | .int i => vI i
  | .bl b => vI (if b then 1 else 0)
  | _ => none
def bMax : D → D → Option EV
  | .int i, .int j => vI (if j > i then j else i)
  | _, _ => none
def bMin : D → D → Option EV
  | .int i, .int j => vI (if j < i then j else i)
  | _, _ => none
def bLen : D → Option EV
  | .str x => if x.length ≤ lim then vI x.length else none
  | .lst xs => vI xs.length
  | .tup xs => vI xs.length
  | .scr xs => vI xs.length
  | .dct kvs => vI kvs.length
  | _ => none
section
variable {W : Wd} {C : Con} {Wx : WX} {X : Cx} {k : Nat} {g g0 : Gh} {H H0 : Hp} {σ : L2.St} {sl : Sl} {vh : VH} {φ ψ χ : EF} {α : AF} {pos : Pos} {e a b : Expr} {x : Str} {p0 : Pos} {id : String} {r : List V → Hp → VK → Prop}
theorem p_abs : Prim1 W X (fun x H Q => ∃ i, [x] = [V.int i] ∧ Q (.int (if i < 0 then -i else i)) H) bAbs := by
  intro C g H vh dx x Q h rx q s
  cases dx <;> try (simp [bAbs] at s; done)
  rw [rx.int]
  exact ⟨_, rfl, q _ rfl g H _ h (Ext.refl g H) (by simp only [RepE, Rep])⟩
theorem p_int : Prim1 W X (fun x H Q => (∃ i, [x] = [V.int i] ∧ Q (.int i) H) ∨ ∃ k, [x] = [V.bl k] ∧ Q (.int (if k then 1 else 0)) H) bInt := by
  intro C g H vh dx x Q h rx q s
  cases dx <;> try (simp [bInt] at s; done)
  · rw [rx.bl]
    exact .inr ⟨_, rfl, q _ rfl g H _ h (Ext.refl g H) (by simp only [RepE, Rep])⟩
  · rw [rx.int]
    exact .inl ⟨_, rfl, q _ rfl g H _ h (Ext.refl g H) (by simp only [RepE, Rep])⟩
theorem p_max : Prim2 W X (fun x y H Q => ∃ i j, [x, y] = [V.int i, V.int j] ∧ Q (.int (if j > i then j else i)) H) bMax := by
  intro C g H vh dx dy x y Q h rx ry q s
  cases dx <;> cases dy <;> try (simp [bMax] at s; done)
  rw [rx.int, ry.int]
  exact ⟨_, _, rfl, q _ rfl g H _ h (Ext.refl g H) (by simp only [RepE, Rep])⟩
theorem p_min : Prim2 W X (fun x y H Q => ∃ i j, [x, y] = [V.int i, V.int j] ∧ Q (.int (if j < i then j else i)) H) bMin := by
  intro C g H vh dx dy x y Q h rx ry q s
  cases dx <;> cases dy <;> try (simp [bMin] at s; done)
  rw [rx.int, ry.int]
  exact ⟨_, _, rfl, q _ rfl g H _ h (Ext.refl g H) (by simp only [RepE, Rep])⟩
theorem de_abs (hg : Gl X "abs") (hm : X.mg "abs" = none) (ha : DE W Wx X a φ) (he : starEach (a :: []) X.env = (false, eval a X.env) :: starEach [] X.env := by rfl) : DE W Wx X (.Call (.Name "abs" p0) [a] [] pos) (e1 bAbs φ) := de_b1 call_abs p_abs hg hm ha (he := he)
theorem de_intB (hg : Gl X "int") (hm : X.mg "int" = none) (ha : DE W Wx X a φ) (he : starEach (a :: []) X.env = (false, eval a X.env) :: starEach [] X.env := by rfl) : DE W Wx X (.Call (.Name "int" p0) [a] [] pos) (e1 bInt φ) := de_t1 call_int1 p_int hg hm ha (he := he)
theorem de_max (hc : X.calm = true) (hg : Gl X "max") (hm : X.mg "max" = none) (ha : DE W Wx X a φ) (hb : DE W Wx X b ψ) (he : starEach (a :: [b]) X.env = (false, eval a X.env) :: starEach [b] X.env := by rfl) (he2 : starEach (b :: []) X.env = (false, eval b X.env) :: starEach [] X.env := by rfl) (hpl : (backTo pos (starEach [b] X.env)).any (·.1) = false := by rfl) :
    DE W Wx X (.Call (.Name "max" p0) [a, b] [] pos) (e2 bMax φ ψ) := de_b2 (call_max2 hc) p_max hg hm ha hb (he := he) (he2 := he2) (hpl := hpl)
theorem de_min (hc : X.calm = true) (hg : Gl X "min") (hm : X.mg "min" = none) (ha : DE W Wx X a φ) (hb : DE W Wx X b ψ) (he : starEach (a :: [b]) X.env = (false, eval a X.env) :: starEach [b] X.env := by rfl) (he2 : starEach (b :: []) X.env = (false, eval b X.env) :: starEach [] X.env := by rfl) (hpl : (backTo pos (starEach [b] X.env)).any (·.1) = false := by rfl) :
    DE W Wx X (.Call (.Name "min" p0) [a, b] [] pos) (e2 bMin φ ψ) := de_b2 (call_min2 hc) p_min hg hm ha hb (he := he) (he2 := he2) (hpl := hpl)
theorem call_lenDR : CallR X (.builtin "len") (fun xs H Q => ∃ a kvs, xs = [V.ref a] ∧ Rd H a (.dK kvs) ∧ Q (.int kvs.length) H) := by
  intro pins s σ H xs us Q I r h
  obtain ⟨a, kvs, rfl, hk, q⟩ := h
  obtain ⟨u, rfl, rr⟩ := vals1 r
  cases rr
  exact d_len I hk fun t s' I' => ⟨.int kvs.length, H, I', ⟨t, rfl⟩, q⟩
theorem p_len (hK : X.K = W.K) : Prim1 W X (fun x H Q => (∃ y n, [x] = [y] ∧ LenV X.K y H n ∧ Q (.int n) H) ∨ ∃ a kvs, [x] = [V.ref a] ∧ Rd H a (.dK kvs) ∧ Q (.int kvs.length) H) bLen := by
  intro C g H vh dx x Q h rx q s
  cases dx <;> try (simp [bLen] at s; done)
  · rw [rx.str]
    have hc := isSome_ite s
    exact .inl ⟨_, _, rfl, ⟨by rw [← lim_eq]; exact hc, rfl⟩, q _ (if_pos hc) g H _ h (Ext.refl g H) (by simp only [RepE, Rep])⟩
  · obtain ⟨a, vs, rfl, h1, r1⟩ := rx.tup
    exact .inl ⟨_, vs.length, rfl, .inr ⟨vs, by rw [hK]; exact h1, rfl⟩, q _ rfl g H _ h (Ext.refl g H) (by simp only [RepE, Rep, r1.length])⟩
  · obtain ⟨a, vs, rfl, h1, r1⟩ := rx.lst
    exact .inl ⟨_, vs.length, rfl, .inl ⟨vs, SqL.of h1, rfl⟩, q _ rfl g H _ h (Ext.refl g H) (by simp only [RepE, Rep, r1.length])⟩
  · obtain ⟨a, ws, rfl, h1, r1⟩ := rx.dct
    exact .inr ⟨a, ws, rfl, h1, q _ rfl g H _ h (Ext.refl g H) (by simp only [RepE, Rep, r1.length])⟩
  · rename_i ns
    obtain ⟨a, rfl, h1⟩ := rx.scr
    exact .inl ⟨_, _, rfl, .inl ⟨_, by rw [hK]; exact h1, rfl⟩, q _ rfl g H _ h (Ext.refl g H) (by simp only [RepE, Rep, List.length_map])⟩
theorem de_len (hK : X.K = W.K) (hg : Gl X "len") (hm : X.mg "len" = none) (ha : DE W Wx X a φ) (he : starEach (a :: []) X.env = (false, eval a X.env) :: starEach [] X.env := by rfl) : DE W Wx X (.Call (.Name "len" p0) [a] [] pos) (e1 bLen φ) :=
  de_b1 (call_len.or call_lenDR) (p_len hK) hg hm ha (he := he)

/-! ### tuple(..), list(..), {} -/
def bTup : D → Option EV
  | .tup xs => some (.v (.tup xs))
  | .lst xs => some (.v (.tup xs))
  | .scr ns => some (.v (.tup (ns.map D.int)))
  | _ => none
def bLst : D → Option EV
  | .tup xs => some (.f (.lst xs))
  | .lst xs => some (.f (.lst xs))
  | .scr ns => some (.f (.lst (ns.map D.int)))
  | _ => none
theorem RepW.nref {d : D} {v : V} (r : RepW W g H d v) (h : ∀ o, d ≠ O.toD o) : Rep W g H d v := by
  rcases r with r | ⟨o, a, e, _⟩
  · exact r
  · exact absurd e (h o)
theorem reps_ints : ∀ ns : List Int, Reps W g H (ns.map D.int) (ns.map V.int)
  | [] => by simp [Reps]
  | n :: ns => Reps.cons (by simp only [Rep]) (reps_ints ns)
theorem p_tupc (hK : X.K = W.K) : Prim1 W X (fun x H Q => ∃ p ys, [x] = [V.ref p] ∧ ((SqL X.K H p ys ∧ ∀ l, H l = none → Q (.ref l) (upd H l (.tup ys))) ∨ (SqT X.K H p ys ∧ Q (.ref p) H))) bTup := by
  intro C g H vh dx x Q h rx q s
  cases dx <;> try (simp [bTup] at s; done)
  · obtain ⟨a, vs, e, h1, r1⟩ := rx.tup
    subst e
    exact ⟨_, vs, rfl, .inr ⟨by rw [hK]; exact h1, q _ rfl g H _ h (Ext.refl g H) (rx.nref fun o => by cases o <;> exact fun z => by cases z)⟩⟩
  · obtain ⟨a, vs, rfl, h1, r1⟩ := rx.lst
    refine ⟨_, vs, rfl, .inl ⟨SqL.of h1, fun p np => ?_⟩⟩
    obtain ⟨a1, b1, c1⟩ := new_tup h np r1
    exact q _ rfl _ _ _ a1 b1 c1
  · obtain ⟨a, rfl, h1⟩ := rx.scr
    refine ⟨_, _, rfl, .inl ⟨by rw [hK]; exact h1, fun p np => ?_⟩⟩
    obtain ⟨a1, b1, c1⟩ := new_tup h np (reps_ints _)
    exact q _ rfl _ _ _ a1 b1 c1
theorem p_lstc (hK : X.K = W.K) : Prim1 W X (fun x H Q => ∃ p ys, [x] = [V.ref p] ∧ (SqL X.K H p ys ∨ SqT X.K H p ys) ∧ ∀ l, H l = none → Q (.ref l) (upd H l (.lst ys))) bLst := by
  intro C g H vh dx x Q h rx q s
  cases dx <;> try (simp [bLst] at s; done)
  · obtain ⟨a, vs, rfl, h1, r1⟩ := rx.tup
    exact ⟨_, vs, rfl, .inr (by rw [hK]; exact h1), fun p np => q _ rfl _ _ _ (h.new np) (Ext.new h np) (new_lst h np r1)⟩
  · obtain ⟨a, vs, rfl, h1, r1⟩ := rx.lst
    exact ⟨_, vs, rfl, .inl (SqL.of h1), fun p np => q _ rfl _ _ _ (h.new np) (Ext.new h np) (new_lst h np r1)⟩
  · obtain ⟨a, rfl, h1⟩ := rx.scr
    exact ⟨_, _, rfl, .inl (by rw [hK]; exact h1), fun p np => q _ rfl _ _ _ (h.new np) (Ext.new h np) (new_lst h np (reps_ints _))⟩
theorem de_tupc (hK : X.K = W.K) (hg : Gl X "tuple") (hm : X.mg "tuple" = none) (ha : DE W Wx X a φ) (he : starEach (a :: []) X.env = (false, eval a X.env) :: starEach [] X.env := by rfl) : DE W Wx X (.Call (.Name "tuple" p0) [a] [] pos) (e1 bTup φ) :=
  de_t1 call_tuple_of (p_tupc hK) hg hm ha (he := he)
theorem de_lstc (hK : X.K = W.K) (hg : Gl X "list") (hm : X.mg "list" = none) (ha : DE W Wx X a φ) (he : starEach (a :: []) X.env = (false, eval a X.env) :: starEach [] X.env := by rfl) : DE W Wx X (.Call (.Name "list" p0) [a] [] pos) (e1 bLst φ) :=
  de_t1 call_list_of (p_lstc hK) hg hm ha (he := he)
def eD0 : EF := fun _ vh => .ok (.f (.dct [])) vh
theorem de_dict0 : DE W Wx X (.Dict [] [] pos) eD0 := fun C => pe_imp pe_dnewK fun σ H Q ⟨g, sl, vh, h, hs, q⟩ p np => by
  have x := Ext.new (u := .dK []) h np
  exact q g _ _ (h.new np) (hs.mono x) x (new_obj h np ⟨[], upd_same, by simp [RepKV]⟩)
/-- dict(pairs) -/
def kvOf : List D → Option (List (D × D))
  | [] => some []
  | .tup [k, d] :: r => match keyD k, kvOf r with
    | some _, some l => some ((k, d) :: l)
    | _, _ => none
  | _ => none
def dmerge (kvs more : List (D × D)) : List (D × D) := more.foldl (fun acc p => dput acc p.1 p.2) kvs
def bDct : D → Option EV
  | .lst xs => (kvOf xs).map fun l => .f (.dct (dmerge [] l))
  | _ => none
theorem RepKV.merge : ∀ {more : List (D × D)} {rs : List (Key × V)} {kvs : List (D × D)} {ws : List (Key × V)}, RepKV W g H more rs → RepKV W g H kvs ws → RepKV W g H (dmerge kvs more) (mergeK ws rs)
  | [], rs, kvs, ws, r, q => by simp only [RepKV] at r; subst r; exact q
  | (k, d) :: more, rs, kvs, ws, r, q => by
    simp only [RepKV] at r
    obtain ⟨k', v, s, rfl, e, h1, h2⟩ := r
    show RepKV W g H (dmerge (dput kvs k d) more) (mergeK (putK ws k' v) s)
    exact RepKV.merge h2 (q.put e h1)
theorem kvOf_rep (hK : X.K = W.K) : ∀ {xs : List D} {vs : List V} {l : List (D × D)}, Reps W g H xs vs → kvOf xs = some l →
    ∃ (ps : List Addr) (kvs : List (Key × V)), vs = ps.map V.ref ∧ Paired (fun p kv => SqT X.K H p [kV kv.1, kv.2]) ps kvs ∧ RepKV W g H l kvs
  | [], vs, l, r, e => by
    simp only [Reps] at r
    cases e
    exact ⟨[], [], by rw [r]; rfl, .nil, by simp [RepKV]⟩
  | x :: xs, vs, l, r, e => by
    simp only [Reps] at r
    obtain ⟨v, vr, rfl, h1, h2⟩ := r
    cases x with
    | tup ys =>
      rcases ys with _ | ⟨k, _ | ⟨d, _ | ⟨z, ys⟩⟩⟩ <;> try (cases e; done)
      simp only [kvOf] at e
      cases ek : keyD k with
      | none => rw [ek] at e; cases e
      | some y =>
        cases el : kvOf xs with
        | none => rw [ek, el] at e; cases e
        | some l' =>
          rw [ek, el] at e
          cases e
          obtain ⟨ps, kvs, rfl, p2, r2⟩ := kvOf_rep hK h2 el
          simp only [Rep] at h1
          obtain ⟨a, ws, rfl, t, rr⟩ := h1
          simp only [Reps] at rr
          obtain ⟨vk, _, rfl, rk, vd, _, rfl, rd, rfl⟩ := rr
          have evk : vk = kV y := keyD_kV (.inl rk) ek
          subst evk
          refine ⟨a :: ps, (y, vd) :: kvs, rfl, .cons (by rw [hK]; exact t.sq) p2, ?_⟩
          simp only [RepKV]
          exact ⟨y, vd, kvs, rfl, ek, rd, r2⟩
    | _ => cases e
theorem p_dct (hK : X.K = W.K) : Prim1 W X (fun x H Q => ∃ (a : Addr) (ps : List Addr) (kvs : List (Key × V)), [x] = [V.ref a] ∧ SqL X.K H a (ps.map V.ref) ∧ Paired (fun p kv => SqT X.K H p [kV kv.1, kv.2]) ps kvs ∧
    ∀ p, H p = none → Q (.ref p) (upd H p (.dK (mergeK [] kvs)))) bDct := by
  intro C g H vh dx x Q h rx q s
  cases dx <;> try (simp [bDct] at s; done)
  obtain ⟨a, vs, rfl, h1, r1⟩ := rx.lst
  simp only [bDct] at s q
  obtain ⟨l, e⟩ := opt_map_some s
  obtain ⟨ps, kvs, rfl, pr, rk⟩ := kvOf_rep hK r1 e
  refine ⟨a, ps, kvs, rfl, SqL.of h1, pr, fun p np => ?_⟩
  have rm : RepKV W g H (dmerge [] l) (mergeK [] kvs) := rk.merge (by simp [RepKV])
  exact q (.f (.dct (dmerge [] l))) (by rw [e]; rfl) _ _ _ (h.new np) (Ext.new h np) (new_obj h np ⟨_, upd_same, RepKV.mono (Ext.new h np) _ _ rm⟩)
theorem de_dct (hK : X.K = W.K) (hc : X.calm = true) (hg : Gl X "dict") (hm : X.mg "dict" = none) (ha : DE W Wx X a φ) (he : starEach (a :: []) X.env = (false, eval a X.env) :: starEach [] X.env := by rfl) : DE W Wx X (.Call (.Name "dict" p0) [a] [] pos) (e1 bDct φ) :=
  de_t1 (call_dictP hc) (p_dct hK) hg hm ha (he := he)

/-! ### repr -/
def kvPy : List (D × D) → Option (List (PyData × PyData))
  | [] => some []
  | (k, d) :: r => match keyD k, toPy k, scV d, toPy d, kvPy r with
    | some _, some a, some _, some b, some l => some ((a, b) :: l)
    | _, _, _, _, _ => none
def pyR : D → Option PyData
  | .dct kvs => (kvPy kvs).map .dict
  | d => toPy d
def bRepr (d : D) : Option EV := (pyR d).bind fun p => if (p.showable && decide (p.depth ≤ 64) && decide (p.shown.length ≤ lim)) = true then vS p.shown else none

def keyPy : Key → PyData
  | .inl i => .int i
  | .inr x => .str x
def atomPy : V → Option PyData
  | .non => some .none
  | .bl b => some (.bool b)
  | .int i => some (.int i)
  | .str x => some (.str x)
  | _ => none
def FlatKV : List (Key × V) → List (PyData × PyData) → Prop := Paired fun kv p => p.1 = keyPy kv.1 ∧ atomPy kv.2 = some p.2
theorem atom_reads {h : Heap} {v : V} {u : Value} {p : PyData} (r : RelV v u) (e : atomPy v = some p) : Reads h u p [] := by
  cases v with
  | non => cases e; cases r; exact .none
  | bl b => cases e; cases r; exact .bool b
  | int i => cases e; obtain ⟨t, rfl⟩ := r; exact .int i t
  | str x => cases e; obtain ⟨t, rfl⟩ := r; exact .str x t
  | _ => cases e
theorem key_reads {h : Heap} {k : Key} {u : Value} (r : keyIs k u = true) : Reads h u (keyPy k) [] := by
  rcases keyIs_shape r with ⟨i, t, e1, e2⟩ | ⟨x, t, e1, e2⟩ <;> subst e1 <;> subst e2
  · exact .int i t
  · exact .str x t
theorem flat_reads {P : Program} {w : World} {h : Heap} : ∀ {ws : List (Key × V)} {vs : List (Key × Value)} {es : List DictEntry} {kvs : List (PyData × PyData)}, KV ws vs → Pairs (mixKind P w) es vs → FlatKV ws kvs →
    ReadsAll h (es.map (·.key)) (kvs.map (·.1)) [] ∧ ReadsAll h (es.map (·.val)) (kvs.map (·.2)) []
  | _, _, _, _, .nil, p, f => by cases p; cases f; exact ⟨.nil, .nil⟩
  | _, _, _, _, .cons h1 h2, p, f => by
    cases p with
    | cons p1 p2 p3 =>
      cases f with
      | cons f1 f2 =>
        obtain ⟨r1, r2⟩ := flat_reads (h := h) h2 p3 f2
        rename_i a b l1 l2 e es' b2 l3
        obtain ⟨x1, x2⟩ := h1
        obtain ⟨y1, y2⟩ := f1
        refine ⟨?_, ?_⟩
        · rw [List.map_cons, List.map_cons, y1, x1]
          exact ReadsAll.cons (as := []) (bs := []) (key_reads p1) r1
        · rw [List.map_cons, List.map_cons, p2]
          exact ReadsAll.cons (as := []) (bs := []) (atom_reads x2 y2) r2
def ReadV (K : PySem.W.Frag) (H : Hp) (x : V) (p : PyData) : Prop := (Dp K H x p ∧ p.hasDict = false) ∨ ∃ a ws kvs, x = .ref a ∧ Rd H a (.dK ws) ∧ FlatKV ws kvs ∧ p = .dict kvs
def ReprOk (p : PyData) : Prop := p.showable = true ∧ p.depth ≤ 64 ∧ p.shown.length ≤ sizeLine
theorem call_reprX (hu : X.A.units + 66 < cLine) (hg : X.A.guards = some []) : CallR X (.builtin "repr") (fun xs H Q => ∃ x p, xs = [x] ∧ ReadV X.K H x p ∧ ReprOk p ∧ Q (.str p.shown) H) := by
  intro pins s σ H xs us Q I r h
  obtain ⟨x, p, rfl, rd, ⟨o1, o2, o3⟩, q⟩ := h
  obtain ⟨u, rfl, rr⟩ := vals1 r
  have fin : ∀ h' u tk, (∀ b o, s.heap.get? b = some o → h'.get? b = some o) → EP X pins σ Q (.str p.shown u) { s with heap := h', toks := tk } := fun h' u tk hk => ⟨.str p.shown, H, I.kept fun b o e => hk b o e, ⟨u, rfl⟩, q⟩
  rcases rd with ⟨dp, nd⟩ | ⟨a, ws, kvs, rfl, rk, fl, rfl⟩
  · obtain ⟨as, rs⟩ := Dp.reads I p x u dp rr
    cases p with
    | none => cases dp; cases rr; exact PySem.P.repr_of_none ⟨.str _, H, I.tok _, ⟨_, rfl⟩, q⟩
    | bool b =>
      cases dp; cases rr
      refine PySem.P.repr_of_bool ⟨.str _, H, I.tok _, ⟨_, rfl⟩, ?_⟩
      cases b <;> exact q
    | int i =>
      cases dp
      obtain ⟨t, rfl⟩ := rr
      simp only [PyData.showable, decide_eq_true_eq] at o1
      exact PySem.P.repr_of_int o1 ⟨.str _, H, I.tok _, ⟨_, rfl⟩, q⟩
    | str z =>
      cases dp
      obtain ⟨t, rfl⟩ := rr
      exact PySem.P.repr_of_str ⟨.str _, H, I.tok _, ⟨_, rfl⟩, q⟩ o3
    | list ds =>
      cases dp
      cases rr
      exact repr_of_reads' rs o1 (PyData.noDict_hsm nd) hg (by omega) (fun _ _ e => e) fin o3
    | tuple ds =>
      cases dp
      cases rr
      exact repr_of_reads' rs o1 (PyData.noDict_hsm nd) hg (by omega) (fun _ _ e => e) fin o3
    | dict kvs => cases dp
  · cases rr
    obtain ⟨hz, hm, vs, kv, o, es, ep, ho, ex, hd, _, pr, _⟩ : ObjOk X.prog X.w H s.heap a (.dK ws) := by
      rcases rk with hk | ⟨o, hk⟩
      · exact I.hok a _ hk
      · exact (I.hok a _ hk).2
    obtain ⟨r1, r2⟩ := flat_reads (h := s.heap) kv pr fl
    refine repr_of_reads' (Reads.dict ho ex.1 hd r1 r2) o1 (fun _ z => ?_) hg (by omega) (fun _ _ e => e) fin o3
    simp only [List.append_nil, List.mem_singleton] at z
    rw [← z] at hm
    simp at hm
mutual
theorem toPy_noDict : ∀ {d : D} {p : PyData}, toPy d = some p → p.hasDict = false
  | .non, p, e => by simp only [toPy, Option.some.injEq] at e; subst e; rfl
  | .bl _, p, e => by simp only [toPy, Option.some.injEq] at e; subst e; rfl
  | .int _, p, e => by simp only [toPy, Option.some.injEq] at e; subst e; rfl
  | .str _, p, e => by simp only [toPy, Option.some.injEq] at e; subst e; rfl
  | .lst xs, p, e => by
    simp only [toPy, Option.map_eq_some_iff] at e
    obtain ⟨ps, e1, rfl⟩ := e
    simp only [PyData.hasDict]
    exact toPys_noDict e1
  | .tup xs, p, e => by
    simp only [toPy, Option.map_eq_some_iff] at e
    obtain ⟨ps, e1, rfl⟩ := e
    simp only [PyData.hasDict]
    exact toPys_noDict e1
  | .dct _, p, e => by simp only [toPy] at e; cases e
  | .st _, p, e => by simp only [toPy] at e; cases e
  | .ins _ _, p, e => by simp only [toPy] at e; cases e
  | .ref _, p, e => by simp only [toPy] at e; cases e
  | .fn _, p, e => by simp only [toPy] at e; cases e
  | .cls _, p, e => by simp only [toPy] at e; cases e
  | .ty _, p, e => by simp only [toPy] at e; cases e
  | .scr _, p, e => by simp only [toPy] at e; cases e
theorem toPys_noDict : ∀ {ds : List D} {ps : List PyData}, toPys ds = some ps → PyData.hasDictAll ps = false
  | [], ps, e => by simp only [toPys, Option.some.injEq] at e; subst e; rfl
  | d :: ds, ps, e => by
    simp only [toPys] at e
    cases e1 : toPy d with
    | none => rw [e1] at e; cases e
    | some a =>
      cases e2 : toPys ds with
      | none => rw [e1, e2] at e; cases e
      | some b =>
        rw [e1, e2] at e
        cases e
        simp only [PyData.hasDictAll, toPy_noDict e1, toPys_noDict e2]
        rfl
end
theorem key_py {k : D} {y : Key} {p : PyData} (e : keyD k = some y) (h : toPy k = some p) : p = keyPy y := by
  cases k with
  | int i => simp only [keyD, Option.some.injEq] at e; subst e; simp only [toPy, Option.some.injEq] at h; subst h; rfl
  | str i => simp only [keyD, Option.some.injEq] at e; subst e; simp only [toPy, Option.some.injEq] at h; subst h; rfl
  | _ => cases e
theorem atom_py {d : D} {v v' : V} {p : PyData} (r : Rep W g H d v) (e : scV d = some v') (h : toPy d = some p) : atomPy v = some p := by
  cases d with
  | non => simp only [Rep] at r; simp only [toPy, Option.some.injEq] at h; subst r h; rfl
  | bl i => simp only [Rep] at r; simp only [toPy, Option.some.injEq] at h; subst r h; rfl
  | int i => simp only [Rep] at r; simp only [toPy, Option.some.injEq] at h; subst r h; rfl
  | str i => simp only [Rep] at r; simp only [toPy, Option.some.injEq] at h; subst r h; rfl
  | _ => cases e
theorem kvPy_flat : ∀ {kvs : List (D × D)} {ws : List (Key × V)} {ps : List (PyData × PyData)}, RepKV W g H kvs ws → kvPy kvs = some ps → FlatKV ws ps
  | [], ws, ps, r, e => by
    simp only [RepKV] at r
    simp only [kvPy, Option.some.injEq] at e
    subst r e
    exact .nil
  | (k, d) :: kvs, ws, ps, r, e => by
    simp only [RepKV] at r
    obtain ⟨k', v, s, rfl, e0, h1, h2⟩ := r
    simp only [kvPy] at e
    split at e
    · rename_i q1 q2 q3 q4 q5
      cases e
      exact .cons ⟨key_py e0 q2, atom_py h1 q3 q4⟩ (kvPy_flat h2 q5)
    · cases e
theorem p_repr (hK : X.K = W.K) : Prim1 W X (fun x H Q => ∃ y p, [x] = [y] ∧ ReadV X.K H y p ∧ ReprOk p ∧ Q (.str p.shown) H) bRepr := by
  intro C g H vh dx x Q h rx q s
  simp only [bRepr] at s q
  cases e : pyR dx with
  | none => rw [e] at s; cases s
  | some p =>
    rw [e] at s q
    simp only [Option.bind_some] at s q
    have hc := isSome_ite s
    have hc' := hc
    simp only [Bool.and_eq_true, decide_eq_true_eq] at hc'
    refine ⟨x, p, rfl, ?_, ⟨hc'.1.1, hc'.1.2, by rw [← lim_eq]; exact hc'.2⟩, q _ (if_pos hc) g H _ h (Ext.refl g H) (by simp only [RepE, Rep])⟩
    rw [hK]
    by_cases hd : ∃ kvs, dx = .dct kvs
    · obtain ⟨kvs, rfl⟩ := hd
      simp only [pyR] at e
      obtain ⟨ps, e1, rfl⟩ := Option.map_eq_some_iff.mp e
      obtain ⟨a, ws, rfl, h1, r1⟩ := rx.dct
      exact .inr ⟨a, ws, ps, rfl, h1, kvPy_flat r1 e1, rfl⟩
    · have e : toPy dx = some p := by cases dx <;> first | exact e | exact absurd ⟨_, rfl⟩ hd
      exact .inl ⟨rx.dp e, toPy_noDict e⟩
theorem hu66 {k : Nat} (r : Room k X.A) : X.A.units + 66 < cLine := by have := r.un; omega
theorem de_repr {k : Nat} (hK : X.K = W.K) (hr : Room k X.A) (hgd : X.A.guards = some []) (hg : Gl X "repr") (hm : X.mg "repr" = none) (ha : DE W Wx X a φ) (he : starEach (a :: []) X.env = (false, eval a X.env) :: starEach [] X.env := by rfl) : DE W Wx X (.Call (.Name "repr" p0) [a] [] pos) (e1 bRepr φ) :=
  de_b1 (call_reprX (hu66 hr) hgd) (p_repr hK) hg hm ha (he := he)
end
end
end PM

/-! PM12: methods of built-in types, slices with a step, keyword calls. -/
namespace PM
open PySem L2
noncomputable section

/-! ### methods -/
def tyD (T : String) : D → Bool
  | .lst _ => T == "list"
  | .scr _ => T == "list"
  | .str _ => T == "str"
  | .int _ => T == "int"
  | .st _ => T == "set"
  | _ => false
/-- dicts: those that no loop walks, so only those of the virtual heap -/
def tyVH (T : String) (vh : VH) (d : D) : Bool := tyD T (view vh d) || (match d with
  | .ref n => (match vh[n]? with | some (.dct _) => T == "dict" | _ => false)
  | _ => false)
abbrev MP := D → List D → VH → Option (EV × VH)
def PrimM (W : Wd) (X : Cx) (r : V → List V → Hp → VK → Prop) (p : MP) : Prop :=
  ∀ C g H vh d ds x xs (Q : VK), RelH W C g vh H → Rep W g H d x → Reps W g H ds xs → (∀ e vh', p d ds vh = some (e, vh') → ∀ g' H' v, RelH W C g' vh' H' → Ext g H g' H' → RepE W C g' H' e v → Q v H') → (p d ds vh).isSome → r x xs H Q
def liftM : Option (EV × VH) → R EV
  | some (e, vh) => .ok e vh
  | none => .bad
def eM (T : String) (p : MP) (φ : EF) (α : AF) : EF := eb φ fun d sl vh => if tyVH T vh d = true then ab α (fun ds _ vh => liftM (p d ds vh)) sl vh else .bad
section
variable {W : Wd} {C : Con} {Wx : WX} {X : Cx} {k : Nat} {g g0 : Gh} {H H0 : Hp} {σ : L2.St} {sl : Sl} {vh : VH} {φ ψ χ : EF} {α : AF} {e a b o : Expr} {es : List Expr} {x name : Str} {p0 apos cpos pos : Pos} {T id : String} {r : V → List V → Hp → VK → Prop} {p : MP}
theorem tyV_of (hK : X.K = W.K) {d : D} {v : V} (h : RelH W C g vh H) (r : Rep W g H d v) (t : tyVH T vh d = true) : tyV X.K T v H := by
  unfold tyVH at t
  rw [Bool.or_eq_true] at t
  rcases t with t | t
  · have rx := h.view r
    cases e : view vh d with
    | lst xs =>
      rw [e] at rx t
      obtain ⟨a, vs, rfl, h1, _⟩ := rx.lst
      exact .inl ⟨by simpa [tyD] using t, vs, SqL.of h1⟩
    | scr xs =>
      rw [e] at rx t
      obtain ⟨a, rfl, h1⟩ := rx.scr
      exact .inl ⟨by simpa [tyD] using t, _, by rw [hK]; exact h1⟩
    | str z => rw [e] at rx t; rw [rx.str]; show T = "str"; simpa [tyD] using t
    | int z => rw [e] at rx t; rw [rx.int]; show T = "int"; simpa [tyD] using t
    | st xs =>
      rw [e] at rx t
      rcases rx with rx | ⟨o, a, e2, rfl, ho⟩
      · simp only [Rep] at rx
        obtain ⟨a, S, n, rfl, _, h1, _⟩ := rx
        exact .inr (.inr (.inr ⟨by simpa [tyD] using t, S, n, h1⟩))
      · cases o <;> cases e2
        obtain ⟨S, n, h1, _⟩ := ho
        exact .inr (.inr (.inr ⟨by simpa [tyD] using t, S, n, h1⟩))
    | _ => rw [e] at t; cases t
  · cases d with
    | ref n =>
      dsimp only at t
      cases en : vh[n]? with
      | none => rw [en] at t; cases t
      | some o =>
        rw [en] at t
        cases o with
        | dct kvs =>
          simp only [Rep] at r
          obtain ⟨hn, rfl⟩ := r
          obtain ⟨ws, h1, _⟩ := h.vh n _ en
          exact .inr (.inr (.inl ⟨by simpa using t, .inl ⟨ws, h1⟩⟩))
        | _ => cases t
    | _ => cases t
theorem m_imp {ta : TA} (hK : X.K = W.K) (hp : PrimM W X r p) (h : RelH W C g vh H) (hs : RelS W g H sl σ) {Q : VK} (ht : ta = TDA W C Wx α) (q : PostE W C Wx g H σ sl (eM T p φ α sl vh) Q) :
    TDE W C Wx φ σ H fun x H1 => tyV X.K T x H1 ∧ ta σ H1 fun xs H2 => r x xs H2 Q := by
  subst ht
  refine (TDE.bind h hs (Ext.refl g H) q).mono fun v1 H1 ⟨g2, vh2, d1, i2, s2, x2, x2', p2, q2⟩ => ?_
  split at q2
  · rename_i ht
    refine ⟨tyV_of hK i2 p2 ht, ?_⟩
    refine (TDA.bind i2 s2 x2 q2).mono fun vs H3 ⟨g3, vh3, ds, i3, s3, x3, x3', p3, q3⟩ => ?_
    refine hp C g3 H3 vh3 d1 ds v1 vs Q i3 (Rep.mono x3' _ _ p2) p3 (fun e vh' he g' H' v h' x' r' => ?_) ?_
    · rw [he] at q3
      exact q3 g' H' v h' (s3.mono x') (x3.trans x') r'
    · cases e : p d1 ds vh3 with
      | none => rw [e] at q3; exact q3.elim
      | some _ => rfl
  · exact q2.elim
theorem de_bm (hK : X.K = W.K) (pa : PlainAttrs T) (slot : Slot T name id) (hty : typeOf (.builtin id) = pure (.type "method_descriptor")) (hm : MtR X id r) (hp : PrimM W X r p) (ho : DE W Wx X o φ) (ha : DA W Wx X (e :: es) α)
    (hbase : attributeBase o name X.env (eval o X.env) = eval o X.env := by rfl)
    (hfew : ((backTo cpos (starEach (e :: es) X.env)).all (fun x => !x.1) && (backToKw cpos (keywordEach [] X.env)).all (fun x => x.1.isSome)
      && decide ((e :: es).length + ([] : List Keyword).length + (if ([] : List Keyword).isEmpty then 0 else 1) < 30)) = true := by rfl)
    (hline : (apos.endLine == cpos.line) = true := by rfl) (hs : starEach (e :: es) X.env = (false, eval e X.env) :: starEach es X.env := by rfl) (hplain : (backTo cpos (starEach es X.env)).any (·.1) = false := by rfl) :
    DE W Wx X (.Call (.Attribute o name apos) (e :: es) [] cpos) (eM T p φ α) := fun C =>
  pe_imp (pe_bm pa slot hty hm (ho C) (ha C) hbase hfew hline hs hplain) fun σ H Q ⟨g, sl, vh, h, hs, q⟩ => m_imp hK hp h hs rfl q
theorem de_bm0 (hK : X.K = W.K) (pa : PlainAttrs T) (slot : Slot T name id) (hty : typeOf (.builtin id) = pure (.type "method_descriptor")) (hm : MtR X id r) (hp : PrimM W X r p) (ho : DE W Wx X o φ)
    (hbase : attributeBase o name X.env (eval o X.env) = eval o X.env := by rfl) (hline : (apos.endLine == cpos.line) = true := by rfl) :
    DE W Wx X (.Call (.Attribute o name apos) [] [] cpos) (eM T p φ aNil) := fun C =>
  pe_imp (pe_bm0 pa slot hty hm (ho C) hbase hline) fun σ H Q ⟨g, sl, vh, h, hs, q⟩ =>
    (m_imp (ta := TDA W C Wx aNil) hK hp h hs rfl q).mono fun x H1 ⟨t, g1, sl1, vh1, _, _, q1⟩ => ⟨t, by
      rename_i h1 h2
      exact q1 g1 H1 [] h1 h2 (Ext.refl g1 H1) Reps.nil⟩
/-- xs.index(y) -/
def mIndex : MP := fun d ds vh => match view vh d, ds with
  | .lst xs, [y] => match scV y, scVs xs with
    | some a, some bs => (bs.findIdx? fun z => eqV z a).map fun j => (.v (.int (j : Nat)), vh)
    | _, _ => none
  | _, _ => none
theorem scVs_flat' {xs : List D} {bs : List V} (e : scVs xs = some bs) : bs.all flatV = true := scVs_flat e
theorem pm_index (hK : X.K = W.K) : PrimM W X (rIndex X.K) mIndex := by
  intro C g H vh d ds x xs Q h rx rs q s
  have rv := h.view rx
  unfold mIndex at s q
  cases e : view vh d with
  | lst zs =>
    rw [e] at s q rv
    obtain ⟨a, vs, rfl, h1, r1⟩ := rv.lst
    rcases ds with _ | ⟨y, _ | ⟨y2, ds⟩⟩
    · cases s
    · simp only [Reps] at rs
      obtain ⟨v, _, rfl, ry, rfl⟩ := rs
      dsimp only at s q
      cases e1 : scV y with
      | none => rw [e1] at s; cases s
      | some b =>
        cases e2 : scVs zs with
        | none => rw [e1, e2] at s; cases s
        | some bs =>
          rw [e1, e2] at s q
          obtain ⟨j, ej⟩ := opt_map_some s
          have q' := q (.v (.int (j : Nat))) vh (by dsimp only; rw [ej]; rfl) g H (.int (j : Nat)) h (Ext.refl g H) (by simp only [RepE, Rep])
          have evs : vs = bs := r1.sc e2
          have evb : v = b := RepW.sc (.inl ry) e1
          subst evs evb
          obtain ⟨hj, h3, h4⟩ := List.findIdx?_eq_some_iff_getElem.mp ej
          refine ⟨a, vs, v, j, vs[j], rfl, rfl, SqL.of h1, scV_flat e1, scVs_flat e2, List.getElem?_eq_getElem hj, h3, fun m z' hm hz => ?_, q'⟩
          have := h4 m hm
          rw [List.getElem?_eq_getElem (Nat.lt_trans hm hj)] at hz
          cases hz
          simpa using this
    · cases s
  | _ => rw [e] at s; cases s
theorem de_index (hK : X.K = W.K) (ho : DE W Wx X o φ) (ha : DA W Wx X [a] α)
    (hbase : attributeBase o "index" X.env (eval o X.env) = eval o X.env := by rfl)
    (hfew : ((backTo cpos (starEach (a :: []) X.env)).all (fun x => !x.1) && (backToKw cpos (keywordEach [] X.env)).all (fun x => x.1.isSome)
      && decide ((a :: []).length + ([] : List Keyword).length + (if ([] : List Keyword).isEmpty then 0 else 1) < 30)) = true := by rfl)
    (hline : (apos.endLine == cpos.line) = true := by rfl) (hs : starEach (a :: []) X.env = (false, eval a X.env) :: starEach [] X.env := by rfl) : DE W Wx X (.Call (.Attribute o "index" apos) [a] [] cpos) (eM "list" mIndex φ α) :=
  de_bm hK PySem.F.plainAttrs_list PySem.F.slot_list_index PySem.F.type_list_index mt_index (pm_index hK) ho ha hbase hfew hline hs
/-- xs.append(y) -/
def mAppend : MP := fun d ds vh => match d, ds with
  | .ref n, [y] => (match vh[n]? with
    | some (.lst xs) => if xs.length < lim then some (.v .non, vh.set n (.lst (xs ++ [y]))) else none
    | _ => none)
  | _, _ => none
theorem pm_append : PrimM W X rAppend mAppend := by
  intro C g H vh d ds x xs Q h rx rs q s
  unfold mAppend at s q
  cases d with
  | ref n =>
    rcases ds with _ | ⟨y, _ | ⟨y2, ds⟩⟩
    · cases s
    · simp only [Reps] at rs
      obtain ⟨v, _, rfl, ry, rfl⟩ := rs
      simp only [Rep] at rx
      obtain ⟨hn, rfl⟩ := rx
      dsimp only at s q
      cases en : vh[n]? with
      | none => rw [en] at s; cases s
      | some o =>
        rw [en] at s q
        cases o with
        | lst zs =>
          have hc := isSome_ite s
          obtain ⟨vs, h1, r1⟩ := h.vh n _ en
          have xw := Ext.write (u := .lst (vs ++ [v])) h hn
          refine ⟨_, vs, v, rfl, rfl, h1, by rw [← r1.length, ← lim_eq]; exact hc, ?_⟩
          exact q _ _ (if_pos hc) g _ _ (h.write hn ⟨_, upd_same, Reps.mono xw _ _ (r1.append (Reps.one ry))⟩) xw (by simp only [RepE, Rep])
        | _ => cases s
    · cases s
  | _ => cases s
theorem de_append (hK : X.K = W.K) (ho : DE W Wx X o φ) (ha : DA W Wx X [a] α)
    (hbase : attributeBase o "append" X.env (eval o X.env) = eval o X.env := by rfl)
    (hfew : ((backTo cpos (starEach (a :: []) X.env)).all (fun x => !x.1) && (backToKw cpos (keywordEach [] X.env)).all (fun x => x.1.isSome)
      && decide ((a :: []).length + ([] : List Keyword).length + (if ([] : List Keyword).isEmpty then 0 else 1) < 30)) = true := by rfl)
    (hline : (apos.endLine == cpos.line) = true := by rfl) (hs : starEach (a :: []) X.env = (false, eval a X.env) :: starEach [] X.env := by rfl) : DE W Wx X (.Call (.Attribute o "append" apos) [a] [] cpos) (eM "list" mAppend φ α) :=
  de_bm hK PySem.F.plainAttrs_list PySem.F.slot_list_append PySem.F.type_list_append mt_append pm_append ho ha hbase hfew hline hs

/-! ### xs[lo:hi:st] of a list -/
def pickIx (lo hi st : Option Int) (n : Nat) : List Nat := sliceRange (sliceBounds lo hi st n).1 (sliceBounds lo hi st n).2.1 (sliceBounds lo hi st n).2.2
def pick {α : Type} (xs : List α) (lo hi st : Option Int) : List α := (pickIx lo hi st xs.length).filterMap (xs[·]?)
def pPick (d : D) (lo hi st : Option Int) : Option EV := match d with
  | .lst xs => if st ≠ some 0 ∧ (pick xs lo hi st).length ≤ lim then some (.f (.lst (pick xs lo hi st))) else none
  | _ => none
def ePick (φ : EF) (ω υ θ : OFn) : EF := eb φ fun d => ob ω fun lo => ob υ fun hi => ob θ fun st _ vh => lift (pPick (view vh d) lo hi st) vh
theorem Reps.pick {xs : List D} {vs : List V} (r : Reps W g H xs vs) : ∀ is : List Nat, Reps W g H (is.filterMap (xs[·]?)) (is.filterMap (vs[·]?))
  | [] => by simp [Reps]
  | i :: is => by
    by_cases hi : i < xs.length
    · obtain ⟨v, e1, e2⟩ := r.get (List.getElem?_eq_getElem hi)
      rw [List.filterMap_cons_some (List.getElem?_eq_getElem hi), List.filterMap_cons_some e1]
      exact Reps.cons e2 (r.pick is)
    · rw [List.filterMap_cons_none (List.getElem?_eq_none (by omega)), List.filterMap_cons_none (List.getElem?_eq_none (by rw [← r.length]; omega))]
      exact r.pick is
theorem Vals.pick {vs : List V} {us : List Value} (r : Vals vs us) : ∀ is : List Nat, Vals (is.filterMap (vs[·]?)) (is.filterMap (us[·]?))
  | [] => .nil
  | i :: is => by
    by_cases hi : i < vs.length
    · obtain ⟨u, e1, e2⟩ := r.get (List.getElem?_eq_getElem hi)
      rw [List.filterMap_cons_some (List.getElem?_eq_getElem hi), List.filterMap_cons_some e1]
      exact .cons e2 (Vals.pick r is)
    · rw [List.filterMap_cons_none (List.getElem?_eq_none (by omega)), List.filterMap_cons_none (List.getElem?_eq_none (by rw [← r.length]; omega))]
      exact Vals.pick r is
def tPick (K : PySem.W.Frag) (te : TE) (tl th ts : TO) : TE := fun σ H Q => te σ H fun x H1 => tl σ H1 fun lo H2 => th σ H2 fun hi H3 => ts σ H3 fun st H4 => ∃ a xs, x = .ref a ∧ SqL K H4 a xs ∧ st ≠ some 0 ∧ (pick xs lo hi st).length ≤ sizeLine ∧ ∀ p, H4 p = none → Q (.ref p) (upd H4 p (.lst (pick xs lo hi st)))
open PySem.Spec PyProof.Rows in
theorem pe_pick {lo hi st : Option Expr} {te : TE} {tl th ts : TO} {p3 : Pos} (hst : st ≠ none) (he : PE X e te) (hl : PO X lo tl) (hh : PO X hi th) (hs : PO X st ts)
    (hsub : ∀ v sl, subscripted (.Slice lo hi st p3) false v sl = operate [v, sl] (getItem v sl) := by intro _ _; with_unfolding_all rfl) : PE X (.Subscript e (.Slice lo hi st p3) pos) (tPick X.K te tl th ts) := by
  refine ⟨fun pins s σ H Q I h => ?_⟩
  refine Subscript_ (thn (he.run pins s σ H _ I h) fun v s1 ⟨x, H1, I1, r1, q1⟩ => ?_)
  refine wpAny_Slice (thn (hl.run pins s1 σ H1 _ I1 q1) fun vl s2 ⟨l, H2, I2, pl, q2⟩ => ?_)
  refine thn (hh.run pins s2 σ H2 _ I2 q2) fun vu s3 ⟨u, H3, I3, pu, q3⟩ => ?_
  refine thn (hs.run pins s3 σ H3 _ I3 q3) fun vs s4 ⟨t, H4, I4, ps, a, xs, ex, hx, h0, hz, q⟩ => ?_
  subst ex
  cases r1
  have I5 : Inv X pins σ H4 { s4 with heap := s4.heap.push { cls := .type "slice", data := .fields #[vl, vu, vs] } } := I4.kept (t' := s4.toks) fun b ob q => Heap.get?_push_of_some _ q
  obtain ⟨its, r, ht, hz'⟩ := I5.list hx
  have hlen := r.length
  show wpAny (model X.prog X.w) X.A (subscriptTail e (.Slice lo hi st p3) (.ref a) (.ref s4.heap.objs.size)) (EP X pins σ Q) X.xe { s4 with heap := s4.heap.push { cls := .type "slice", data := .fields #[vl, vu, vs] } }
  refine tail_any (ops := [.ref a, .ref s4.heap.objs.size]) ht.isList.typeIs (PySem.slot_list_getitem.lookup) ?_ (hsub _ _)
  refine wpAny_getItem_list_slice ht.isList (Heap.IsSliceOf.new _ vl vu vs) pl pu ps h0 ?_ (by rw [List.size_toArray]; omega)
  have e1 : slicePick its.toArray l u t = (PM.pick its l u t).toArray := by
    unfold slicePick PM.pick pickIx
    rw [List.size_toArray]
    simp
  rw [e1]
  have rp : Vals (PM.pick xs l u t) (PM.pick its l u t) := by
    unfold PM.pick
    rw [hlen]
    exact Vals.pick r _
  refine ⟨.ref _, _, I5.laid (t' := s4.toks) (o := .lst (PM.pick xs l u t)) (fun b ob q => Heap.get?_push_of_some _ q) (Nat.le_refl _) ?_, rfl, q _ (I5.hok.fresh (Nat.le_refl _))⟩
  exact ⟨hz, _, 0, rp, Heap.get?_push_size _ rfl⟩
theorem pick_all {α : Type} (xs : List α) : (List.range xs.length).filterMap (xs[·]?) = xs := by
  have := PySem.W.krv_all xs.toArray
  simpa using this
theorem pick_rev {α : Type} (xs : List α) : pick xs none none (some (-1)) = xs.reverse := by
  unfold pick pickIx
  rw [PySem.W.krv_bounds]
  show (sliceRange ((xs.length : Int) - 1) (-1) (-1)).filterMap (xs[·]?) = _
  rw [PySem.W.krv_sliceRange, PySem.W.krv_range, List.filterMap_reverse, pick_all]
theorem pick_fwd {α : Type} (xs : List α) : pick xs none none (some 1) = xs := by
  obtain ⟨h1, h2, h3⟩ := slice_bounds none none xs.length
  have e : pickIx none none (some 1) xs.length = pickIx none none none xs.length := by unfold pickIx; rfl
  unfold pick
  rw [e]
  unfold pickIx
  rw [h1, h2, h3]
  simp only [sliceRange_one]
  have e2 : (List.range (HT.sIx xs.length xs.length none - HT.sIx xs.length 0 none)).map (HT.sIx xs.length 0 none + ·) = List.range xs.length := by
    have z : HT.sIx xs.length 0 none = 0 := rfl
    have z2 : HT.sIx xs.length xs.length none = xs.length := rfl
    rw [z, z2]
    simp
  rw [e2]
  exact pick_all xs
theorem de_pick (hK : X.K = W.K) {lo hi st : Option Expr} {ω υ θ : OFn} {p3 : Pos} (hst : st ≠ none) (ha : DE W Wx X e φ) (hl : DO W Wx X lo ω) (hh : DO W Wx X hi υ) (hs : DO W Wx X st θ)
    (hsub : ∀ v sl, subscripted (.Slice lo hi st p3) false v sl = operate [v, sl] (getItem v sl) := by intro _ _; with_unfolding_all rfl) : DE W Wx X (.Subscript e (.Slice lo hi st p3) pos) (ePick φ ω υ θ) := fun C =>
  pe_imp (pe_pick hst (ha C) (hl C) (hh C) (hs C) hsub) fun σ H Q ⟨g, sl, vh, h, hs, q⟩ =>
  (TDE.bind h hs (Ext.refl g H) q).mono fun v1 H1 ⟨g2, vh2, d1, i2, s2, x2, x2', p2, q2⟩ =>
  (TDO.bind i2 s2 x2 q2).mono fun lo H3 ⟨g3, vh3, i3, s3, x3, x3', q3⟩ =>
  (TDO.bind i3 s3 x3 q3).mono fun hi H4 ⟨g4, vh4, i4, s4, x4, x4', q4⟩ =>
  (TDO.bind i4 s4 x4 q4).mono fun st H5 ⟨g5, vh5, i5, s5, x5, x5', q5⟩ => by
    have rx := i5.view (Rep.mono x5' _ _ (Rep.mono x4' _ _ (Rep.mono x3' _ _ p2)))
    cases e : view vh5 d1 with
    | lst xs =>
      rw [e] at rx q5
      obtain ⟨a, vs, rfl, h1, r1⟩ := rx.lst
      simp only [pPick] at q5
      split at q5
      · rename_i hc
        have rp : Reps W g5 H5 (pick xs lo hi st) (pick vs lo hi st) := by
          unfold PM.pick
          rw [r1.length]
          exact r1.pick _
        refine ⟨a, vs, rfl, SqL.of h1, hc.1, by rw [← rp.length, ← lim_eq]; exact hc.2, fun p np => ?_⟩
        have x6 := Ext.new (u := .lst (pick vs lo hi st)) i5 np
        exact q5 g5 _ _ (i5.new np) (s5.mono x6) (x5.trans x6) (new_lst i5 np rp)
      · exact q5.elim
    | _ => rw [e] at q5; exact q5.elim
end
end
end PM

/-! PM13: how calls bind; calls with keywords; defs that call themselves. -/
namespace PM
open PySem L2
noncomputable section

def pickAt {α : Type} (src : List Nat) (xs : List α) : List α := src.filterMap (xs[·]?)
theorem pickAt_length {α : Type} {xs : List α} : ∀ {src : List Nat}, (∀ i ∈ src, i < xs.length) → (pickAt src xs).length = src.length
  | [], _ => rfl
  | i :: is, h => by
    unfold pickAt
    rw [List.filterMap_cons_some (List.getElem?_eq_getElem (h i (List.mem_cons_self ..)))]
    simp only [List.length_cons]
    exact congrArg Nat.succ (pickAt_length fun j hj => h j (List.mem_cons_of_mem _ hj))
theorem Reps.pickAt {W : Wd} {g : Gh} {H : Hp} {xs : List D} {vs : List V} (r : Reps W g H xs vs) (is : List Nat) : Reps W g H (pickAt is xs) (pickAt is vs) := r.pick is
theorem Vals.pickAt {vs : List V} {us : List Value} (r : Vals vs us) (is : List Nat) : Vals (pickAt is vs) (pickAt is us) := Vals.pick r is
theorem vals_split {vs : List V} {us ws : List Value} (h : Vals vs (us ++ ws)) : ∃ v1 v2, vs = v1 ++ v2 ∧ Vals v1 us ∧ Vals v2 ws := by
  induction us generalizing vs with
  | nil => exact ⟨[], vs, rfl, .nil, h⟩
  | cons u us ih =>
    cases h with
    | cons h1 h2 =>
      obtain ⟨v1, v2, rfl, r1, r2⟩ := ih h2
      exact ⟨_ :: v1, v2, rfl, .cons h1 r1, r2⟩
section
variable {W : Wd} {x qual : Str} {st : Stmt} {dvs : List V} {kws : List (Str × V)} {f : Addr} {fd : FuncData} {ps : List Str}
abbrev Fun (K : PySem.W.Frag) (x qual : Str) (st : Stmt) (dvs : List V) (kws : List (Str × V)) (f : Addr) (fd : FuncData) : Prop := FunD K x qual (defArgs st) (defBody st) (defScope st) dvs kws f fd
theorem txt_of (F : Fun W.K x qual st dvs kws f fd) : Txt W.K x qual st f fd := by
  obtain ⟨oc, od, dV, kV, doc, pm, an, cdv, ct, osl, h1, h2, h3, _, _⟩ := F.ex
  exact ⟨⟨oc, od, dV, kV, doc, pm, an, cdv, ct, osl, h1, h2, h3⟩, F.kp⟩
abbrev arrOf (src : List Nat) (md : List D) : List D → List D := fun ds => pickAt src (ds ++ md)
/-- no default is wanted, the def has none but keyword-only ones -/
theorem Pat.full (F : Fun W.K x qual st [] kws f fd) (n : Nat) (ks : List Str) (src : List Nat) (hs : src.length = ps.length) (hi : ∀ i ∈ src, i < n + ks.length)
    (h : ∀ (kV doc pm : Value) (an : Option Addr) (cdv ct : Value) (us ws : List Value), us.length = n → ws.length = ks.length →
      bindArgs (PySem.W.fnOf x qual (defArgs st) (defBody st) (defScope st) .none kV doc pm an cdv ct) ⟨us, ks.zip ws⟩ = pure (ps.zip (pickAt src (us ++ ws)))) : Pat W fd ps n ks (arrOf src []) := by
  refine ⟨fun s us ws g H ds vs _ h1 h2 r rv => ?_⟩
  obtain ⟨oc, od, dV, kV, doc, pm, an, cdv, ct, osl, rfl, lk, hcd, hD, hK⟩ := F.ex
  rcases hD with ⟨_, rfl⟩ | ⟨e, _⟩
  · have hl : ds.length = n + ks.length := by rw [r.length, rv.length, List.length_append, h1, h2]
    refine ⟨pickAt src (us ++ ws), pickAt src vs, .of_eq (h kV doc pm an cdv ct us ws h1 h2), Vals.pickAt rv src, ?_, ?_⟩
    · unfold arrOf
      rw [List.append_nil]
      exact r.pickAt src
    · unfold arrOf
      rw [List.append_nil, pickAt_length (by rw [hl]; exact hi), hs]
  · exact absurd rfl e
/-- keyword-only defaults ms are wanted, there are no others -/
theorem Pat.d0 (F : Fun W.K x qual st [] kws f fd) (n : Nat) (ks : List Str) (ms : List (Str × V)) (md : List D) (src : List Nat) (hk : kws ≠ []) (hms : ∀ q ∈ ms, q ∈ kws) (hmd : ∀ g H, Reps W g H md (ms.map (·.2)))
    (hs : src.length = ps.length) (hi : ∀ i ∈ src, i < n + ks.length + ms.length)
    (h : ∀ (D : Addr) (doc pm : Value) (an : Option Addr) (cdv ct : Value) (us ws mv : List Value), us.length = n → ws.length = ks.length → mv.length = ms.length →
      KwChain D ((ms.map (·.1)).zip mv) (bindArgs (PySem.W.fnOf x qual (defArgs st) (defBody st) (defScope st) .none (.ref D) doc pm an cdv ct) ⟨us, ks.zip ws⟩) (ps.zip (pickAt src (us ++ ws ++ mv)))) : Pat W fd ps n ks (arrOf src md) := by
  refine ⟨fun s us ws g H ds vs X h1 h2 r rv => ?_⟩
  obtain ⟨oc, od, dV, kV, doc, pm, an, cdv, ct, osl, rfl, lk, hcd, hD, hK⟩ := F.ex
  rcases hD with ⟨_, rfl⟩ | ⟨e, _⟩
  · rcases hK with e | ⟨D, rfl, hq⟩
    · exact absurd e hk
    · obtain ⟨mv, hl, rk, hks⟩ := kwd_vals (ms := ms) fun q hm => hq q (hms q hm)
      have hl1 : ds.length = n + ks.length := by rw [r.length, rv.length, List.length_append, h1, h2]
      have hl2 : md.length = ms.length := by rw [(hmd g H).length, List.length_map]
      refine ⟨pickAt src (us ++ ws ++ mv), pickAt src (vs ++ ms.map (·.2)), BindsTo.of_looks fun M => KwChain.looks X hks (h D doc pm an cdv ct us ws mv h1 h2 hl), Vals.pickAt (rv.append rk) src, (r.append (hmd g H)).pickAt src, ?_⟩
      unfold arrOf
      rw [pickAt_length (by rw [List.length_append, hl1, hl2]; exact hi), hs]
  · exact absurd rfl e
/-- defaults stand (wanted or not), keyword-only ones too -/
theorem Pat.dn (F : Fun W.K x qual st dvs kws f fd) (n : Nat) (ks : List Str) (ms : List (Str × V)) (dd md : List D) (src : List Nat) (hd : dvs ≠ []) (hk : ms ≠ [] → kws ≠ []) (hms : ∀ q ∈ ms, q ∈ kws) (hdd : ∀ g H, Reps W g H dd dvs) (hmd : ∀ g H, Reps W g H md (ms.map (·.2)))
    (hs : src.length = ps.length) (hi : ∀ i ∈ src, i < n + ks.length + dvs.length + ms.length)
    (h : ∀ (T D : Addr) (kV doc pm : Value) (an : Option Addr) (cdv ct : Value) (us ws its mv : List Value), (ms ≠ [] → kV = .ref D) → us.length = n → ws.length = ks.length → its.length = dvs.length → mv.length = ms.length →
      ∃ k, bindArgs (PySem.W.fnOf x qual (defArgs st) (defBody st) (defScope st) (.ref T) kV doc pm an cdv ct) ⟨us, ks.zip ws⟩ = seqItems? (.ref T) >>= k ∧ KwChain D ((ms.map (·.1)).zip mv) (k (some its.toArray)) (ps.zip (pickAt src (us ++ ws ++ its ++ mv)))) : Pat W fd ps n ks (arrOf src (dd ++ md)) := by
  refine ⟨fun s us ws g H ds vs X h1 h2 r rv => ?_⟩
  obtain ⟨oc, od, dV, kV, doc, pm, an, cdv, ct, osl, rfl, lk, hcd, hD, hK⟩ := F.ex
  rcases hD with ⟨e, _⟩ | ⟨_, T, o, its, m, rfl, lT, oT, rT⟩
  · exact absurd e hd
  · have fin : ∀ (D : Addr) (mv : List Value), (ms ≠ [] → kV = .ref D) → mv.length = ms.length → Vals (ms.map (·.2)) mv → (∀ q ∈ (ms.map (·.1)).zip mv, PySem.W.nsIn W.K D q.1 = some (some q.2)) → ∃ us' vs',
        BindsTo s (PySem.W.fnOf x qual (defArgs st) (defBody st) (defScope st) (.ref T) kV doc pm an cdv ct) ⟨us, ks.zip ws⟩ (ps.zip us') ∧ Vals vs' us' ∧ Reps W g H (arrOf src (dd ++ md) ds) vs' ∧ (arrOf src (dd ++ md) ds).length = ps.length := by
      intro D mv hkV hl rk hks
      have hl1 : ds.length = n + ks.length := by rw [r.length, rv.length, List.length_append, h1, h2]
      have hl2 : md.length = ms.length := by rw [(hmd g H).length, List.length_map]
      have hl3 : dd.length = dvs.length := (hdd g H).length
      obtain ⟨k, e1, e2⟩ := h T D kV doc pm an cdv ct us ws its mv hkV h1 h2 rT.length.symm hl
      have q : pickAt src (ds ++ (dd ++ md)) = arrOf src (dd ++ md) ds := rfl
      refine ⟨pickAt src (us ++ ws ++ its ++ mv), pickAt src (vs ++ (dvs ++ ms.map (·.2))), BindsTo.of_looks fun M => ?_, ?_, (r.append ((hdd g H).append (hmd g H))).pickAt src, ?_⟩
      · rw [e1]
        exact looks_items X lT oT (KwChain.looks X hks e2)
      · have := Vals.pickAt ((rv.append rT).append rk) src
        rw [List.append_assoc vs] at this
        exact this
      · unfold arrOf
        rw [pickAt_length (by rw [List.length_append, List.length_append, hl1, hl2, hl3]; intro i hi'; have := hi i hi'; omega), hs]
    by_cases hm : ms = []
    · subst hm
      exact fin 0 [] (fun z => absurd rfl z) rfl .nil fun q hq => by cases hq
    · rcases hK with e | ⟨D, rfl, hq⟩
      · exact absurd e (hk hm)
      · obtain ⟨mv, hl, rk, hks⟩ := kwd_vals (ms := ms) fun q hm => hq q (hms q hm)
        exact fin D mv (fun _ => rfl) hl rk hks
theorem Pat.pos0 (F : Fun W.K x qual st [] kws f fd) (h : ∀ (kV doc pm : Value) (an : Option Addr) (cdv ct : Value) (us : List Value), us.length = ps.length → bindArgs (PySem.W.fnOf x qual (defArgs st) (defBody st) (defScope st) .none kV doc pm an cdv ct) ⟨us, []⟩ = pure (ps.zip us)) : Pat W fd ps ps.length [] id := by
  obtain ⟨oc, od, dV, kV, doc, pm, an, cdv, ct, osl, rfl, lk, hcd, hD, hK⟩ := F.ex
  rcases hD with ⟨_, rfl⟩ | ⟨e, _⟩
  · exact Pat.pos fun us hl => h kV doc pm an cdv ct us hl
  · exact absurd rfl e
end

/-! ### calls with keywords -/
def DK (W : Wd) (Wx : WX) (X : Cx) (kws : List Keyword) (α : AF) : Prop := ∀ C, PK X kws (TDA W C Wx α)
def aApp (α β : AF) : AF := fun sl vh => match α sl vh with
  | .bad => .bad
  | .exc x vh' => .exc x vh'
  | .ok ds vh' => match β sl vh' with
    | .bad => .bad
    | .exc x vh'' => .exc x vh''
    | .ok es vh'' => .ok (ds ++ es) vh''
section
variable {W : Wd} {C : Con} {Wx : WX} {X : Cx} {g g0 : Gh} {H H0 : Hp} {σ : L2.St} {sl : Sl} {vh : VH} {k np : Nat} {f : Addr} {fd : FuncData} {ps ks : List Str} {Φ : Den} {arr : List D → List D} {α β : AF} {φ : EF} {x : Str} {p pos kpos : Pos} {e : Expr} {es : List Expr} {kws : List Keyword} {nm : Option Str}
theorem pk_imp {t t' : TA} (h : PK X kws t) (i : ∀ σ H Q, t' σ H Q → t σ H Q) : PK X kws t' := ⟨fun pos pins s σ H Q I q => h.run pos pins s σ H Q I (i σ H Q q)⟩
theorem cons_imp {ta : TE} {tr : TA} (ha : ta = TDE W C Wx φ) (hr : tr = TDA W C Wx α) {Q : List V → Hp → Prop} (t : TDA W C Wx (aCons φ α) σ H Q) : tCons ta tr σ H Q := by
  subst ha hr
  obtain ⟨g, sl, vh, h, hs, q⟩ := t
  refine ⟨g, sl, vh, h, hs, ?_⟩
  unfold aCons at q
  cases r : φ sl vh with
  | bad => rw [r] at q; exact q
  | exc x vh1 => rw [r] at q; exact q
  | ok e vh1 =>
    rw [r] at q
    intro g1 H1 v1 h1 s1 x1 r1
    obtain ⟨g2, h2, x2, r2⟩ := r1.freeze h1
    refine ⟨g2, sl, vh1, h2, s1.mono x2, ?_⟩
    dsimp only at q
    cases r3 : α sl vh1 with
    | bad => rw [r3] at q; exact q
    | exc x vh2 => rw [r3] at q; exact fun g3 H3 c od h3 s3 x3 p3 => q g3 H3 c od h3 s3 ((x1.trans x2).trans x3) p3
    | ok ds vh2 =>
      rw [r3] at q
      exact fun g3 H3 vs h3 s3 x3 p3 => q g3 H3 _ h3 s3 ((x1.trans x2).trans x3) (Reps.cons (Rep.mono x3 _ _ r2) p3)
theorem dk_nil : DK W Wx X [] aNil := fun C => pk_imp pk_nil fun σ H Q ⟨g, sl, vh, h, hs, q⟩ => q g H [] h hs (Ext.refl g H) Reps.nil
theorem dk_cons (ha : DE W Wx X e φ) (hr : DK W Wx X kws α) : DK W Wx X (⟨nm, e, kpos⟩ :: kws) (aCons φ α) := fun C => pk_imp (pk_cons (ha C) (hr C)) fun σ H Q t => cons_imp rfl rfl t
/-- f(e, .., k = v, ..) -/
theorem de_callK (cz : Cz W Wx k X) (F : PFn W X.prog X.w X.mg X.base k f fd ps Φ) (pt : Pat W fd ps np ks arr) (hg : Gl X x) (hm : X.mg x = some (.ref f)) (hk : PySem.W.keepIn W.K (.ref f) = true)
    (ha : DA W Wx X (e :: es) α) (hb : DK W Wx X kws β) (hn : (e :: es).length = np := by rfl) (hall : (backToKw pos (keywordEach kws X.env)).all (·.1.isSome) = true := by rfl) (hks : (backToKw pos (keywordEach kws X.env)).filterMap (·.1) = ks := by rfl)
    (hdb : (x == ("__debug__" : Str)) = false := by decide) (he : starEach (e :: es) X.env = (false, eval e X.env) :: starEach es X.env := by rfl)
    (hpl : ((backTo pos (starEach (e :: es) X.env)).any (·.1) || (backToKw pos (keywordEach kws X.env)).any (·.1.isNone)) = false := by rfl)
    (hal : ∀ sl vh ds vh', α sl vh = .ok ds vh' → ds.length = np) (hbl : ∀ sl vh ds vh', β sl vh = .ok ds vh' → ds.length = ks.length) :
    DE W Wx X (.Call (.Name x p) (e :: es) kws pos) (dCall arr Φ (aApp α β)) := fun C => by
  refine ⟨fun pins s σ H Q I ⟨g, sl, vh, h, hs, q⟩ => ?_⟩
  refine wpAny_Call_Name_kw (ld_glob I hg hm ?_ hdb)
  have hk' : PySem.W.keepIn X.K (.ref f) = true := by rw [cz.K]; exact hk
  have T : TDA W C Wx α σ H (fun v1 H1 => ∃ g1 vh1 d1, RelH W C g1 vh1 H1 ∧ RelS W g1 H1 sl σ ∧ Ext g H g1 H1 ∧ Reps W g1 H1 d1 v1 ∧ d1.length = np ∧
      TDA W C Wx β σ H1 (fun v2 H2 => ∃ g2 vh2 d2, RelH W C g2 vh2 H2 ∧ RelS W g2 H2 sl σ ∧ Ext g1 H1 g2 H2 ∧ Reps W g2 H2 d2 v2 ∧ d2.length = ks.length ∧ PostE W C Wx g H σ sl (match Φ (arr (d1 ++ d2)) vh2 with | .ok d vh' => .ok (.v d) vh' | .exc x vh' => .exc x vh' | .bad => .bad) Q)) := by
    refine ⟨g, sl, vh, h, hs, ?_⟩
    unfold dCall ab aApp at q
    cases r : α sl vh with
    | bad => rw [r] at q; exact q
    | exc x vh1 => rw [r] at q; exact q
    | ok ds vh1 =>
      rw [r] at q
      intro g1 H1 v1 h1 s1 x1 r1
      refine ⟨g1, vh1, ds, h1, s1, x1, r1, hal _ _ _ _ r, g1, sl, vh1, h1, s1, ?_⟩
      dsimp only at q
      cases r2 : β sl vh1 with
      | bad => rw [r2] at q; exact q
      | exc x vh2 => rw [r2] at q; exact fun g2 H2 c od h2 s2 x2 rr => q g2 H2 c od h2 s2 (x1.trans x2) rr
      | ok es vh2 => rw [r2] at q; exact fun g2 H2 v2 h2 s2 x2 rr => ⟨g2, vh2, es, h2, s2, x2, rr, hbl _ _ _ _ r2, q⟩
  refine PySem.W.callWith_KW (h₀ := X.base) I.ok.mod.kin hk' hall (thn ((ha C).run pos pins s σ H _ I T) fun us s1 ⟨vs, H1, I1, rv, g1, vh1, d1, h1, s1', x1, r1, l1, t2⟩ => ?_) hpl he
  refine thn ((hb C).run pos pins s1 σ H1 _ I1 t2) fun ws s2 ⟨zs, H2, I2, rz, g2, vh2, d2, h2, s2', x2, r2, l2, q2⟩ => ⟨I2.kIn, ?_⟩
  rw [hks]
  have lu : us.length = np := by rw [← rv.length, ← r1.length]; exact l1
  have lw : ws.length = ks.length := by rw [← rz.length, ← r2.length]; exact l2
  exact run_pfn (us := us) (ws := ws) (ds := d1 ++ d2) cz F pt I2 h2 s2' (x1.trans x2) lu lw ((Reps.mono x2 _ _ r1).append r2) (rv.append rz) q2
/-- f(k = v, ..) -/
theorem de_callK0 (cz : Cz W Wx k X) (F : PFn W X.prog X.w X.mg X.base k f fd ps Φ) (pt : Pat W fd ps 0 ks arr) (hg : Gl X x) (hm : X.mg x = some (.ref f)) (hk : PySem.W.keepIn W.K (.ref f) = true)
    (hb : DK W Wx X kws β) (hall : (backToKw pos (keywordEach kws X.env)).all (·.1.isSome) = true := by rfl) (hks : (backToKw pos (keywordEach kws X.env)).filterMap (·.1) = ks := by rfl)
    (hdb : (x == ("__debug__" : Str)) = false := by decide)
    (hpl : ((backTo pos (starEach [] X.env)).any (·.1) || (backToKw pos (keywordEach kws X.env)).any (·.1.isNone)) = false := by rfl)
    (hbl : ∀ sl vh ds vh', β sl vh = .ok ds vh' → ds.length = ks.length) :
    DE W Wx X (.Call (.Name x p) [] kws pos) (dCall arr Φ β) := fun C => by
  refine ⟨fun pins s σ H Q I ⟨g, sl, vh, h, hs, q⟩ => ?_⟩
  refine wpAny_Call_Name_kw (ld_glob I hg hm ?_ hdb)
  have hk' : PySem.W.keepIn X.K (.ref f) = true := by rw [cz.K]; exact hk
  have T : TDA W C Wx β σ H (fun v2 H2 => ∃ g2 vh2 d2, RelH W C g2 vh2 H2 ∧ RelS W g2 H2 sl σ ∧ Ext g H g2 H2 ∧ Reps W g2 H2 d2 v2 ∧ d2.length = ks.length ∧ PostE W C Wx g H σ sl (match Φ (arr d2) vh2 with | .ok d vh' => .ok (.v d) vh' | .exc x vh' => .exc x vh' | .bad => .bad) Q) := by
    refine ⟨g, sl, vh, h, hs, ?_⟩
    unfold dCall ab at q
    cases r2 : β sl vh with
    | bad => rw [r2] at q; exact q
    | exc x vh2 => rw [r2] at q; exact q
    | ok es vh2 => rw [r2] at q; exact fun g2 H2 v2 h2 s2 x2 rr => ⟨g2, vh2, es, h2, s2, x2, rr, hbl _ _ _ _ r2, q⟩
  refine PySem.W.callWith_KW0 (h₀ := X.base) I.ok.mod.kin hk' hall ?_ hpl
  refine thn ((hb C).run pos pins s σ H _ I T) fun ws s2 ⟨zs, H2, I2, rz, g2, vh2, d2, h2, s2', x2, r2, l2, q2⟩ => ⟨I2.kIn, ?_⟩
  rw [hks]
  have lw : ws.length = ks.length := by rw [← rz.length, ← r2.length]; exact l2
  exact run_pfn (us := []) (ws := ws) (ds := d2) cz F pt I2 h2 s2' x2 rfl lw r2 rz q2
theorem al_nil : ∀ (sl : Sl) (vh : VH) (ds : List D) (vh' : VH), aNil sl vh = .ok ds vh' → ds.length = 0 := fun sl vh ds vh' h => by cases h; rfl
theorem al_cons {n : Nat} (h : ∀ (sl : Sl) (vh : VH) (ds : List D) (vh' : VH), α sl vh = .ok ds vh' → ds.length = n) : ∀ (sl : Sl) (vh : VH) (ds : List D) (vh' : VH), aCons φ α sl vh = .ok ds vh' → ds.length = n + 1 := fun sl vh ds vh' e => by
  unfold aCons at e
  split at e
  · cases e
  · cases e
  · split at e
    · cases e
    · cases e
    · rename_i h1
      cases e
      simp [h _ _ _ _ h1]
end

/-! ### denotations by a number -/
section
variable {W : Wd} {P : Program} {w : World} {mg : Str → Option Value} {base : Heap} {k : Nat} {f : Addr} {fd : FuncData} {ps : List Str}
theorem PFn.pick {Φ : Nat → Den} (h : ∀ n, PFn W P w mg base k f fd ps (Φ n)) (fuel : List D → VH → Nat) : PFn W P w mg base k f fd ps (fun ds vh => Φ (fuel ds vh) ds vh) :=
  ⟨fun A outer s H args us vs Q E hr hg he hb hv ⟨g, ds, vh, a, b, c, q⟩ => (h (fuel ds vh)).run A outer s H args us vs Q E hr hg he hb hv ⟨g, ds, vh, a, b, c, q⟩⟩
theorem PFn.none : PFn W P w mg base k f fd ps (fun _ _ => .bad) := ⟨fun A outer s H args us vs Q E hr hg he hb hv ⟨g, ds, vh, a, b, c, q⟩ => q.elim⟩
end
end
end PM

/-! PM14: the law's end. -/
namespace PM
open PySem L2
noncomputable section

open PySem.Spec PyProof.Rows in
theorem law_core {P : Program} {w : World} {W : Wd} {mg mb : Str → Option Value} {k : Nat} {fa a : Addr} {fd : FuncData} {x : Str} {Φ : Den} {s1 : Shared} {us : List Value} {ns : List Int} {H : Hp}
    (kIn : W.K.In s1.heap) (gl : s1.heap.Ns mainGlobals mg) (bl : s1.heap.Ns builtinsNs mb) (bls : ∀ y : Str, y ≠ "__name__" → mb y = bootBuiltins y) (nl : s1.heap.NoLimit) (gens : s1.gens = #[])
    (tr : ∀ b u, H b = some u → b = a ∧ W.K.lookup b = none ∧ ∃ o xs, u = .frz o (.lst xs) ∧ s1.heap.get? b = some o) (sq : ∀ b u o es ep, H b = some u → s1.heap.get? b = some o → o.data ≠ .dict es ep) (hok : HOk P w H s1.heap)
    (room : Room k callerA) (F : ∀ base : Heap, W.K.In base → base.Ns mainGlobals mg → PFn W P w mg base k fa fd [x] Φ) (bind : ∀ (s : Shared) (u : Value), BindsTo s fd ⟨[u], []⟩ [(x, u)])
    (vh' : VH) (hΦ : Φ [.scr ns] [] = .ok (.bl true) vh') (scr : SqL W.K H a (ns.map V.int)) (scrF : SqL W.K noH a (ns.map V.int) ∨ ∃ o, H a = some (.frz o (.lst (ns.map V.int)))) :
    codeAny (model P w) callerA (.call (.ref fa) ⟨[.ref a], []⟩) (fun r s' => r = .ok (.ret (.bool true)) ∧ OldK s1.heap s'.heap ∧ s'.os = s1.os ∧ AllBare s'.gens) s1 := by
  have un : ∀ b o es ep, s1.heap.get? b = some o → o.data = .dict es ep → H b = none := by
    intro b o es ep e d
    cases q : H b with
    | none => rfl
    | some u => exact absurd d (sq b u o es ep q e)
  have keepNs : ∀ (b : Addr) (m : Str → Option Value), s1.heap.Ns b m → (hidT s1.heap H).Ns b m := by
    rintro b m ⟨o, es, ep, e, d, rest⟩
    exact ⟨o, es, ep, hidT_get e (un b o es ep e d), d, rest⟩
  have kB : W.K.In (hidT s1.heap H) := by
    intro b o e
    refine hidT_get (kIn b o e) ?_
    cases q : H b with
    | none => rfl
    | some u =>
      have := (tr b u q).2.1
      rw [this] at e
      cases e
  obtain ⟨mc, nl1, nl2⟩ := nl
  have M : Mod W.K mg (hidT s1.heap H) := { kin := kB, glob := keepNs _ _ gl, blt := ⟨mb, keepNs _ _ bl, bls⟩, nolimit := ⟨mc, keepNs _ _ nl1, nl2⟩ }
  have E : Env0 P w W.K mg (hidT s1.heap H) callerA [] s1 H := { frames := rfl, mod := M, bs := fun b o e => of_hidT e, bsz := Nat.le_of_eq (hidT_size _ _), funs := trivial, frf := fun b hb => (nomatch hb), hok := hok, bare := .of_eq gens }
  let g0 : Gh := ⟨fun b => H b ≠ none, fun _ => 0, 0⟩
  have R : RelH W (callC H g0) g0 [] H :=
    { len := rfl, vh := fun i o e => (nomatch e), inj := fun i j hi => absurd hi (Nat.not_lt_zero _), nf := fun i hi => absurd hi (Nat.not_lt_zero _), ff := fun b hb => hb, fr := fun b hb => ⟨rfl, hb.1⟩, nfr := fun i hi => absurd hi (Nat.not_lt_zero _), pd := fun b hb => hb }
  have rs : Rep W g0 H (.scr ns) (.ref a) := by
    simp only [Rep]
    refine ⟨a, rfl, ?_⟩
    rcases scrF with z | ⟨o, z⟩
    · exact .inr z
    · exact .inl ⟨by rw [show g0.F a = (H a ≠ none) from rfl, z]; exact fun y => (nomatch y), o, z⟩
  have sp : spD W 1 Φ [.ref a] H (fun v _ => v = .bl true) (fun _ _ _ => False) := by
    refine ⟨g0, [.scr ns], [], R, Reps.one rs, rfl, ?_⟩
    rw [hΦ]
    exact fun g1 H1 v _ _ r1 => by simpa only [Rep] using r1
  refine codeAny_mono ((F _ kB (keepNs _ _ gl)).run callerA [] s1 H ⟨[.ref a], []⟩ [.ref a] [.ref a] (fun v _ => v = .bl true) (fun _ _ _ => False) room rfl E (bind s1 (.ref a)) (.cons rfl .nil) sp) ?_
  intro r s2 out
  cases r with
  | error e =>
    obtain ⟨_, _, _, _, _, _, _, _, _, _, _, _, z⟩ := out
    exact z.elim
  | ok fl =>
    cases fl with
    | next => exact out.elim
    | brk => exact out.elim
    | cont => exact out.elim
    | ret u =>
      obtain ⟨v, H2, os2, bare2, un2, hok2, rv, rfl⟩ := out
      cases rv
      refine ⟨rfl, .of_keep ?_, os2, bare2⟩
      intro b o e
      cases q : H b with
      | none => exact un2.keep b o e q (fun z => nomatch z) (fun z => nomatch z)
      | some u =>
        obtain ⟨_, _, ob, xs, rfl, eo⟩ := tr b u q
        have := (hok2 b _ (un2.frzs b ob _ q)).1
        rw [eo] at e
        cases e
        exact this

open PySem.Spec PyProof.Rows in
theorem law_end {P : Program} {w : World} {W : Wd} {mg mb : Str → Option Value} {k : Nat} {fa a : Addr} {fd : FuncData} {x : Str} {Φ : Den} {s1 : Shared} {us : List Value} {ns : List Int}
    (kIn : W.K.In s1.heap) (gl : s1.heap.Ns mainGlobals mg) (bl : s1.heap.Ns builtinsNs mb) (bls : ∀ y : Str, y ≠ "__name__" → mb y = bootBuiltins y) (nl : s1.heap.NoLimit) (gens : s1.gens = #[])
    (at' : s1.heap.get? a = some { cls := .type "list", data := .seq us.toArray }) (its : IntsAre us ns) (len : ns.length ≤ sizeLine)
    (room : Room k callerA) (F : ∀ base : Heap, W.K.In base → base.Ns mainGlobals mg → PFn W P w mg base k fa fd [x] Φ) (bind : ∀ (s : Shared) (u : Value), BindsTo s fd ⟨[u], []⟩ [(x, u)])
    (vh' : VH) (hΦ : Φ [.scr ns] [] = .ok (.bl true) vh') :
    codeAny (model P w) callerA (.call (.ref fa) ⟨[.ref a], []⟩) (fun r s' => r = .ok (.ret (.bool true)) ∧ OldK s1.heap s'.heap ∧ s'.os = s1.os ∧ AllBare s'.gens) s1 := by
  have vals := vals_ints its
  cases lk : W.K.lookup a with
  | some o =>
    have eo := kIn a o lk
    rw [at'] at eo
    cases eo
    have sc : ∀ H : Hp, SqL W.K H a (ns.map V.int) := fun H => .inr ⟨_, us.toArray, _, lk, rfl, rfl, rfl, by rw [List.size_toArray, its.length]; exact len, by simpa using vals⟩
    exact law_core (H := noH) (us := us) kIn gl bl bls nl gens (fun b u z => nomatch z) (fun b u o es ep z => nomatch z) (fun b u z => nomatch z) room F bind vh' hΦ (sc _) (.inl (sc _))
  | none =>
    let so : Obj := { cls := .type "list", data := .seq us.toArray }
    let H : Hp := upd noH a (.frz so (.lst (ns.map V.int)))
    have only : ∀ b u, H b = some u → b = a ∧ u = .frz so (.lst (ns.map V.int)) := by
      intro b u z
      by_cases hb : b = a
      · subst hb
        rw [show H b = _ from upd_same] at z
        cases z
        exact ⟨rfl, rfl⟩
      · rw [show H b = noH b from upd_ne hb] at z
        cases z
    refine law_core (H := H) (us := us) kIn gl bl bls nl gens ?_ ?_ ?_ room F bind vh' hΦ (.inl (.inr ⟨so, upd_same⟩)) (.inr ⟨so, upd_same⟩)
    · intro b u z
      obtain ⟨rfl, rfl⟩ := only b u z
      exact ⟨rfl, lk, so, _, rfl, at'⟩
    · intro b u o es ep z e d
      obtain ⟨rfl, rfl⟩ := only b u z
      rw [at'] at e
      cases e
      cases d
    · intro b u z
      obtain ⟨rfl, rfl⟩ := only b u z
      exact ⟨at', by rw [List.length_map]; exact len, us, _, vals, at'⟩
open PySem.Spec PyProof.Rows in
/-- what k_head or head_any leave: the law's promise by its denotation -/
theorem law_walk {l : PySem.W.OpenLaw} {n k : Nat} {q : Program} {loose : List Str} {XP : (Str → Option Value) → Heap → Prop} {YP : World → Heap → Prop} {d : DefRec} {x : Str}
    (hn : l.most = some n) (hn2 : n ≤ sizeLine) (hdf : d.params.defaults = []) (room : Room k callerA)
    (F : ∀ (w : World) (mg : Str → Option Value) (fa : Addr) (h : Heap), YP w h → h.Ns mainGlobals mg → mg d.name = some (.ref fa) →
      ∃ (W : Wd) (fd : FuncData) (Φ : Den), W.K.In h ∧ (∀ (s : Shared) (u : Value), BindsTo s fd ⟨[u], []⟩ [(x, u)]) ∧ (∀ ns : List Int, ns.length ≤ n → ∃ vh', Φ [.scr ns] [] = .ok (.bl true) vh') ∧
        ∀ base : Heap, W.K.In base → base.Ns mainGlobals mg → PFn W l.prog w mg base k fa fd [x] Φ) :
    PySem.W.WalkO q loose XP YP l.row.toRowW d [] (fun f vs => PySem.call f vs) := by
  refine Att.attach_call hn hdf ?_
  intro w s0 s1 mg mb fa o pm cd doc a us ns G Y _ _ _ hmg at' its len gens
  obtain ⟨W, fd, Φ, kIn, bind, law, P⟩ := F w mg fa _ Y G.T.g hmg
  obtain ⟨vh', hΦ⟩ := law ns len
  exact law_end kIn G.T.g G.T.b G.T.builtins G.T.nolimit gens at' its (Nat.le_trans len hn2) room P bind vh' hΦ
end
end PM

/-! PM15: reckoning with denotations. -/
namespace PM
open PySem L2
noncomputable section

@[simp] theorem ofS_inj {a b : String} : (Str.ofString a = Str.ofString b) ↔ a = b := by
  constructor
  · intro h
    have h2 : (Str.ofString a).cps.toList = (Str.ofString b).cps.toList := by rw [h]
    rw [PyProof.Rows.signs_ofString, PyProof.Rows.signs_ofString] at h2
    have key : ∀ l m : List Char, l.map Char.toNat = m.map Char.toNat → l = m := by
      intro l
      induction l with
      | nil => intro m h; cases m with
        | nil => rfl
        | cons _ _ => cases h
      | cons c l ih => intro m h; cases m with
        | nil => cases h
        | cons d m =>
          rw [List.map_cons, List.map_cons] at h
          injection h with h1 h2
          rw [ih m h2, Char.ext (UInt32.toNat_inj.mp h1)]
    exact String.toList_inj.mp (key _ _ h2)
  · rintro rfl; rfl
section
variable {φ ψ χ : EF} {α β : AF} {τ υ : TF} {δ ε : SF} {ω : OFn} {sl : Sl} {vh : VH} {γ : GF} {ι : IF}
@[simp] theorem x_eb {k : D → EF} : eb φ k sl vh = (match φ sl vh with | .ok e vh' => k e.d sl vh' | .exc x vh' => .exc x vh' | .bad => .bad) := rfl
@[simp] theorem x_tb {k : Bool → EF} : tb τ k sl vh = (match τ sl vh with | .ok b vh' => k b sl vh' | .exc x vh' => .exc x vh' | .bad => .bad) := rfl
@[simp] theorem x_tbb {k : Bool → TF} : tbb τ k sl vh = (match τ sl vh with | .ok b vh' => k b sl vh' | .exc x vh' => .exc x vh' | .bad => .bad) := rfl
@[simp] theorem x_ebt {k : D → TF} : ebt φ k sl vh = (match φ sl vh with | .ok e vh' => k e.d sl vh' | .exc x vh' => .exc x vh' | .bad => .bad) := rfl
@[simp] theorem x_lift {e : EV} : lift (some e) vh = .ok e vh := rfl
@[simp] theorem x_e1 {p : D → Option EV} : e1 p φ sl vh = (match φ sl vh with | .ok x vh' => lift (p (view vh' x.d)) vh' | .exc x vh' => .exc x vh' | .bad => .bad) := by
  first | rfl | (cases h : τ sl vh with | ok b v => (simp only [tAndF, tOrF, eIf, tbb, tb, h]; cases b <;> rfl) | exc x v => (simp only [tAndF, tOrF, eIf, tbb, tb, h]) | bad => (simp only [tAndF, tOrF, eIf, tbb, tb, h]))
@[simp] theorem x_e2 {p : D → D → Option EV} : e2 p φ ψ sl vh = (match φ sl vh with | .ok x vh1 => (match ψ sl vh1 with | .ok y vh2 => lift (p (view vh2 x.d) (view vh2 y.d)) vh2 | .exc x vh' => .exc x vh' | .bad => .bad) | .exc x vh' => .exc x vh' | .bad => .bad) := by
  first | rfl | (cases h : τ sl vh with | ok b v => (simp only [tAndF, tOrF, eIf, tbb, tb, h]; cases b <;> rfl) | exc x v => (simp only [tAndF, tOrF, eIf, tbb, tb, h]) | bad => (simp only [tAndF, tOrF, eIf, tbb, tb, h]))
@[simp] theorem x_var {i : Nat} : eVar i sl vh = (match sl[i]? with | some (some d) => .ok (.v d) vh | _ => .bad) := rfl
@[simp] theorem x_con {d : D} : eCon d sl vh = .ok (.v d) vh := rfl
@[simp] theorem x_v {d : D} : (EV.v d).d = d := rfl
@[simp] theorem x_f {o : O} : (EV.f o).d = o.toD := rfl
@[simp] theorem x_tl {xs : List D} : (O.lst xs).toD = .lst xs := rfl
@[simp] theorem x_td {xs : List (D × D)} : (O.dct xs).toD = .dct xs := rfl
@[simp] theorem x_ab {k : List D → EF} : ab α k sl vh = (match α sl vh with | .ok ds vh' => k ds sl vh' | .exc x vh' => .exc x vh' | .bad => .bad) := rfl
@[simp] theorem x_eA {p : List D → Option EV} : eA p α sl vh = (match α sl vh with | .ok ds vh' => lift (p ds) vh' | .exc x vh' => .exc x vh' | .bad => .bad) := by
  first | rfl | (cases h : τ sl vh with | ok b v => (simp only [tAndF, tOrF, eIf, tbb, tb, h]; cases b <;> rfl) | exc x v => (simp only [tAndF, tOrF, eIf, tbb, tb, h]) | bad => (simp only [tAndF, tOrF, eIf, tbb, tb, h]))
@[simp] theorem x_nil : aNil sl vh = .ok [] vh := rfl
@[simp] theorem x_cons : aCons φ α sl vh = (match φ sl vh with
  | .bad => .bad
  | .exc x vh' => .exc x vh'
  | .ok e vh' => match α sl vh' with
    | .bad => .bad
    | .exc x vh'' => .exc x vh''
    | .ok ds vh'' => .ok (e.d :: ds) vh'') := rfl
@[simp] theorem x_app : aApp α β sl vh = (match α sl vh with
  | .bad => .bad
  | .exc x vh' => .exc x vh'
  | .ok ds vh' => match β sl vh' with
    | .bad => .bad
    | .exc x vh'' => .exc x vh''
    | .ok es vh'' => .ok (ds ++ es) vh'') := rfl
@[simp] theorem x_etoT : etoT φ sl vh = (match φ sl vh with | .ok (.v (.bl b)) vh' => .ok b vh' | .ok _ _ => .bad | .exc x vh' => .exc x vh' | .bad => .bad) := rfl
@[simp] theorem x_liftB {b : Bool} : liftB (some b) vh = .ok b vh := rfl
@[simp] theorem x_etru : etru φ sl vh = (match φ sl vh with | .ok x vh' => liftB (truD (view vh' x.d)) vh' | .exc x vh' => .exc x vh' | .bad => .bad) := by
  first | rfl | (cases h : τ sl vh with | ok b v => (simp only [tAndF, tOrF, eIf, tbb, tb, h]; cases b <;> rfl) | exc x v => (simp only [tAndF, tOrF, eIf, tbb, tb, h]) | bad => (simp only [tAndF, tOrF, eIf, tbb, tb, h]))
@[simp] theorem x_tnot : tNotF τ sl vh = (match τ sl vh with | .ok b vh' => .ok (!b) vh' | .exc x vh' => .exc x vh' | .bad => .bad) := by
  first | rfl | (cases h : τ sl vh with | ok b v => (simp only [tAndF, tOrF, eIf, tbb, tb, h]; cases b <;> rfl) | exc x v => (simp only [tAndF, tOrF, eIf, tbb, tb, h]) | bad => (simp only [tAndF, tOrF, eIf, tbb, tb, h]))
@[simp] theorem x_tand : tAndF τ υ sl vh = (match τ sl vh with | .ok b vh' => (if b = true then υ sl vh' else .ok false vh') | .exc x vh' => .exc x vh' | .bad => .bad) := by
  first | rfl | (cases h : τ sl vh with | ok b v => (simp only [tAndF, tOrF, eIf, tbb, tb, h]; cases b <;> rfl) | exc x v => (simp only [tAndF, tOrF, eIf, tbb, tb, h]) | bad => (simp only [tAndF, tOrF, eIf, tbb, tb, h]))
@[simp] theorem x_tor : tOrF τ υ sl vh = (match τ sl vh with | .ok b vh' => (if b = true then .ok true vh' else υ sl vh') | .exc x vh' => .exc x vh' | .bad => .bad) := by
  first | rfl | (cases h : τ sl vh with | ok b v => (simp only [tAndF, tOrF, eIf, tbb, tb, h]; cases b <;> rfl) | exc x v => (simp only [tAndF, tOrF, eIf, tbb, tb, h]) | bad => (simp only [tAndF, tOrF, eIf, tbb, tb, h]))
@[simp] theorem x_if : eIf τ φ ψ sl vh = (match τ sl vh with | .ok b vh' => (if b = true then φ sl vh' else ψ sl vh') | .exc x vh' => .exc x vh' | .bad => .bad) := by
  first | rfl | (cases h : τ sl vh with | ok b v => (simp only [tAndF, tOrF, eIf, tbb, tb, h]; cases b <;> rfl) | exc x v => (simp only [tAndF, tOrF, eIf, tbb, tb, h]) | bad => (simp only [tAndF, tOrF, eIf, tbb, tb, h]))
@[simp] theorem x_notV : eNotV φ sl vh = (match φ sl vh with | .ok x vh' => (match truD (view vh' x.d) with | none => .bad | some b => .ok (.v (.bl (!b))) vh') | .exc x vh' => .exc x vh' | .bad => .bad) := by
  first | rfl | (cases h : τ sl vh with | ok b v => (simp only [tAndF, tOrF, eIf, tbb, tb, h]; cases b <;> rfl) | exc x v => (simp only [tAndF, tOrF, eIf, tbb, tb, h]) | bad => (simp only [tAndF, tOrF, eIf, tbb, tb, h]))
@[simp] theorem x_andV : eAndV φ ψ sl vh = (match φ sl vh with | .ok x vh' => (match truD (view vh' x.d) with | none => .bad | some true => ψ sl vh' | some false => .ok (.v x.d) vh') | .exc x vh' => .exc x vh' | .bad => .bad) := by
  first | rfl | (cases h : τ sl vh with | ok b v => (simp only [tAndF, tOrF, eIf, tbb, tb, h]; cases b <;> rfl) | exc x v => (simp only [tAndF, tOrF, eIf, tbb, tb, h]) | bad => (simp only [tAndF, tOrF, eIf, tbb, tb, h]))
@[simp] theorem x_orV : eOrV φ ψ sl vh = (match φ sl vh with | .ok x vh' => (match truD (view vh' x.d) with | none => .bad | some true => .ok (.v x.d) vh' | some false => ψ sl vh') | .exc x vh' => .exc x vh' | .bad => .bad) := by
  first | rfl | (cases h : τ sl vh with | ok b v => (simp only [tAndF, tOrF, eIf, tbb, tb, h]; cases b <;> rfl) | exc x v => (simp only [tAndF, tOrF, eIf, tbb, tb, h]) | bad => (simp only [tAndF, tOrF, eIf, tbb, tb, h]))
@[simp] theorem x_lay : eLay φ sl vh = (match φ sl vh with | .ok (.f o) vh' => .ok (.v (.ref vh'.length)) (vh' ++ [o]) | .ok _ _ => .bad | .exc x vh' => .exc x vh' | .bad => .bad) := rfl
@[simp] theorem x_call {arr : List D → List D} {Φ : Den} : dCall arr Φ α sl vh = (match α sl vh with | .ok ds vh' => (match Φ (arr ds) vh' with | .ok d vh' => .ok (.v d) vh' | .exc x vh' => .exc x vh' | .bad => .bad) | .exc x vh' => .exc x vh' | .bad => .bad) := by
  first | rfl | (cases h : τ sl vh with | ok b v => (simp only [tAndF, tOrF, eIf, tbb, tb, h]; cases b <;> rfl) | exc x v => (simp only [tAndF, tOrF, eIf, tbb, tb, h]) | bad => (simp only [tAndF, tOrF, eIf, tbb, tb, h]))
@[simp] theorem x_eM {T : String} {p : MP} : eM T p φ α sl vh = (match φ sl vh with | .ok x vh' => (if tyVH T vh' x.d = true then (match α sl vh' with | .ok ds vh2 => liftM (p x.d ds vh2) | .exc x vh' => .exc x vh' | .bad => .bad) else .bad) | .exc x vh' => .exc x vh' | .bad => .bad) := by
  first | rfl | (cases h : τ sl vh with | ok b v => (simp only [tAndF, tOrF, eIf, tbb, tb, h]; cases b <;> rfl) | exc x v => (simp only [tAndF, tOrF, eIf, tbb, tb, h]) | bad => (simp only [tAndF, tOrF, eIf, tbb, tb, h]))
@[simp] theorem x_liftM {e : EV} : liftM (some (e, vh)) = .ok e vh := rfl
@[simp] theorem x_oNone : oNone sl vh = .ok none vh := rfl
@[simp] theorem x_oSome : oSome φ sl vh = (match φ sl vh with | .ok (.v (.int i)) vh' => .ok (some i) vh' | .ok _ _ => .bad | .exc x vh' => .exc x vh' | .bad => .bad) := rfl
@[simp] theorem x_ob {k : Option Int → EF} : ob ω k sl vh = (match ω sl vh with | .ok o vh' => k o sl vh' | .exc x vh' => .exc x vh' | .bad => .bad) := rfl
@[simp] theorem x_cut {υ : OFn} : eCut φ ω υ sl vh = (match φ sl vh with | .ok x vh1 => (match ω sl vh1 with | .ok lo vh2 => (match υ sl vh2 with | .ok hi vh3 => lift (pCut (view vh3 x.d) lo hi) vh3 | .exc x vh' => .exc x vh' | .bad => .bad) | .exc x vh' => .exc x vh' | .bad => .bad) | .exc x vh' => .exc x vh' | .bad => .bad) := by
  first | rfl | (cases h : τ sl vh with | ok b v => (simp only [tAndF, tOrF, eIf, tbb, tb, h]; cases b <;> rfl) | exc x v => (simp only [tAndF, tOrF, eIf, tbb, tb, h]) | bad => (simp only [tAndF, tOrF, eIf, tbb, tb, h]))
@[simp] theorem x_pick {υ θ : OFn} : ePick φ ω υ θ sl vh = (match φ sl vh with | .ok x vh1 => (match ω sl vh1 with | .ok lo vh2 => (match υ sl vh2 with | .ok hi vh3 => (match θ sl vh3 with | .ok st vh4 => lift (pPick (view vh4 x.d) lo hi st) vh4 | .exc x vh' => .exc x vh' | .bad => .bad) | .exc x vh' => .exc x vh' | .bad => .bad) | .exc x vh' => .exc x vh' | .bad => .bad) | .exc x vh' => .exc x vh' | .bad => .bad) := by
  first | rfl | (cases h : τ sl vh with | ok b v => (simp only [tAndF, tOrF, eIf, tbb, tb, h]; cases b <;> rfl) | exc x v => (simp only [tAndF, tOrF, eIf, tbb, tb, h]) | bad => (simp only [tAndF, tOrF, eIf, tbb, tb, h]))
@[simp] theorem x_D0 : eD0 sl vh = .ok (.f (.dct [])) vh := rfl
@[simp] theorem x_next : sNext sl vh = .nx sl vh := rfl
@[simp] theorem x_seq : sSeq δ ε sl vh = (match δ sl vh with | .nx sl' vh' => ε sl' vh' | r => r) := rfl
@[simp] theorem x_drop : sDrop φ sl vh = (match φ sl vh with | .ok _ vh' => .nx sl vh' | .exc x vh' => .ex x sl vh' | .bad => .bad) := rfl
@[simp] theorem x_ret : sRet φ sl vh = (match φ sl vh with | .ok e vh' => .rt e.d vh' | .exc x vh' => .ex x sl vh' | .bad => .bad) := rfl
@[simp] theorem x_retN : sRetN sl vh = .rt .non vh := rfl
@[simp] theorem x_sIf : sIf τ δ ε sl vh = (match τ sl vh with | .ok true vh' => δ sl vh' | .ok false vh' => ε sl vh' | .exc x vh' => .ex x sl vh' | .bad => .bad) := rfl
@[simp] theorem x_set {i : Nat} : sSet i φ sl vh = (match φ sl vh with | .ok e vh' => .nx (sl.set i (some e.d)) vh' | .exc x vh' => .ex x sl vh' | .bad => .bad) := rfl
@[simp] theorem x_asg : sAsg φ γ sl vh = (match φ sl vh with | .ok ev vh1 => (match γ ev.d sl vh1 with | some (sl', vh') => .nx sl' vh' | none => .bad) | .exc x vh' => .ex x sl vh' | .bad => .bad) := rfl
@[simp] theorem x_par {i j : Nat} : sPar i j α sl vh = (match α sl vh with | .ok [d, e] vh' => .nx ((sl.set i (some d)).set j (some e)) vh' | .ok _ _ => .bad | .exc x vh' => .ex x sl vh' | .bad => .bad) := rfl
@[simp] theorem x_gNm {i : Nat} {d : D} : gNm i d sl vh = some (sl.set i (some d), vh) := rfl
@[simp] theorem x_gSub {d : D} : gSubF φ ψ d sl vh = (match φ sl vh with | .ok ev vh1 => (match ψ sl vh1 with | .ok iv vh2 => (dstore ev.d iv.d d vh2).map fun vh3 => (sl, vh3) | _ => none) | _ => none) := rfl
@[simp] theorem x_gsNil : gsNil [] sl vh = some (sl, vh) := rfl
@[simp] theorem x_gsCons {γs : GFs} {d : D} {r : List D} : gsCons γ γs (d :: r) sl vh = (match γ d sl vh with | some (sl', vh') => γs r sl' vh' | none => none) := rfl
@[simp] theorem x_unpT {γs : GFs} {n : Nat} {xs : List D} : gUnp n γs (.tup xs) sl vh = if xs.length = n then γs xs sl vh else none := rfl
@[simp] theorem x_unpL {γs : GFs} {n : Nat} {xs : List D} : gUnp n γs (.lst xs) sl vh = if xs.length = n then γs xs sl vh else none := rfl
@[simp] theorem x_for : sFor ι γ δ sl vh = (match ι sl vh with | .ok iv vh' => sLoop iv.gd γ δ iv.items sl vh' | .exc x vh' => .ex x sl vh' | .bad => .bad) := rfl
@[simp] theorem x_iVal : iVal φ sl vh = (match φ sl vh with | .ok e vh' => (match ivOf vh' e.d with | some iv => .ok iv vh' | none => .bad) | .exc x vh' => .exc x vh' | .bad => .bad) := rfl
@[simp] theorem x_ivT {xs : List D} : ivOf vh (.tup xs) = some ⟨xs, none⟩ := rfl
@[simp] theorem x_ivL {xs : List D} : ivOf vh (.lst xs) = some ⟨xs, none⟩ := rfl
@[simp] theorem x_rg1 : iRg1 φ sl vh = (match φ sl vh with | .ok (.v (.int j)) vh' => (if j < 2 ^ 62 ∧ -(2 ^ 62) ≤ j then .ok ⟨rngI 0 j.toNat, none⟩ vh' else .bad) | .ok _ _ => .bad | .exc x vh' => .exc x vh' | .bad => .bad) := rfl
@[simp] theorem x_eLc {vs : List Nat} : eLc ι γ τ φ vs sl vh = (match ι sl vh with | .ok iv vh1 => (match lcLoop iv.gd γ τ φ (wipeS sl vs) iv.items [] vh1 with | .ok acc vh2 => .ok (.f (.lst acc)) vh2 | _ => .bad) | .exc x vh' => .exc x vh' | .bad => .bad) := rfl
@[simp] theorem x_yes : tYesF sl vh = .ok true vh := rfl
@[simp] theorem x_gdN : gdB none vh = true := rfl
@[simp] theorem x_run {n : Nat} {ds : List D} : runD n δ ds vh = outD (δ (slots n ds) vh) := rfl
@[simp] theorem x_outR {d : D} : outD (.rt d vh) = .ok d vh := rfl
@[simp] theorem x_outN : outD (.nx sl vh) = .ok .non vh := rfl
@[simp] theorem x_outX {x : XV} : outD (.ex x sl vh) = .exc x vh := rfl
/-! prims -/
@[simp] theorem vw_non : view vh .non = .non := rfl
@[simp] theorem vw_bl {b} : view vh (.bl b) = .bl b := rfl
@[simp] theorem vw_int {b} : view vh (.int b) = .int b := rfl
@[simp] theorem vw_str {b} : view vh (.str b) = .str b := rfl
@[simp] theorem vw_tup {b} : view vh (.tup b) = .tup b := rfl
@[simp] theorem vw_lst {b} : view vh (.lst b) = .lst b := rfl
@[simp] theorem vw_dct {b} : view vh (.dct b) = .dct b := rfl
@[simp] theorem vw_scr {b} : view vh (.scr b) = .scr b := rfl
theorem vw_ref {n : Nat} {o : O} (h : vh[n]? = some o) : view vh (.ref n) = o.toD := by simp only [view, h]
@[simp] theorem o_add {i j : Int} : opAdd (.int i) (.int j) = some (.v (.int (i + j))) := rfl
@[simp] theorem o_addT {xs ys : List D} : opAdd (.tup xs) (.tup ys) = if xs.length + ys.length ≤ lim then some (.v (.tup (xs ++ ys))) else none := rfl
@[simp] theorem o_addL {xs ys : List D} : opAdd (.lst xs) (.lst ys) = if xs.length + ys.length ≤ lim then some (.f (.lst (xs ++ ys))) else none := rfl
@[simp] theorem o_sub {i j : Int} : opSub (.int i) (.int j) = some (.v (.int (i - j))) := rfl
@[simp] theorem o_neg {i : Int} : opNeg (.int i) = some (.v (.int (-i))) := rfl
theorem o_mul {i j : Int} (h : mulOk i j = true) : opMul (.int i) (.int j) = some (.v (.int (i * j))) := if_pos h
theorem o_div {i j : Int} (h : divOk j = true) : opDiv (.int i) (.int j) = some (.v (.int (i / j))) := if_pos h
theorem o_mod {i j : Int} (h : 0 < j) : opMod (.int i) (.int j) = some (.v (.int (i % j))) := if_pos h
theorem o_pow {i j : Int} (h : powOk i j = true) : opPow (.int i) (.int j) = some (.v (.int (i ^ j.toNat))) := if_pos h
@[simp] theorem o_lt {i j : Int} : opLt (.int i) (.int j) = some (.v (.bl (decide (i < j)))) := rfl
@[simp] theorem o_gt {i j : Int} : opGt (.int i) (.int j) = some (.v (.bl (decide (j < i)))) := rfl
@[simp] theorem o_le {i j : Int} : opLe (.int i) (.int j) = some (.v (.bl (decide (i ≤ j)))) := rfl
@[simp] theorem o_ge {i j : Int} : opGe (.int i) (.int j) = some (.v (.bl (decide (j ≤ i)))) := rfl
@[simp] theorem o_eqI {i j : Int} : opEq (.int i) (.int j) = some (.v (.bl (decide (i = j)))) := by simp [opEq, eqD, scV, scal, vB]
@[simp] theorem o_eqS {i j : Str} : opEq (.str i) (.str j) = some (.v (.bl (decide (i = j)))) := by simp [opEq, eqD, scV, scal, vB]
@[simp] theorem o_neI {i j : Int} : opNe (.int i) (.int j) = some (.v (.bl (!decide (i = j)))) := by simp [opNe, eqD, scV, scal, vB]
@[simp] theorem o_neS {i j : Str} : opNe (.str i) (.str j) = some (.v (.bl (!decide (i = j)))) := by simp [opNe, eqD, scV, scal, vB]
@[simp] theorem b_abs {i : Int} : bAbs (.int i) = some (.v (.int (if i < 0 then -i else i))) := rfl
@[simp] theorem b_intB {b : Bool} : bInt (.bl b) = some (.v (.int (if b then 1 else 0))) := rfl
@[simp] theorem b_max {i j : Int} : bMax (.int i) (.int j) = some (.v (.int (if j > i then j else i))) := rfl
@[simp] theorem b_min {i j : Int} : bMin (.int i) (.int j) = some (.v (.int (if j < i then j else i))) := rfl
@[simp] theorem b_lenL {xs : List D} : bLen (.lst xs) = some (.v (.int xs.length)) := rfl
@[simp] theorem b_lenT {xs : List D} : bLen (.tup xs) = some (.v (.int xs.length)) := rfl
@[simp] theorem b_lenC {xs : List Int} : bLen (.scr xs) = some (.v (.int xs.length)) := rfl
@[simp] theorem b_tupL {xs : List D} : bTup (.lst xs) = some (.v (.tup xs)) := rfl
@[simp] theorem b_tupT {xs : List D} : bTup (.tup xs) = some (.v (.tup xs)) := rfl
theorem p_tup {xs : List D} (h : xs.length ≤ lim) : pTup xs = some (.v (.tup xs)) := if_pos h
theorem p_lst {xs : List D} (h : xs.length ≤ lim) : pLst xs = some (.f (.lst xs)) := if_pos h
@[simp] theorem p_ixL {xs : List D} {i : Int} : pIx (.lst xs) (.int i) = (atI xs i).map EV.v := rfl
@[simp] theorem p_ixT {xs : List D} {i : Int} : pIx (.tup xs) (.int i) = (atI xs i).map EV.v := rfl
end
/-! ### loops -/
theorem sLoop_inv {γ : GF} {δ : SF} {items : List D} {sl : Sl} {vh : VH} (I : Nat → Sl → VH → Prop) (h0 : I 0 sl vh)
    (step : ∀ (i : Nat) (hi : i < items.length) (sl : Sl) (vh : VH), I i sl vh → ∃ sl' vh' sl2 vh2, γ items[i] sl vh = some (sl', vh') ∧ δ sl' vh' = .nx sl2 vh2 ∧ I (i + 1) sl2 vh2) :
    ∃ sl2 vh2, sLoop none γ δ items sl vh = .nx sl2 vh2 ∧ I items.length sl2 vh2 := by
  have gen : ∀ (k i : Nat) (sl : Sl) (vh : VH), i + k = items.length → I i sl vh → ∃ sl2 vh2, sLoop none γ δ (items.drop i) sl vh = .nx sl2 vh2 ∧ I items.length sl2 vh2 := by
    intro k
    induction k with
    | zero =>
      intro i sl vh hi h
      have e : i = items.length := by omega
      subst e
      rw [List.drop_length]
      exact ⟨sl, vh, by simp [sLoop], h⟩
    | succ k ih =>
      intro i sl vh hi h
      have hlt : i < items.length := by omega
      obtain ⟨sl', vh', sl2, vh2, e1, e2, h2⟩ := step i hlt sl vh h
      rw [List.drop_eq_getElem_cons hlt]
      obtain ⟨sl3, vh3, e3, h3⟩ := ih (i + 1) sl2 vh2 (by omega) h2
      exact ⟨sl3, vh3, by simp [sLoop, e1, e2, e3], h3⟩
  have := gen items.length 0 sl vh (by omega) h0
  rwa [List.drop_zero] at this
theorem lcLoop_inv {γ : GF} {τ : TF} {φ : EF} {items : List D} {sl : Sl} {vh : VH} (I : Nat → List D → VH → Prop) (h0 : I 0 [] vh) (hl : items.length ≤ lim)
    (step : ∀ (i : Nat) (hi : i < items.length) (acc : List D) (vh : VH), acc.length = i → I i acc vh → ∃ sl' vh1 e vh2, γ items[i] sl vh = some (sl', vh1) ∧ τ sl' vh1 = .ok true vh1 ∧ φ sl' vh1 = .ok e vh2 ∧ I (i + 1) (acc ++ [e.d]) vh2) :
    ∃ acc vh2, lcLoop none γ τ φ sl items [] vh = .ok acc vh2 ∧ acc.length = items.length ∧ I items.length acc vh2 := by
  have gen : ∀ (k i : Nat) (acc : List D) (vh : VH), i + k = items.length → acc.length = i → I i acc vh → ∃ acc2 vh2, lcLoop none γ τ φ sl (items.drop i) acc vh = .ok acc2 vh2 ∧ acc2.length = items.length ∧ I items.length acc2 vh2 := by
    intro k
    induction k with
    | zero =>
      intro i acc vh hi ha h
      have e : i = items.length := by omega
      subst e
      rw [List.drop_length]
      exact ⟨acc, vh, by simp [lcLoop], ha, h⟩
    | succ k ih =>
      intro i acc vh hi ha h
      have hlt : i < items.length := by omega
      obtain ⟨sl', vh1, e, vh2, e1, e2, e3, h2⟩ := step i hlt acc vh ha h
      rw [List.drop_eq_getElem_cons hlt]
      obtain ⟨acc3, vh3, e4, h3⟩ := ih (i + 1) (acc ++ [e.d]) vh2 (by omega) (by simp [ha]) h2
      exact ⟨acc3, vh3, by simp [lcLoop, e1, e2, e3, e4, show acc.length < lim by omega], h3⟩
  have := gen items.length 0 [] vh (by omega) rfl h0
  rwa [List.drop_zero] at this
/-- a comprehension without effects -/
theorem lcLoop_map {γ : GF} {φ : EF} {sl : Sl} {vh : VH} {f : D → D} : ∀ {items acc : List D}, acc.length + items.length ≤ lim →
    (∀ d ∈ items, ∃ sl' e, γ d sl vh = some (sl', vh) ∧ φ sl' vh = .ok e vh ∧ e.d = f d) → lcLoop none γ tYesF φ sl items acc vh = .ok (acc ++ items.map f) vh
  | [], acc, _, _ => by simp [lcLoop]
  | d :: items, acc, hl, h => by
    obtain ⟨sl', e, e1, e2, e3⟩ := h d (List.mem_cons_self ..)
    have := lcLoop_map (γ := γ) (φ := φ) (sl := sl) (vh := vh) (f := f) (items := items) (acc := acc ++ [f d]) (by simp at hl ⊢; omega) fun x hx => h x (List.mem_cons_of_mem _ hx)
    simp only [List.length_cons] at hl
    simp [lcLoop, e1, e2, e3, this, show acc.length < lim by omega]
end
end PM

/-! PM16: plain facts: sizes, reprs, lookups. -/
namespace PM
open PySem L2
noncomputable section

theorem log2_lt {i : Int} {k : Nat} (h : i.natAbs < 2 ^ k) (hk : 0 < k) : i.natAbs.log2 < k := by
  by_cases e : i.natAbs = 0
  · rw [e]; simpa using hk
  · exact (Nat.log2_lt e).mpr h
theorem mulOk_l {i j : Int} (h : i.natAbs < 2 ^ 64) : mulOk i j = true := mulOk_iff.mpr (by simp [h])
theorem mulOk_r {i j : Int} (h : j.natAbs < 2 ^ 64) : mulOk i j = true := mulOk_iff.mpr (by simp [h])
theorem pow2_lt {i j k : Nat} (h : i < 2 ^ j) (hk : j ≤ k) : i < 2 ^ k := Nat.lt_of_lt_of_le h (Nat.pow_le_pow_right (by omega) hk)
theorem mulOk_of {i j : Int} {k l : Nat} (h : i.natAbs < 2 ^ k) (h' : j.natAbs < 2 ^ l) (hk : k ≤ 400000) (hl : l ≤ 400000) : mulOk i j = true := by
  have a := log2_lt (pow2_lt h (Nat.le_succ k)) (Nat.succ_pos _)
  have b := log2_lt (pow2_lt h' (Nat.le_succ l)) (Nat.succ_pos _)
  have : i.natAbs.log2 + j.natAbs.log2 < 1000000 := by omega
  exact mulOk_iff.mpr (.inr (.inr this))
theorem divOk_of {j : Int} {k : Nat} (h0 : 0 < j) (h1 : j.natAbs < 2 ^ k) (hk : k ≤ 8000) : divOk j = true := by
  have := log2_lt (pow2_lt h1 (Nat.le_succ k)) (Nat.succ_pos _)
  have : j.natAbs.log2 < 9000 := by omega
  exact divOk_iff.mpr ⟨h0, this⟩
theorem powOk_of {i j : Int} {k : Nat} (h : i.natAbs < 2 ^ k) (hk : k ≤ 900) (h0 : 0 ≤ j) (h1 : j ≤ 1000) : powOk i j = true := by
  have := log2_lt (pow2_lt h (Nat.le_succ k)) (Nat.succ_pos _)
  have : i.natAbs.log2 < 1000 := by omega
  exact powOk_iff.mpr ⟨h0, h1, this⟩

/-! ### lookups -/
theorem atI_nat {α : Type} {xs : List α} {i : Int} {j : Nat} (h : i = j) (hj : j < xs.length) : atI xs i = xs[j]? := by
  subst h
  unfold atI ixN
  rw [if_pos (by omega), if_pos (by omega)]
  rfl
theorem atI_get {α : Type} {xs : List α} {i : Int} (h0 : 0 ≤ i) (hi : i < xs.length) : ∃ x, atI xs i = some x ∧ x ∈ xs := by
  have hl : i.toNat < xs.length := by omega
  refine ⟨xs[i.toNat], ?_, List.getElem_mem hl⟩
  rw [atI_nat (j := i.toNat) (by omega) hl, List.getElem?_eq_getElem hl]
@[simp] theorem at_0 {α : Type} {a : α} {l : List α} : atI (a :: l) 0 = some a := (atI_nat (i := 0) (j := 0) rfl (by simp)).trans rfl
@[simp] theorem at_1 {α : Type} {a b : α} {l : List α} : atI (a :: b :: l) 1 = some b := (atI_nat (i := 1) (j := 1) rfl (by simp)).trans rfl
@[simp] theorem at_2 {α : Type} {a b c : α} {l : List α} : atI (a :: b :: c :: l) 2 = some c := (atI_nat (i := 2) (j := 2) rfl (by simp)).trans rfl
@[simp] theorem at_3 {α : Type} {a b c d : α} {l : List α} : atI (a :: b :: c :: d :: l) 3 = some d := (atI_nat (i := 3) (j := 3) rfl (by simp)).trans rfl
@[simp] theorem at_4 {α : Type} {a b c d e : α} {l : List α} : atI (a :: b :: c :: d :: e :: l) 4 = some e := (atI_nat (i := 4) (j := 4) rfl (by simp)).trans rfl
@[simp] theorem s_inT {w : Str} {l : List D} : opIn (.str w) (.tup l) = (inD (.str w) l).bind vB := rfl
@[simp] theorem s_inL {w : Str} {l : List D} : opIn (.str w) (.lst l) = (inD (.str w) l).bind vB := rfl
@[simp] theorem s_in0 {w : Str} : inD (.str w) [] = some false := rfl
@[simp] theorem s_in1 {w z : Str} {l : List D} : inD (.str w) (.str z :: l) = (inD (.str w) l).map fun b => decide (z = w) || b := by
  unfold inD
  simp only [scV, scVs]
  cases e : scVs l with
  | none => rfl
  | some bs => simp [inV, eqV]; by_cases h : z = w <;> simp [h]
@[simp] theorem eqV_str {a b : Str} : eqV (.str a) (.str b) = decide (a = b) := by by_cases h : a = b <;> simp [eqV, h]
@[simp] theorem eqV_int {a b : Int} : eqV (.int a) (.int b) = decide (a = b) := by by_cases h : a = b <;> simp [eqV, h]
@[simp] theorem vB_eq {b : Bool} : vB b = some (.v (.bl b)) := rfl

/-! ### reprs -/
theorem ofS_len (s : String) : (Str.ofString s).length = s.length := by
  have := congrArg List.length (PyProof.Rows.signs_ofString s)
  rw [List.length_map] at this
  have e : (Str.ofString s).length = (Str.ofString s).cps.toList.length := by simp [Str.length]
  rw [e, this, String.length_toList]
theorem shown_int_len {i : Int} {k : Nat} (hk : 0 < k) (h : i.natAbs < 2 ^ k) : (PyData.shown (.int i)).length ≤ k + 1 := by
  show (Str.ofString (toString i)).length ≤ _
  rw [ofS_len]
  exact int_text_length_le hk (log2_lt h hk)
/-- the text of a list of whole numbers -/
def intsPy (ns : List Int) : PyData := .list (ns.map .int)
theorem toPys_ints : ∀ ns : List Int, toPys (ns.map D.int) = some (ns.map PyData.int)
  | [] => by simp [toPys]
  | n :: ns => by simp [toPys, toPy, toPys_ints ns]
theorem shownAll_ints {k : Nat} (hk : 0 < k) : ∀ ns : List Int, (∀ n ∈ ns, n.natAbs < 2 ^ k) → ((PyData.shownAll (ns.map .int)).map (·.length)).sum ≤ (k + 1) * ns.length ∧ (PyData.shownAll (ns.map .int)).length = ns.length
  | [], _ => by simp [PyData.shownAll]
  | n :: ns, h => by
    obtain ⟨a, b⟩ := shownAll_ints hk ns fun m hm => h m (List.mem_cons_of_mem _ hm)
    have c := shown_int_len hk (h n (List.mem_cons_self ..))
    simp only [List.map_cons, PyData.shownAll, List.sum_cons, List.length_cons]
    refine ⟨?_, by omega⟩
    have : (k + 1) * (ns.length + 1) = (k + 1) * ns.length + (k + 1) := by rw [Nat.mul_succ]
    omega
theorem depthAll_ints : ∀ ns : List Int, PyData.depthAll (ns.map .int) ≤ 1
  | [] => by simp [PyData.depthAll]
  | n :: ns => by
    have := depthAll_ints ns
    simp [PyData.depthAll, PyData.depth]
    omega
theorem showableAll_ints : ∀ ns : List Int, (∀ n ∈ ns, n.natAbs < 2 ^ 1900) → PyData.showableAll (ns.map .int) = true
  | [], _ => by simp [PyData.showableAll]
  | n :: ns, h => by
    have a := showableAll_ints ns fun m hm => h m (List.mem_cons_of_mem _ hm)
    have b := log2_lt (h n (List.mem_cons_self ..)) (by omega)
    simp [PyData.showableAll, PyData.showable, a]
    omega
theorem repr_ints {ns : List Int} (h : ∀ n ∈ ns, n.natAbs < 2 ^ 1900) (hl : ns.length ≤ 1000) : ∃ x : Str, ∀ d, d = D.lst (ns.map D.int) → bRepr d = some (.v (.str x)) := by
  refine ⟨(intsPy ns).shown, fun d hd => ?_⟩
  subst hd
  have e : pyR (.lst (ns.map D.int)) = some (intsPy ns) := by simp [pyR, toPy, toPys_ints, intsPy]
  have c1 : (intsPy ns).showable = true := showableAll_ints ns h
  have c2 : (intsPy ns).depth ≤ 64 := by
    have := depthAll_ints ns
    simp [intsPy, PyData.depth]
    omega
  have c3 : (intsPy ns).shown.length ≤ lim := by
    obtain ⟨a, b⟩ := shownAll_ints (k := 1900) (by omega) ns h
    have := listText_len_le (PyData.shownAll (ns.map .int))
    have e2 : (intsPy ns).shown = listText (PyData.shownAll (ns.map .int)) := rfl
    rw [e2]
    have : (1900 + 1) * ns.length ≤ 1901 * 1000 := Nat.mul_le_mul_left _ hl
    rw [lim_val]
    omega
  unfold bRepr
  rw [e]
  simp [c1, c2, c3, vS]

theorem repr_int {v : Int} (h : v.natAbs < 2 ^ 1900) : ∃ x : Str, bRepr (.int v) = some (.v (.str x)) := by
  refine ⟨(PyData.int v).shown, ?_⟩
  have c1 : (PyData.int v).showable = true := by
    have := log2_lt h (by omega)
    simp [PyData.showable]
    omega
  have c3 : (PyData.int v).shown.length ≤ lim := by
    have := shown_int_len (k := 1900) (by omega) h
    rw [lim_val]
    omega
  unfold bRepr
  simp only [pyR, toPy, Option.bind_some, PyData.depth]
  simp [c1, c3, vS]
/-! ### dicts of texts to whole numbers -/
def KvOk (p : D × D) : Prop := ∃ (s : String) (v : Int), p = (.str s, .int v) ∧ s.length ≤ 1000 ∧ v.natAbs < 2 ^ 30
theorem dput_len (kvs : List (D × D)) (k d : D) : (dput kvs k d).length ≤ kvs.length + 1 := by
  unfold dput
  split <;> simp
theorem dput_ok {kvs : List (D × D)} {s : String} {v : Int} (h : ∀ p ∈ kvs, KvOk p) (hs : s.length ≤ 1000) (hv : v.natAbs < 2 ^ 30) : ∀ p ∈ dput kvs (.str s) (.int v), KvOk p := by
  intro p hp
  unfold dput at hp
  split at hp
  · obtain ⟨q, hq, e⟩ := List.mem_map.mp hp
    split at e
    · obtain ⟨s', v', rfl, a, b⟩ := h q hq
      subst e
      exact ⟨s', v, rfl, a, hv⟩
    · subst e; exact h q hq
  · rcases List.mem_append.mp hp with hp | hp
    · exact h p hp
    · rw [List.mem_singleton] at hp
      subst hp
      exact ⟨s, v, rfl, hs, hv⟩
theorem dget_map {k d : D} {y : Key} : ∀ kvs : List (D × D), dget (kvs.map (fun p => if keyD p.1 = keyD k then (p.1, d) else p)) y = (dget kvs y).map fun e => if keyD k = some y then d else e
  | [] => rfl
  | (k0, d0) :: r => by
    rw [List.map_cons]
    by_cases h1 : keyD k0 = keyD k
    · simp only [h1, if_true]
      unfold dget
      rw [dget_map r, h1]
      by_cases h2 : keyD k = some y
      · simp [h2]
      · simp [h2]
    · simp only [h1, if_false]
      unfold dget
      rw [dget_map r]
      by_cases h2 : keyD k0 = some y
      · have : ¬ keyD k = some y := fun z => h1 (h2.trans z.symm)
        simp [h2, this]
      · simp [h2]
theorem dget_cons {k d : D} {r : List (D × D)} {y : Key} : dget ((k, d) :: r) y = if keyD k = some y then some d else dget r y := rfl
theorem dget_none {k : D} {y : Key} (hk : keyD k = some y) : ∀ kvs : List (D × D), (kvs.any fun p => decide (keyD p.1 = keyD k)) = (dget kvs y).isSome
  | [] => rfl
  | (k0, d0) :: r => by
    rw [List.any_cons, dget_none hk r, dget_cons, hk]
    by_cases h : keyD k0 = some y <;> simp [h]
theorem dget_append {y : Key} : ∀ (kvs : List (D × D)) (l : List (D × D)), dget (kvs ++ l) y = match dget kvs y with | some d => some d | none => dget l y
  | [], l => rfl
  | (k0, d0) :: r, l => by
    rw [List.cons_append, dget_cons, dget_cons]
    by_cases h : keyD k0 = some y
    · simp [h]
    · simp only [h, if_false]
      exact dget_append r l
theorem dget_put {kvs : List (D × D)} {k d : D} {y z : Key} (hk : keyD k = some z) : dget (dput kvs k d) y = if z = y then some d else dget kvs y := by
  unfold dput
  rw [dget_none hk]
  by_cases h : z = y
  · subst h
    cases e : dget kvs z with
    | none =>
      simp only [Option.isSome_none, Bool.false_eq_true, if_false, if_true]
      rw [dget_append, e]
      simp [dget, hk]
    | some d0 =>
      simp only [Option.isSome_some, if_true]
      rw [dget_map, e]
      simp [hk]
  · cases e : dget kvs z with
    | none =>
      simp only [Option.isSome_none, Bool.false_eq_true, if_false, h]
      rw [dget_append]
      cases dget kvs y with
      | none => simp [dget, hk, h]
      | some _ => rfl
    | some d0 =>
      simp only [Option.isSome_some, if_true, h, if_false]
      rw [dget_map, hk]
      simp [h]
def kvSI (p : String × Int) : D × D := (.str p.1, .int p.2)
theorem kvOf_SI : ∀ l : List (String × Int), kvOf (l.map fun p => D.tup [.str p.1, .int p.2]) = some (l.map kvSI)
  | [] => rfl
  | p :: l => by
    rw [List.map_cons]
    unfold kvOf
    simp only [keyD, kvOf_SI l]
    rfl
theorem dmerge_SI : ∀ (l : List (String × Int)) (acc : List (D × D)), (∀ p ∈ acc, KvOk p) → (∀ p ∈ l, p.1.length ≤ 1000 ∧ p.2.natAbs < 2 ^ 30) →
    (∀ p ∈ dmerge acc (l.map kvSI), KvOk p) ∧ (dmerge acc (l.map kvSI)).length ≤ acc.length + l.length
  | [], acc, h, _ => ⟨h, Nat.le_refl _⟩
  | p :: l, acc, h, hl => by
    have a := hl p (List.mem_cons_self ..)
    obtain ⟨b, c⟩ := dmerge_SI l (dput acc (.str p.1) (.int p.2)) (dput_ok h a.1 a.2) fun q hq => hl q (List.mem_cons_of_mem _ hq)
    refine ⟨b, ?_⟩
    have d := dput_len acc (.str p.1) (.int p.2)
    show (dmerge (dput acc (.str p.1) (.int p.2)) (l.map kvSI)).length ≤ _
    simp only [List.length_cons]
    omega
theorem dget_merge {s : String} (P : Int → Prop) : ∀ (l : List (String × Int)) (acc : List (D × D)), (∀ p ∈ l, P p.2) → (s ∈ l.map (·.1) ∨ ∃ v, dget acc (.inr s) = some (.int v) ∧ P v) → ∃ v, dget (dmerge acc (l.map kvSI)) (.inr s) = some (.int v) ∧ P v
  | [], acc, _, h => by
    rcases h with h | h
    · cases h
    · exact h
  | p :: l, acc, hP, h => by
    show ∃ v, dget (dmerge (dput acc (.str p.1) (.int p.2)) (l.map kvSI)) (.inr s) = some (.int v) ∧ P v
    refine dget_merge P l _ (fun q hq => hP q (List.mem_cons_of_mem _ hq)) ?_
    by_cases e : p.1 = s
    · subst e
      exact .inr ⟨p.2, by rw [dget_put (z := .inr p.1) rfl]; simp, hP p (List.mem_cons_self ..)⟩
    · rcases h with h | ⟨v, h1, h2⟩
      · rw [List.map_cons, List.mem_cons] at h
        rcases h with h | h
        · exact absurd h.symm e
        · exact .inl h
      · refine .inr ⟨v, ?_, h2⟩
        rw [dget_put (z := .inr p.1) rfl, if_neg (by simpa using e)]
        exact h1
theorem chars_small (s : String) : ((Str.ofString s).cps.toList.all fun c => decide (c < 16 ^ 8)) = true := by
  rw [PyProof.Rows.signs_ofString, List.all_eq_true]
  intro c hc
  obtain ⟨x, _, rfl⟩ := List.mem_map.mp hc
  have h : x.val.toNat < 2 ^ 32 := x.val.toNat_lt
  exact decide_eq_true h
theorem kvPy_ok : ∀ {kvs : List (D × D)}, (∀ p ∈ kvs, KvOk p) → ∃ ps, kvPy kvs = some ps ∧ PyData.showableKv ps = true ∧ PyData.depthKv ps ≤ 1 ∧ PyData.leavesShortKv 13 ps = true ∧ PyData.weightKv ps ≤ 2000 * kvs.length
  | [], _ => ⟨[], rfl, by simp [PyData.showableKv], by simp [PyData.depthKv], by simp [PyData.leavesShortKv], by simp [PyData.weightKv]⟩
  | p :: kvs, h => by
    obtain ⟨s, v, rfl, hs, hv⟩ := h _ (List.mem_cons_self ..)
    obtain ⟨ps, e, a, b, c, d⟩ := kvPy_ok fun q hq => h q (List.mem_cons_of_mem _ hq)
    refine ⟨(.str s, .int v) :: ps, ?_, ?_, ?_, ?_, ?_⟩
    · unfold kvPy
      simp only [keyD, toPy, scV, e]
    · have := log2_lt hv (by omega)
      simp [PyData.showableKv, PyData.showable, a]
      omega
    · simp [PyData.depthKv, PyData.depth]
      omega
    · have y : (PyData.shown (.int v)).length ≤ 13 := PyData.shown_int_le (by omega)
      have z := chars_small s
      simp [PyData.leavesShortKv, PyData.leavesShort, c, y]
      simpa using z
    · have z : (Str.ofString s).cps.size = s.length := ofS_len s
      have := log2_lt hv (by omega)
      simp only [PyData.weightKv, PyData.weight, z, List.length_cons]
      split <;> omega

theorem repr_SI {kvs : List (D × D)} (h : ∀ p ∈ kvs, KvOk p) (hl : kvs.length ≤ 500) : ∃ x : Str, bRepr (.dct kvs) = some (.v (.str x)) := by
  obtain ⟨ps, e, a, b, c, d⟩ := kvPy_ok h
  refine ⟨(PyData.dict ps).shown, ?_⟩
  have c1 : (PyData.dict ps).showable = true := a
  have c2 : (PyData.dict ps).depth ≤ 64 := by simp [PyData.depth]; omega
  have c3 : (PyData.dict ps).shown.length ≤ lim := by
    rw [lim_eq]
    refine PyData.shown_fits (B := 13) (by omega) (by omega) (by simpa [PyData.leavesShort] using c) ?_
    simp only [PyData.weight]
    omega
  unfold bRepr
  simp only [pyR, e, Option.map_some, Option.bind_some]
  simp [c1, c2, c3, vS]
end
end PM

/-! PM17: a starred target; tuples, numbers, texts that stand in the module. -/
namespace PM
open PySem L2
noncomputable section

def restL {α : Type} (n i : Nat) (xs : List α) : List α := (xs.drop i).take (xs.length + 1 - n)
def lastL {α : Type} (n i : Nat) (xs : List α) : List α := (xs.drop i).drop (xs.length + 1 - n)
def gStar (K : PySem.W.Frag) (n i : Nat) (t : TGs) : TG := fun v σ H Q => ∃ a xs, v = .ref a ∧ (SqT K H a xs ∨ SqL K H a xs) ∧ n ≤ xs.length + 1 ∧ xs.length ≤ 16384 ∧
  ∀ p, H p = none → t (xs.take i ++ [.ref p] ++ lastL n i xs) σ (upd H p (.lst (restL n i xs))) Q
open PySem.Spec PyProof.Rows in
/-- behind the unpacking: one new list, all else as it was, the frame's dict by its map -/
theorem star_inv {X : Cx} {pins : List (Addr × Obj)} {σ : L2.St} {H : Hp} {s : Shared} {m : Str → Option Value} {p : Addr} {ms : List V} {us : List Value} {h' : Heap} {tk : Nat} (I : Inv X pins σ H s) (hm : s.heap.Ns X.env.locals m)
    (F : Fr (Att.noObjs s.heap) X.env.locals h' m) (N : News (Att.noObjs s.heap) X.env.locals h' ((p, { cls := .type "list", data := .seq us.toArray 0 }) :: Att.ledger s.heap X.env.locals X.env.locals))
    (hp : ∀ q ∈ Att.ledger s.heap X.env.locals X.env.locals, q.1 < p) (r : Vals ms us) (hz : ms.length ≤ sizeLine) : H p = none ∧ Inv X pins σ (upd H p (.lst ms)) { s with heap := h', toks := tk } := by
  have keep : ∀ b o, b ≠ X.env.locals → s.heap.get? b = some o → h'.get? b = some o := fun b o nb e => (N (b, o) (List.mem_cons_of_mem _ (Att.mem_ledger.mpr ⟨nb, nb, e⟩))).1
  have neL : p ≠ X.env.locals := (N _ (List.mem_cons_self ..)).2.1
  have old : ∀ b o, s.heap.get? b = some o → b ≠ p := by
    intro b o e z
    subst z
    exact absurd (hp (b, o) (Att.mem_ledger.mpr ⟨neL, neL, e⟩)) (Nat.lt_irrefl _)
  have np : H p = none := by
    cases q : H p with
    | none => rfl
    | some u =>
      have hl := (I.hok p u q).lt
      by_cases z : ∃ o, s.heap.get? p = some o
      · obtain ⟨o, e⟩ := z
        exact absurd rfl (old p o e)
      · exfalso
        have x := I.hok p u q
        have : ∀ (u : HO), ObjOk X.prog X.w H s.heap p u → ∃ o, s.heap.get? p = some o := by
          intro u
          induction u with
          | lst xs => rintro ⟨_, _, _, _, e⟩; exact ⟨_, e⟩
          | tup xs => rintro ⟨_, _, _, _, e, _⟩; exact ⟨_, e⟩
          | dK kvs => rintro ⟨_, _, _, _, _, _, _, e, _⟩; exact ⟨_, e⟩
          | dT kvs => rintro ⟨_, _, _, _, _, _, _, e, _⟩; exact ⟨_, e⟩
          | set S n => rintro ⟨_, _, _, _, e, _⟩; exact ⟨_, e⟩
          | ins C dx fs => rintro ⟨_, _, _, e, _⟩; exact ⟨_, e⟩
          | own y => rintro ⟨_, e⟩; exact ⟨_, e⟩
          | xd fs => rintro ⟨_, ⟨_, _, _, e, _⟩, _⟩; exact ⟨_, e⟩
          | rng lo hi => rintro ⟨_, _, _, e⟩; exact ⟨_, e⟩
          | frz ob u ih => rintro ⟨e, _⟩; exact ⟨_, e⟩
          | tbl ps => intro e; exact ⟨_, e⟩
          | met f y => intro e; exact ⟨_, e⟩
          | ext φ => rintro ⟨_, e, _⟩; exact e
        exact z (this u x)
  refine ⟨np, I.step (g' := s.gens) (d' := s.drawn) (ch := []) (fun _ z => nomatch z) (fun b o nb _ _ e _ => keep b o nb e) (fun b o nb _ _ e _ => ⟨o.slots, keep b o nb e⟩) ?_ ?_ ?_ ?_ ?_ ?_ ?_ I.bare⟩
  · intro b o _ e n
    rw [upd_ne (old b o e)]
    exact n
  · intro b o _ e
    by_cases hb : b = X.env.locals
    · subst hb
      obtain ⟨o', _, _, e', _⟩ := F.ns
      exact ⟨o', e'⟩
    · exact ⟨o, keep b o hb e⟩
  · intro b xs e
    rw [upd_ne (ne_of_none e np)]
    exact e
  · intro b o u e
    rw [upd_ne (ne_of_none e np)]
    exact e
  · intro b ps e
    exact ⟨#[], by rw [upd_ne (ne_of_none e np), Array.append_empty]; exact e⟩
  · intro m2 h2
    have e : m2 = m := by
      funext y
      obtain ⟨o1, es1, ep1, a1, b1, _, c1⟩ := h2
      obtain ⟨o2, es2, ep2, a2, b2, _, c2⟩ := hm
      rw [a1] at a2
      cases a2
      rw [b1] at b2
      cases b2
      rw [← c1 y, c2 y]
    rw [e]
    exact F.ns
  · intro b u e
    by_cases hb : b = p
    · subst hb
      rw [upd_same] at e
      cases e
      exact ⟨hz, us, 0, r, (N _ (List.mem_cons_self ..)).1⟩
    · rw [upd_ne hb] at e
      refine (I.hok b u e).stay (fun c v hc q => keep c v (fun z => ?_) q) (fun c q => by rw [upd_ne (ne_of_none q np)]; exact q) fun c xs q => by rw [upd_ne (ne_of_none q np)]; exact q
      subst z
      rcases hc with z | z
      · subst z; rw [I.free] at e; cases e
      · rw [I.free] at z; cases z
open PySem.Spec PyProof.Rows in
theorem pg_star {X : Cx} {es : List Expr} {k n i : Nat} {pos : Pos} {t : TGs} (hc : X.calm = true) (h : PGs X es t) (hn : (assignEach es X.env).length = n := by rfl) (hst : (assignEach es X.env).findIdx? (·.1) = some i := by rfl) (hi : i < n := by decide) : PG X (.Tuple es k pos) (gStar X.K n i t) := by
  refine ⟨fun pins s σ H v u Q I r hw => ?_⟩
  obtain ⟨a, xs, rfl, hq, h1, h2, hw⟩ := hw
  cases r
  obtain ⟨m, hm, _⟩ := id I.loc
  have F0 : Fr (Att.noObjs s.heap) X.env.locals s.heap m := Att.fr_all hm
  have N0 : News (Att.noObjs s.heap) X.env.locals s.heap (Att.ledger s.heap X.env.locals X.env.locals) := by
    rintro ⟨b, o⟩ hb
    obtain ⟨x, _, e⟩ := Att.mem_ledger.mp hb
    exact ⟨e, x, Att.noObjs_get _ _⟩
  have fin : ∀ (its : List Value), Vals xs its → ∀ D h' tk, Fr (Att.noObjs s.heap) X.env.locals h' m → News (Att.noObjs s.heap) X.env.locals h' ((D, { cls := .type "list", data := .seq (restL n i its).toArray 0 }) :: Att.ledger s.heap X.env.locals X.env.locals) →
      (∀ p ∈ Att.ledger s.heap X.env.locals X.env.locals, p.1 < D) → wpAny (model X.prog X.w) X.A (assignInOrder ((assignEach es X.env).map (·.2)) (its.take i ++ [.ref D] ++ lastL n i its)) (fun _ s' => ∃ σ' H', Inv X pins σ' H' s' ∧ Q σ' H') X.xe { s with heap := h', toks := tk } := by
    intro its rv D h' tk F N l1
    have el := rv.length
    have rm : Vals (restL n i xs) (restL n i its) := by
      unfold restL
      rw [el]
      exact (rv.drop i).take _
    obtain ⟨nD, I'⟩ := star_inv (tk := tk) I hm F N l1 rm (by
      unfold restL
      rw [List.length_take, List.length_drop, sizeLine_eq]
      omega)
    refine h.run pins _ σ _ _ _ Q I' ?_ (hw D nD)
    have r3 : Vals (lastL n i xs) (lastL n i its) := by
      unfold lastL
      rw [el]
      exact (rv.drop i).drop _
    exact ((rv.take i).append (.cons (show RelV (V.ref D) (Value.ref D) from rfl) .nil)).append r3
  rcases hq with hq | hq
  · obtain ⟨its, rv, ht, hz⟩ := I.tuple hq
    have el := rv.length
    exact PySem.W.kun_assignT F0 N0 ht (I.ok.hd hc) hn hst hi (by rw [List.size_toArray]; omega) (by rw [List.size_toArray]; omega) (by simp) (by simp [restL]) (by simp [lastL]) (fin its rv)
  · obtain ⟨its, rv, pl, hz⟩ := I.list hq
    have el := rv.length
    exact PySem.W.kun_assignL F0 N0 pl.isList (I.ok.hd hc) hn hst hi (by rw [List.size_toArray]; omega) (by rw [List.size_toArray]; omega) (by simp) (by simp [restL]) (by simp [lastL]) (fin its rv)

section
variable {W : Wd} {C : Con} {Wx : WX} {X : Cx} {k : Nat} {g g0 : Gh} {H H0 : Hp} {σ : L2.St} {sl : Sl} {vh : VH} {φ ψ χ : EF} {pos : Pos}
theorem pgs_consS {e : Expr} {es : List Expr} {t : TG} {u : TGs} {p : Pos} (h1 : PG X e t) (h2 : PGs X es u)
    (hs : (assignEach (.Starred e p :: es) X.env).map (·.2) = assign e X.env :: (assignEach es X.env).map (·.2) := by rfl) : PGs X (.Starred e p :: es) (gCons t u) := by
  refine ⟨fun pins s σ H vs us Q I r hh => ?_⟩
  obtain ⟨v, vr, e1, hh⟩ := hh
  subst e1
  cases r with
  | cons r rr =>
    rw [hs]
    refine PyProof.Rows.assignInOrder_cons (thn (h1.run pins s σ H _ _ _ I r hh) ?_)
    rintro _ s1 ⟨σ1, H1, I1, q1⟩
    exact h2.run pins s1 σ1 H1 _ _ Q I1 rr q1
theorem gcons_imp {tg : TG} {tgs : TGs} {γ : GF} {γs : GFs} {ix js : List Nat} (e1 : tg = TDG W γ ix) (e2 : tgs = TDGs W γs js) {vs : List V} {Q : L2.St → Hp → Prop} (t : TDGs W (gsCons γ γs) (ix ++ js) vs σ H Q) : gCons tg tgs vs σ H Q := by
  subst e1 e2
  obtain ⟨C, g, sl, vh, ds, h, hs, r, q⟩ := t
  cases ds with
  | nil => exact q.elim
  | cons d ds =>
    simp only [Reps] at r
    obtain ⟨v1, vr, rfl, r1, r2⟩ := r
    refine ⟨v1, vr, rfl, C, g, sl, vh, d, h, hs, r1, ?_⟩
    simp only [gsCons] at q
    cases e : γ d sl vh with
    | none => rw [e] at q; exact q.elim
    | some p =>
      obtain ⟨sl', vh'⟩ := p
      rw [e] at q
      intro g1 H1 σ1 h1 s1 x1 w1
      refine ⟨C, g1, sl', vh', ds, h1, s1, Reps.mono x1 _ _ r2, ?_⟩
      dsimp only at q
      cases e2 : γs ds sl' vh' with
      | none => rw [e2] at q; exact q.elim
      | some p2 =>
        obtain ⟨sl2, vh2⟩ := p2
        rw [e2] at q
        exact fun g2 H2 σ2 h2 s2 x2 w2 => q g2 H2 σ2 h2 s2 (x1.trans x2) fun vs hv => (w2 vs fun i hi => hv i (List.mem_append_right _ hi)).trans (w1 vs fun i hi => hv i (List.mem_append_left _ hi))
theorem dgs_star {tg : Expr} {tgs : List Expr} {γ : GF} {γs : GFs} {ix js : List Nat} {p : Pos} (h1 : DG W X tg γ ix) (h2 : DGs W X tgs γs js) (hs : (assignEach (.Starred tg p :: tgs) X.env).map (·.2) = assign tg X.env :: (assignEach tgs X.env).map (·.2) := by rfl) :
    DGs W X (.Starred tg p :: tgs) (gsCons γ γs) (ix ++ js) := pgs_imp (pgs_consS h1 h2 hs) fun v σ H Q t => gcons_imp rfl rfl t
/-- the rest by value, or laid -/
def gStr (n i : Nat) (γs : GFs) : GF := fun d sl vh => match view vh d with
  | .tup xs => if n ≤ xs.length + 1 ∧ xs.length ≤ 16384 then γs (xs.take i ++ [.lst (restL n i xs)] ++ lastL n i xs) sl vh else none
  | .lst xs => if n ≤ xs.length + 1 ∧ xs.length ≤ 16384 then γs (xs.take i ++ [.lst (restL n i xs)] ++ lastL n i xs) sl vh else none
  | _ => none
def gStrH (n i : Nat) (γs : GFs) : GF := fun d sl vh => match view vh d with
  | .tup xs => if n ≤ xs.length + 1 ∧ xs.length ≤ 16384 then γs (xs.take i ++ [.ref vh.length] ++ lastL n i xs) sl (vh ++ [.lst (restL n i xs)]) else none
  | .lst xs => if n ≤ xs.length + 1 ∧ xs.length ≤ 16384 then γs (xs.take i ++ [.ref vh.length] ++ lastL n i xs) sl (vh ++ [.lst (restL n i xs)]) else none
  | _ => none
theorem PostG.from {ix : List Nat} {g g' : Gh} {H H' : Hp} {r : Option (Sl × VH)} {Q : L2.St → Hp → Prop} (x : Ext g H g' H') (q : PostG W C ix g H σ r Q) : PostG W C ix g' H' σ r Q := by
  cases r with
  | none => exact q
  | some p => exact fun g2 H2 σ2 h2 s2 x2 w2 => q g2 H2 σ2 h2 s2 (x.trans x2) w2
theorem star_items {n i : Nat} {xs : List D} {vs : List V} {d : D} {v : V} (r : Reps W g H xs vs) (rd : Rep W g H d v) : Reps W g H (xs.take i ++ [d] ++ lastL n i xs) (vs.take i ++ [v] ++ lastL n i vs) := by
  unfold lastL
  rw [r.length]
  exact ((r.take i).append (Reps.one rd)).append ((r.drop i).drop _)
theorem dg_star {es : List Expr} {kk : Nat} {γs : GFs} {n i : Nat} {ix : List Nat} (cz : Cz W Wx k X) (h : DGs W X es γs ix) (hn : (assignEach es X.env).length = n := by rfl) (hst : (assignEach es X.env).findIdx? (·.1) = some i := by rfl) (hi : i < n := by decide) :
    DG W X (.Tuple es kk pos) (gStr n i γs) ix :=
  pg_imp (pg_star cz.calm h hn hst hi) fun v σ H Q ⟨C, g, sl, vh, d, h, hs, r, q⟩ => by
    have rx := h.view r
    unfold gStr at q
    have fin : ∀ (a : Addr) (xs : List D) (vs : List V), v = .ref a → (SqT X.K H a vs ∨ SqL X.K H a vs) → Reps W g H xs vs → PostG W C ix g H σ (if n ≤ xs.length + 1 ∧ xs.length ≤ 16384 then γs (xs.take i ++ [.lst (restL n i xs)] ++ lastL n i xs) sl vh else none) Q →
        gStar X.K n i (TDGs W γs ix) v σ H Q := by
      rintro a xs vs rfl t rr q
      split at q
      · rename_i hc
        refine ⟨a, vs, rfl, t, by rw [← rr.length]; exact hc.1, by rw [← rr.length]; exact hc.2, fun p np => ?_⟩
        have rm : Reps W g H (restL n i xs) (restL n i vs) := by
          unfold restL
          rw [rr.length]
          exact (rr.drop i).take _
        have x := (Ext.new (u := .lst (restL n i vs)) h np).trans (Ext.add g _ p)
        refine ⟨C, g.add p, sl, vh, _, h.addv np, hs.mono x, star_items (Reps.mono x _ _ rr) ?_, q.from x⟩
        simp only [Rep]
        exact ⟨p, _, rfl, .inr rfl, upd_same, Reps.mono x _ _ rm⟩
      · exact q.elim
    cases e : view vh d with
    | tup xs =>
      rw [e] at q rx
      obtain ⟨a, vs, rfl, t, rr⟩ := rx.tup
      exact fin a xs vs rfl (.inl (by rw [cz.K]; exact t)) rr q
    | lst xs =>
      rw [e] at q rx
      obtain ⟨a, vs, rfl, t, rr⟩ := rx.lst
      exact fin a xs vs rfl (.inr (SqL.of t)) rr q
    | _ => rw [e] at q; exact q.elim
theorem dg_starH {es : List Expr} {kk : Nat} {γs : GFs} {n i : Nat} {ix : List Nat} (cz : Cz W Wx k X) (h : DGs W X es γs ix) (hn : (assignEach es X.env).length = n := by rfl) (hst : (assignEach es X.env).findIdx? (·.1) = some i := by rfl) (hi : i < n := by decide) :
    DG W X (.Tuple es kk pos) (gStrH n i γs) ix :=
  pg_imp (pg_star cz.calm h hn hst hi) fun v σ H Q ⟨C, g, sl, vh, d, h, hs, r, q⟩ => by
    have rx := h.view r
    unfold gStrH at q
    have fin : ∀ (a : Addr) (xs : List D) (vs : List V), v = .ref a → (SqT X.K H a vs ∨ SqL X.K H a vs) → Reps W g H xs vs → PostG W C ix g H σ (if n ≤ xs.length + 1 ∧ xs.length ≤ 16384 then γs (xs.take i ++ [.ref vh.length] ++ lastL n i xs) sl (vh ++ [.lst (restL n i xs)]) else none) Q →
        gStar X.K n i (TDGs W γs ix) v σ H Q := by
      rintro a xs vs rfl t rr q
      split at q
      · rename_i hc
        refine ⟨a, vs, rfl, t, by rw [← rr.length]; exact hc.1, by rw [← rr.length]; exact hc.2, fun p np => ?_⟩
        have rm : Reps W g H (restL n i xs) (restL n i vs) := by
          unfold restL
          rw [rr.length]
          exact (rr.drop i).take _
        have x1 := Ext.new (u := .lst (restL n i vs)) h np
        obtain ⟨g2, h2, x2, r2⟩ := RepE.lay (h.new np) (new_lst h np rm)
        exact ⟨C, g2, sl, _, _, h2, hs.mono (x1.trans x2), star_items (Reps.mono (x1.trans x2) _ _ rr) r2, q.from (x1.trans x2)⟩
      · exact q.elim
    cases e : view vh d with
    | tup xs =>
      rw [e] at q rx
      obtain ⟨a, vs, rfl, t, rr⟩ := rx.tup
      exact fin a xs vs rfl (.inl (by rw [cz.K]; exact t)) rr q
    | lst xs =>
      rw [e] at q rx
      obtain ⟨a, vs, rfl, t, rr⟩ := rx.lst
      exact fin a xs vs rfl (.inr (SqL.of t)) rr q
    | _ => rw [e] at q; exact q.elim
end

/-! ### the module's values -/
mutual
def valB (K : PySem.W.Frag) : D → Value → Bool
  | .non, .none => true
  | .bl b, .bool c => b == c
  | .int i, .int j _ => decide (i = j)
  | .str x, .str y _ => decide (x = y)
  | .tup ds, .ref a => (match K.lookup a with
    | some ⟨.type c, _, .seq its _, _⟩ => decide (c = "tuple") && (decide (its.size ≤ 16777216) && valsB K ds its.toList)
    | _ => false)
  | _, _ => false
def valsB (K : PySem.W.Frag) : List D → List Value → Bool
  | [], [] => true
  | d :: ds, u :: us => valB K d u && valsB K ds us
  | _, _ => false
end
mutual
theorem valB_ok {K : PySem.W.Frag} : ∀ {d : D} {u : Value}, valB K d u = true → ∃ v, RelV v u ∧ ∀ (W : Wd) (g : Gh) (H : Hp), W.K = K → Rep W g H d v
  | .non, u, h => by
    cases u <;> try (simp [valB] at h; done)
    exact ⟨.non, rfl, fun W g H _ => by simp only [Rep]⟩
  | .bl b, u, h => by
    cases u <;> try (simp [valB] at h; done)
    simp only [valB, beq_iff_eq] at h
    subst h
    exact ⟨.bl b, rfl, fun W g H _ => by simp only [Rep]⟩
  | .int i, u, h => by
    cases u <;> try (simp [valB] at h; done)
    simp only [valB, decide_eq_true_eq] at h
    subst h
    exact ⟨.int i, ⟨_, rfl⟩, fun W g H _ => by simp only [Rep]⟩
  | .str i, u, h => by
    cases u <;> try (simp [valB] at h; done)
    simp only [valB, decide_eq_true_eq] at h
    subst h
    exact ⟨.str i, ⟨_, rfl⟩, fun W g H _ => by simp only [Rep]⟩
  | .tup ds, u, h => by
    cases u <;> try (simp [valB] at h; done)
    rename_i a
    simp only [valB] at h
    cases q : K.lookup a with
    | none => rw [q] at h; cases h
    | some o =>
      rw [q] at h
      obtain ⟨oc, od, dt, osl⟩ := o
      cases oc with
      | type c =>
        cases dt with
        | seq its n =>
          dsimp only at h
          simp only [Bool.and_eq_true, decide_eq_true_eq] at h
          obtain ⟨h1, h2, h3⟩ := h
          obtain ⟨vs, rv, rr⟩ := valsB_ok h3
          refine ⟨.ref a, rfl, fun W g H hK => ?_⟩
          simp only [Rep]
          refine ⟨a, vs, rfl, .inr (.inr ?_), rr W g H hK⟩
          rw [hK]
          exact ⟨_, its, n, q, congrArg Value.type h1, rfl, by rw [← lim_eq, lim_val]; exact h2, rv⟩
        | _ => cases h
      | _ => cases dt <;> cases h
  | .lst _, u, h => by cases u <;> simp [valB] at h
  | .dct _, u, h => by cases u <;> simp [valB] at h
  | .st _, u, h => by cases u <;> simp [valB] at h
  | .ins _ _, u, h => by cases u <;> simp [valB] at h
  | .ref _, u, h => by cases u <;> simp [valB] at h
  | .fn _, u, h => by cases u <;> simp [valB] at h
  | .cls _, u, h => by cases u <;> simp [valB] at h
  | .ty _, u, h => by cases u <;> simp [valB] at h
  | .scr _, u, h => by cases u <;> simp [valB] at h
theorem valsB_ok {K : PySem.W.Frag} : ∀ {ds : List D} {us : List Value}, valsB K ds us = true → ∃ vs, Vals vs us ∧ ∀ (W : Wd) (g : Gh) (H : Hp), W.K = K → Reps W g H ds vs
  | [], us, h => by
    cases us with
    | nil => exact ⟨[], .nil, fun W g H _ => Reps.nil⟩
    | cons _ _ => simp [valsB] at h
  | d :: ds, us, h => by
    cases us with
    | nil => simp [valsB] at h
    | cons u us =>
      simp only [valsB, Bool.and_eq_true] at h
      obtain ⟨v, r1, q1⟩ := valB_ok h.1
      obtain ⟨vs, r2, q2⟩ := valsB_ok h.2
      exact ⟨v :: vs, .cons r1 r2, fun W g H e => Reps.cons (q1 W g H e) (q2 W g H e)⟩
end
/-- what a name of the module stands for -/
def GlV (K : PySem.W.Frag) (mg : Str → Option Value) (x : Str) (d : D) : Prop := ∃ u v, mg x = some u ∧ RelV v u ∧ ∀ (W : Wd) (g : Gh) (H : Hp), W.K = K → Rep W g H d v
def glB (K : PySem.W.Frag) (x : Str) (d : D) : Bool := match PySem.W.nsIn K mainGlobals x with
  | some (some u) => valB K d u
  | _ => false
theorem glV_of {K : PySem.W.Frag} {h : Heap} {mg : Str → Option Value} {x : Str} {d : D} (X : K.In h) (G : h.Ns mainGlobals mg) (c : glB K x d = true) : GlV K mg x d := by
  unfold glB at c
  cases q : PySem.W.nsIn K mainGlobals x with
  | none => rw [q] at c; cases c
  | some o =>
    cases o with
    | none => rw [q] at c; cases c
    | some u =>
      rw [q] at c
      obtain ⟨v, r, rr⟩ := valB_ok c
      exact ⟨u, v, PySem.W.mg_of X G q, r, rr⟩
theorem de_glv {W : Wd} {Wx : WX} {X : Cx} {x : Str} {p : Pos} {d : D} (hK : X.K = W.K) (hg : Gl X x) (c : GlV W.K X.mg x d) (hd : (x == ("__debug__" : Str)) = false := by decide) : DE W Wx X (.Name x p) (eCon d) := by
  obtain ⟨u, v, e, r, rr⟩ := c
  exact de_con (pe_glob hg e r hd) fun g H => rr W g H rfl

theorem ex_at {l : List (PySem.W.Frag → Bool)} {K : PySem.W.Frag} (h : (l.all fun f => f K) = true) (i : Nat) {f : PySem.W.Frag → Bool} (e : l[i]? = some f) : f K = true :=
  List.all_eq_true.mp h f (List.mem_of_getElem? e)
/-! ### all, any -/
def blsOf : List D → Option (List Bool)
  | [] => some []
  | .bl b :: r => (blsOf r).map (b :: ·)
  | _ => none
def bAll : D → Option EV
  | .lst xs => (blsOf xs).map fun bs => .v (.bl (bs.all id))
  | _ => none
def bAny : D → Option EV
  | .lst xs => (blsOf xs).map fun bs => .v (.bl (bs.any id))
  | _ => none
section
variable {W : Wd} {C : Con} {Wx : WX} {X : Cx} {k : Nat} {g g0 : Gh} {H H0 : Hp} {σ : L2.St} {sl : Sl} {vh : VH} {φ ψ χ : EF} {pos p0 : Pos} {a b : Expr}
theorem blsOf_rep : ∀ {xs : List D} {vs : List V} {bs : List Bool}, Reps W g H xs vs → blsOf xs = some bs → vs = bs.map V.bl
  | [], vs, bs, r, e => by simp only [Reps] at r; simp only [blsOf, Option.some.injEq] at e; subst r e; rfl
  | x :: xs, vs, bs, r, e => by
    simp only [Reps] at r
    obtain ⟨v, vr, rfl, r1, r2⟩ := r
    cases x with
    | bl b =>
      simp only [blsOf, Option.map_eq_some_iff] at e
      obtain ⟨l, e1, rfl⟩ := e
      rw [blsOf_rep r2 e1]
      simp only [Rep] at r1
      rw [r1]
      rfl
    | _ => cases e
theorem p_all (hK : X.K = W.K) : Prim1 W X (fun x H Q => ∃ (a : Addr) (bs : List Bool), [x] = [V.ref a] ∧ SqL X.K H a (bs.map V.bl) ∧ Q (.bl (bs.all id)) H) bAll := by
  intro C g H vh dx x Q h rx q s
  cases dx <;> try (simp [bAll] at s; done)
  obtain ⟨a, vs, rfl, h1, r1⟩ := rx.lst
  obtain ⟨bs, e⟩ := opt_map_some s
  have := blsOf_rep r1 e
  subst this
  exact ⟨a, bs, rfl, SqL.of h1, q (.v (.bl (bs.all id))) (by simp only [bAll, e, Option.map_some]) g H _ h (Ext.refl g H) (by simp only [RepE, Rep])⟩
theorem p_any (hK : X.K = W.K) : Prim1 W X (fun x H Q => ∃ (a : Addr) (bs : List Bool), [x] = [V.ref a] ∧ SqL X.K H a (bs.map V.bl) ∧ Q (.bl (bs.any id)) H) bAny := by
  intro C g H vh dx x Q h rx q s
  cases dx <;> try (simp [bAny] at s; done)
  obtain ⟨a, vs, rfl, h1, r1⟩ := rx.lst
  obtain ⟨bs, e⟩ := opt_map_some s
  have := blsOf_rep r1 e
  subst this
  exact ⟨a, bs, rfl, SqL.of h1, q (.v (.bl (bs.any id))) (by simp only [bAny, e, Option.map_some]) g H _ h (Ext.refl g H) (by simp only [RepE, Rep])⟩
theorem de_all (hK : X.K = W.K) (hc : X.calm = true) (hg : Gl X "all") (hm : X.mg "all" = none) (ha : DE W Wx X a φ) (he : starEach (a :: []) X.env = (false, eval a X.env) :: starEach [] X.env := by rfl) : DE W Wx X (.Call (.Name "all" p0) [a] [] pos) (e1 bAll φ) :=
  de_b1 (cr_all hc) (p_all hK) hg hm ha (he := he)
theorem de_any (hK : X.K = W.K) (hc : X.calm = true) (hg : Gl X "any") (hm : X.mg "any" = none) (ha : DE W Wx X a φ) (he : starEach (a :: []) X.env = (false, eval a X.env) :: starEach [] X.env := by rfl) : DE W Wx X (.Call (.Name "any" p0) [a] [] pos) (e1 bAny φ) :=
  de_b1 (cr_any hc) (p_any hK) hg hm ha (he := he)
end
end
end PM

/-! PM18: more rows to reckon by: lengths within bounds. -/
namespace PM
open PySem L2
noncomputable section
@[simp] theorem pT_0 : pTup [] = some (.v (.tup [])) := if_pos (by rw [lim_val]; exact Nat.le_of_ble_eq_true rfl)
@[simp] theorem pL_0 : pLst [] = some (.f (.lst [])) := if_pos (by rw [lim_val]; exact Nat.le_of_ble_eq_true rfl)
@[simp] theorem pT_1 {a0 : D} : pTup [a0] = some (.v (.tup [a0])) := if_pos (by rw [lim_val]; exact Nat.le_of_ble_eq_true rfl)
@[simp] theorem pL_1 {a0 : D} : pLst [a0] = some (.f (.lst [a0])) := if_pos (by rw [lim_val]; exact Nat.le_of_ble_eq_true rfl)
@[simp] theorem pT_2 {a0 a1 : D} : pTup [a0, a1] = some (.v (.tup [a0, a1])) := if_pos (by rw [lim_val]; exact Nat.le_of_ble_eq_true rfl)
@[simp] theorem pL_2 {a0 a1 : D} : pLst [a0, a1] = some (.f (.lst [a0, a1])) := if_pos (by rw [lim_val]; exact Nat.le_of_ble_eq_true rfl)
@[simp] theorem pT_3 {a0 a1 a2 : D} : pTup [a0, a1, a2] = some (.v (.tup [a0, a1, a2])) := if_pos (by rw [lim_val]; exact Nat.le_of_ble_eq_true rfl)
@[simp] theorem pL_3 {a0 a1 a2 : D} : pLst [a0, a1, a2] = some (.f (.lst [a0, a1, a2])) := if_pos (by rw [lim_val]; exact Nat.le_of_ble_eq_true rfl)
@[simp] theorem pT_4 {a0 a1 a2 a3 : D} : pTup [a0, a1, a2, a3] = some (.v (.tup [a0, a1, a2, a3])) := if_pos (by rw [lim_val]; exact Nat.le_of_ble_eq_true rfl)
@[simp] theorem pL_4 {a0 a1 a2 a3 : D} : pLst [a0, a1, a2, a3] = some (.f (.lst [a0, a1, a2, a3])) := if_pos (by rw [lim_val]; exact Nat.le_of_ble_eq_true rfl)
@[simp] theorem pT_5 {a0 a1 a2 a3 a4 : D} : pTup [a0, a1, a2, a3, a4] = some (.v (.tup [a0, a1, a2, a3, a4])) := if_pos (by rw [lim_val]; exact Nat.le_of_ble_eq_true rfl)
@[simp] theorem pL_5 {a0 a1 a2 a3 a4 : D} : pLst [a0, a1, a2, a3, a4] = some (.f (.lst [a0, a1, a2, a3, a4])) := if_pos (by rw [lim_val]; exact Nat.le_of_ble_eq_true rfl)
@[simp] theorem pT_6 {a0 a1 a2 a3 a4 a5 : D} : pTup [a0, a1, a2, a3, a4, a5] = some (.v (.tup [a0, a1, a2, a3, a4, a5])) := if_pos (by rw [lim_val]; exact Nat.le_of_ble_eq_true rfl)
@[simp] theorem pL_6 {a0 a1 a2 a3 a4 a5 : D} : pLst [a0, a1, a2, a3, a4, a5] = some (.f (.lst [a0, a1, a2, a3, a4, a5])) := if_pos (by rw [lim_val]; exact Nat.le_of_ble_eq_true rfl)
@[simp] theorem pT_7 {a0 a1 a2 a3 a4 a5 a6 : D} : pTup [a0, a1, a2, a3, a4, a5, a6] = some (.v (.tup [a0, a1, a2, a3, a4, a5, a6])) := if_pos (by rw [lim_val]; exact Nat.le_of_ble_eq_true rfl)
@[simp] theorem pL_7 {a0 a1 a2 a3 a4 a5 a6 : D} : pLst [a0, a1, a2, a3, a4, a5, a6] = some (.f (.lst [a0, a1, a2, a3, a4, a5, a6])) := if_pos (by rw [lim_val]; exact Nat.le_of_ble_eq_true rfl)
@[simp] theorem pT_8 {a0 a1 a2 a3 a4 a5 a6 a7 : D} : pTup [a0, a1, a2, a3, a4, a5, a6, a7] = some (.v (.tup [a0, a1, a2, a3, a4, a5, a6, a7])) := if_pos (by rw [lim_val]; exact Nat.le_of_ble_eq_true rfl)
@[simp] theorem pL_8 {a0 a1 a2 a3 a4 a5 a6 a7 : D} : pLst [a0, a1, a2, a3, a4, a5, a6, a7] = some (.f (.lst [a0, a1, a2, a3, a4, a5, a6, a7])) := if_pos (by rw [lim_val]; exact Nat.le_of_ble_eq_true rfl)
theorem le_lim {n : Nat} (h : n ≤ 16000000) : n ≤ lim := Nat.le_trans h (by rw [lim_val]; exact Nat.le_of_ble_eq_true rfl)
theorem lt_lim {n : Nat} (h : n < 16000000) : n < lim := Nat.lt_of_lt_of_le h (by rw [lim_val]; exact Nat.le_of_ble_eq_true rfl)
@[simp] theorem le_limS {n : Nat} (h : n ≤ 16000000) : (n ≤ lim) = True := eq_true (le_lim h)
@[simp] theorem lt_limS {n : Nat} (h : n < 16000000) : (n < lim) = True := eq_true (lt_lim h)
theorem o_mulL {l : List D} {k : Nat} (hk : k < 1000) (h : l.length * k ≤ 16000000) : opMul (.lst l) (.int k) = some (.f (.lst (List.replicate k l).flatten)) := by
  have e : (k : Int).toNat = k := Int.toNat_natCast k
  show (if (((k : Int) < 1000000 ∧ -1000000 < (k : Int)) ∧ l.length * (k : Int).toNat ≤ lim) then some (EV.f (.lst (List.replicate (k : Int).toNat l).flatten)) else none) = _
  rw [e, if_pos ⟨⟨by omega, by omega⟩, le_lim h⟩]
theorem lc0 {gd : Option (Nat × O)} {γ : GF} {τ : TF} {φ : EF} {sl : Sl} {acc : List D} {vh : VH} : lcLoop gd γ τ φ sl [] acc vh = if gdB gd vh = true then .ok acc vh else .bad := rfl
theorem lc1 {γ : GF} {φ : EF} {sl : Sl} {d : D} {ds acc : List D} {vh : VH} : lcLoop none γ tYesF φ sl (d :: ds) acc vh = (match γ d sl vh with
    | none => .bad
    | some (sl', vh1) => match φ sl' vh1 with
      | .ok e vh3 => if acc.length < lim then lcLoop none γ tYesF φ sl ds (acc ++ [e.d]) vh3 else .bad
      | _ => .bad) := by
  conv => lhs; unfold lcLoop
  simp only [x_gdN, if_true]
  cases γ d sl vh with
  | none => rfl
  | some p =>
    obtain ⟨a, b⟩ := p
    simp only [x_yes]
    all_goals (cases φ a b <;> rfl)
end
end PM

/-! PM19: instances: fields written, methods, making. -/
namespace PM
open PySem L2
noncomputable section

def fput (f : Str) (d : D) : List (Str × D) → List (Str × D)
  | [] => [(f, d)]
  | (g, x) :: r => if g = f then (g, d) :: r else (g, x) :: fput f d r
def ofld (fa : Nat → Str → Bool) (f : Str) (d : D) : O → Option O
  | .ins c fs => if fa c f = true ∧ fs.length < 1000 then some (.ins c (fput f d fs)) else none
  | _ => none
def dfst (fa : Nat → Str → Bool) (f : Str) (o d : D) (vh : VH) : Option VH := match o with
  | .ref n => (vh[n]?).bind fun u => (ofld fa f d u).map fun u' => vh.set n u'
  | _ => none
/-- o.f = .. -/
def gFld (fa : Nat → Str → Bool) (f : Str) (φ : EF) : GF := fun d sl vh => match φ sl vh with
  | .ok ev vh1 => (dfst fa f ev.d d vh1).map fun vh2 => (sl, vh2)
  | _ => none
section
variable {W : Wd} {C : Con} {Wx : WX} {X : Cx} {k : Nat} {g g0 : Gh} {H H0 : Hp} {σ : L2.St} {sl : Sl} {vh : VH} {φ ψ χ : EF} {δ ε : SF} {τ : TF} {pos : Pos} {e a b o : Expr} {st : Stmt} {rest : List Stmt} {fa : Nat → Str → Bool} {f : Str}
theorem RepFs.length : ∀ {fs : List (Str × D)} {ws : List (Str × V)}, RepFs W g H fs ws → fs.length = ws.length
  | [], ws, r => by simp only [RepFs] at r; subst r; rfl
  | (k, d) :: fs, ws, r => by
    simp only [RepFs] at r
    obtain ⟨v, s, rfl, _, h2⟩ := r
    simp [RepFs.length h2]
theorem RepFs.put {d : D} {v : V} (rd : Rep W g H d v) : ∀ {fs : List (Str × D)} {ws : List (Str × V)}, RepFs W g H fs ws → RepFs W g H (fput f d fs) (putF f v ws)
  | [], ws, r => by
    simp only [RepFs] at r
    subst r
    simp only [fput, putF, RepFs]
    exact ⟨v, [], rfl, rd, rfl⟩
  | (k, x) :: fs, ws, r => by
    simp only [RepFs] at r
    obtain ⟨w, s, rfl, h1, h2⟩ := r
    unfold fput putF
    by_cases hk : k = f
    · rw [if_pos hk, if_pos hk]
      simp only [RepFs]
      exact ⟨v, s, rfl, rd, h2⟩
    · rw [if_neg hk, if_neg hk]
      simp only [RepFs]
      exact ⟨w, _, rfl, h1, RepFs.put rd h2⟩
theorem dg_fld (T : Flds W X.K fa) (ha : DE W Wx X o φ) : DG W X (.Attribute o f pos) (gFld fa f φ) [] := by
  refine ⟨fun pins s σ H v u Q I r ⟨C, g, sl, vh, d, h, hs, rd, q⟩ => ?_⟩
  rw [assign_Attribute]
  have step : TDE W C Wx φ σ H (fun x H1 => ∃ n c dx gs, x = .ref (n : Addr) ∧ H1 n = some (.ins (W.cls c) dx gs) ∧ Cls X.K (W.cls c) ∧ NoAttr X.K (W.cls c) f ∧ gs.length < 1000 ∧ Q σ (upd H1 n (.ins (W.cls c) dx (putF f v gs)))) := by
    refine ⟨g, sl, vh, h, hs, ?_⟩
    unfold gFld at q
    cases e1 : φ sl vh with
    | bad => rw [e1] at q; exact q.elim
    | exc x vh' => rw [e1] at q; exact q.elim
    | ok ev vh1 =>
      rw [e1] at q
      intro g1 H1 v1 h1 s1 x1 r1
      obtain ⟨g2, h2, x2, r2⟩ := r1.freeze h1
      have xx := x1.trans x2
      have rd' := Rep.mono xx _ _ rd
      cases eo : ev.d with
      | ref n =>
        rw [eo] at r2
        simp only [Rep] at r2
        obtain ⟨hn, rfl⟩ := r2
        have hl : n < vh1.length := by rw [h2.len]; exact hn
        have ob := h2.vh n _ (List.getElem?_eq_getElem hl)
        simp only [eo, dfst, List.getElem?_eq_getElem hl, Option.bind_some] at q
        cases eu : vh1[n] with
        | ins c fs =>
          rw [eu] at q ob
          obtain ⟨dx, gs, o1, o2⟩ := ob
          simp only [ofld] at q
          split at q
          · rename_i hc
            obtain ⟨t1, t2⟩ := T.ok c f hc.1
            have xw := Ext.write (u := .ins (W.cls c) dx (putF f v gs)) h2 hn
            refine ⟨_, c, dx, gs, rfl, o1, t1, t2, by rw [← o2.length]; exact hc.2, ?_⟩
            exact q g2 _ σ (h2.write hn ⟨dx, _, upd_same, RepFs.mono xw _ _ (o2.put rd')⟩) ((s1.mono x2).mono xw) (xx.trans xw) fun _ _ => rfl
          · exact q.elim
        | _ => rw [eu] at q; exact q.elim
      | _ => simp only [eo, dfst] at q; exact q.elim
  refine wpAny_bind (wpAny_holding (thn ((ha C).run pins s σ H _ I step) fun ov s1 ⟨x, H1, I1, r1, n, c, dx, gs, ex, e1, t1, t2, hl, qq⟩ => ?_))
  subst ex
  obtain rfl : ov = Value.ref n := r1
  refine wpAny_bind (wpAny_standAt (wpAny_bind (wpAny_holding (setattr_ok I1 e1 t1 t2 hl r fun s2 I2 => ?_))))
  exact wpAny_release ⟨σ, _, I2, qq⟩
/-- t1 = t2 = value -/
def sAsg2 (φ : EF) (γ γ2 : GF) : SF := fun sl vh => match φ sl vh with
  | .ok ev vh1 => match γ ev.d sl vh1 with
    | some (sl', vh') => (match γ2 ev.d sl' vh' with
      | some (sl2, vh2) => .nx sl2 vh2
      | none => .bad)
    | none => .bad
  | .exc x vh' => .ex x sl vh'
  | .bad => .bad
theorem ds_asg2 {t1 t2 : Expr} {γ γ2 : GF} {ix jx : List Nat} (he : DE W Wx X e φ) (hg : DG W X t1 γ ix) (hg2 : DG W X t2 γ2 jx) (hs : swapsWithSole [t1, t2] e pos.line X.env = pure false := by rfl) (hw : swappedStores [t1, t2] e X.env = pure none := by rfl)
    (h1 : (assignEach [t1, t2] X.env).map (·.2) = [assign t1 X.env, assign t2 X.env] := by rfl) : DS W Wx X (.Assign [t1, t2] e pos) (sAsg2 φ γ γ2) := fun C => by
  refine ⟨fun pins s σ H En I ⟨g, sl, vh, h, hsl, q⟩ => ?_⟩
  refine wpAny_Assign_stores ?_ hs hw
  have step : TDE W C Wx φ σ H (fun v H1 => ∃ g1 vh1 d, RelH W C g1 vh1 H1 ∧ RelS W g1 H1 sl σ ∧ Ext g H g1 H1 ∧ Rep W g1 H1 d v ∧
      PostS W C Wx g H (match γ d sl vh1 with | some (sl', vh') => (match γ2 d sl' vh' with | some (sl2, vh2) => .nx sl2 vh2 | none => .bad) | none => .bad) En) := by
    refine ⟨g, sl, vh, h, hsl, ?_⟩
    unfold sAsg2 at q
    cases r : φ sl vh with
    | bad => rw [r] at q; exact q
    | exc x vh' => rw [r] at q; exact fun g1 H1 c od a b d e => q g1 H1 σ c od a b d e
    | ok ev vh' =>
      rw [r] at q
      intro g1 H1 v1 h1 s1 x1 r1
      obtain ⟨g2, h2, x2, r2⟩ := r1.freeze h1
      exact ⟨g2, vh', ev.d, h2, s1.mono x2, x1.trans x2, r2, q⟩
  refine thn ((he C).run pins s σ H _ I step) fun u s1 ⟨v, H1, I1, rv, g1, vh1, d, k1, k2, k3, k4, qq⟩ => ?_
  rw [h1]
  cases e1 : γ d sl vh1 with
  | none => rw [e1] at qq; exact qq.elim
  | some p =>
    obtain ⟨sl', vh'⟩ := p
    rw [e1] at qq
    dsimp only at qq
    show wpAny _ _ (do holding [u] (assign t1 X.env u); assignAll u [assign t2 X.env]) _ _ _
    refine wpAny_bind (wpAny_holding (thn (hg.run pins s1 σ H1 v u (fun σ2 H2 => ∃ g2, RelH W C g2 vh' H2 ∧ RelS W g2 H2 sl' σ2 ∧ Ext g1 H1 g2 H2) I1 rv ⟨C, g1, sl, vh1, d, k1, k2, k4, by rw [e1]; exact fun g2 H2 σ2 a b c _ => ⟨g2, a, b, c⟩⟩) ?_))
    rintro _ s2 ⟨σ2, H2, I2, g2, a2, b2, c2⟩
    cases e2 : γ2 d sl' vh' with
    | none => rw [e2] at qq; exact qq.elim
    | some p2 =>
      obtain ⟨sl2, vh2⟩ := p2
      rw [e2] at qq
      show wpAny _ _ (assign t2 X.env u) _ _ _
      refine thn (hg2.run pins s2 σ2 H2 v u En.nx I2 rv ⟨C, g2, sl', vh', d, a2, b2, Rep.mono c2 _ _ k4, by rw [e2]; exact fun g3 H3 σ3 a b c _ => qq g3 H3 σ3 a b ((k3.trans c2).trans c)⟩) ?_
      rintro _ s3 ⟨σ3, H3, I3, q3⟩
      exact ⟨σ3, H3, I3, q3⟩
end

/-! ### methods of own classes -/
def isIns (c : Nat) (m : Str) : D → Bool
  | .ins c' fs => c' == c && (fget fs m).isNone
  | _ => false
/-- o.m(..): α the arguments, keywords among them -/
def dMeth (c : Nat) (m : Str) (arr : List D → List D) (Φ : Den) (φ : EF) (α : AF) : EF := eb φ fun d sl vh => if isIns c m (view vh d) = true then
  (match α sl vh with
    | .ok ds vh' => (match Φ (arr (d :: ds)) vh' with
      | .ok r vh2 => .ok (.v r) vh2
      | .exc x vh2 => .exc x vh2
      | .bad => .bad)
    | .exc x vh' => .exc x vh'
    | .bad => .bad) else .bad
section
variable {W : Wd} {C : Con} {Wx : WX} {X : Cx} {g g0 : Gh} {H H0 : Hp} {σ : L2.St} {sl : Sl} {vh : VH} {k np cid : Nat} {f : Addr} {fd : FuncData} {ps ks : List Str} {Φ : Den} {arr : List D → List D} {α β : AF} {φ : EF} {x m : Str} {p pos apos kpos : Pos} {o e : Expr} {es : List Expr} {kws : List Keyword} {pl : Sem Bool}
theorem RepFs.none : ∀ {fs : List (Str × D)} {ws : List (Str × V)} {f : Str}, RepFs W g H fs ws → fget fs f = none → ws.lookup f = none
  | [], ws, f, r, _ => by simp only [RepFs] at r; subst r; rfl
  | (k, x) :: fs, ws, f, r, e => by
    simp only [RepFs] at r
    obtain ⟨v, s, rfl, h1, h2⟩ := r
    unfold fget at e
    by_cases hk : f = k
    · rw [if_pos hk] at e; cases e
    · rw [if_neg hk] at e
      rw [List.lookup_cons, beq_eq_false_iff_ne.mpr hk]
      exact RepFs.none h2 e
theorem ins_of (h : RelH W C g vh H) {d : D} {v : V} (r : Rep W g H d v) (t : isIns cid m (view vh d) = true) : ∃ a dx gs, v = .ref a ∧ H a = some (.ins (W.cls cid) dx gs) ∧ gs.lookup m = none := by
  have rx := h.view r
  cases e : view vh d with
  | ins c fs =>
    rw [e] at rx t
    obtain ⟨a, dx, gs, rfl, h1, r1⟩ := rx.ins
    simp only [isIns, Bool.and_eq_true, beq_iff_eq, Option.isNone_iff_eq_none] at t
    obtain ⟨rfl, t⟩ := t
    exact ⟨a, dx, gs, rfl, h1, r1.none t⟩
  | _ => rw [e] at t; cases t
/-- the receiver has come; what then is wanted of the arguments -/
theorem meth_imp (h : RelH W C g vh H) (hs : RelS W g H sl σ) {Q : VK} (q : PostE W C Wx g H σ sl (dMeth cid m arr Φ φ α sl vh) Q) :
    TDE W C Wx φ σ H fun x H1 => ∃ a dx gs, x = .ref a ∧ H1 a = some (.ins (W.cls cid) dx gs) ∧ gs.lookup m = none ∧ TDA W C Wx α σ H1 fun vs H2 => ∃ g2 vh2 d ds, RelH W C g2 vh2 H2 ∧ RelS W g2 H2 sl σ ∧ Ext g H g2 H2 ∧ Rep W g2 H2 d (.ref a) ∧ Reps W g2 H2 ds vs ∧
      PostE W C Wx g H σ sl (match Φ (arr (d :: ds)) vh2 with | .ok r vh2 => .ok (.v r) vh2 | .exc x vh2 => .exc x vh2 | .bad => .bad) Q := by
  refine (TDE.bind h hs (Ext.refl g H) q).mono fun v1 H1 ⟨g2, vh2, d1, i2, s2, x2, x2', p2, q2⟩ => ?_
  split at q2
  · rename_i ht
    obtain ⟨a, dx, gs, rfl, h1, l⟩ := ins_of i2 p2 ht
    refine ⟨a, dx, gs, rfl, h1, l, g2, sl, vh2, i2, s2, ?_⟩
    cases r : α sl vh2 with
    | bad => rw [r] at q2; exact q2
    | exc x vh' => rw [r] at q2; exact fun g3 H3 c od h3 s3 x3 p3 => q2 g3 H3 c od h3 s3 (x2.trans x3) p3
    | ok ds vh' => rw [r] at q2; exact fun g3 H3 vs h3 s3 x3 p3 => ⟨g3, vh', d1, ds, h3, s3, x2.trans x3, Rep.mono x3 _ _ p2, p3, q2⟩
  · exact q2.elim
theorem de_meth0 (cz : Cz W Wx k X) (c : Cls W.K (W.cls cid)) (hm : Meth W.K (W.cls cid) m f) (F : PFn W X.prog X.w X.mg X.base k f fd ps Φ) (pt : Pat W fd ps 1 [] arr) (ho : DE W Wx X o φ)
    (ht : eval (.Call (.Attribute o m apos) [] [] pos) X.env = (do
      let ov ← eval o X.env
      standAt apos.atName
      let (f, first) ← holding [ov] (getMethod ov m pl)
      callWith pos f first (backTo pos (starEach [] X.env)) (backToKw pos (keywordEach [] X.env))) := by rfl) :
    DE W Wx X (.Call (.Attribute o m apos) [] [] pos) (dMeth cid m arr Φ φ aNil) := fun C => by
  refine ⟨fun pins s σ H Q I ⟨g, sl, vh, h, hs, q⟩ => ?_⟩
  refine PySem.W.methodCall_KW (pl := pl) (thn ((ho C).run pins s σ H _ I (meth_imp h hs q)) fun u s1 ⟨x, H1, I1, rx, a, dx, gs, ex, ea, l, g1, sl1, vh1, k1, k2, k3⟩ => ?_) ht
  subst ex
  obtain rfl : u = Value.ref a := rx
  refine getmeth_ok I1 ea (by rw [cz.K]; exact c) (by rw [cz.K]; exact hm) l ?_
  obtain ⟨g2, vh2, d, ds, h2, s2, x2, rd, rs, qq⟩ := k3 g1 H1 [] k1 k2 (Ext.refl g1 H1) Reps.nil
  have e0 : ds = [] := List.eq_nil_of_length_eq_zero rs.length
  subst e0
  exact PySem.W.callWith_K0 (first := [.ref a]) I1.kIn (by rw [cz.K]; exact hm.kp) (run_pfn (us := [.ref a]) (ws := []) (ks := []) (ds := [d]) cz F pt I1 h2 s2 x2 rfl rfl (Reps.one rd) (.cons rfl .nil) qq)
theorem de_meth (cz : Cz W Wx k X) (c : Cls W.K (W.cls cid)) (hm : Meth W.K (W.cls cid) m f) (F : PFn W X.prog X.w X.mg X.base k f fd ps Φ) (pt : Pat W fd ps (np + 1) [] arr) (ho : DE W Wx X o φ) (ha : DA W Wx X (e :: es) α)
    (hst : starEach (e :: es) X.env = (false, eval e X.env) :: starEach es X.env := by rfl) (hpl : (backTo pos (starEach es X.env)).any (·.1) = false := by rfl)
    (ht : eval (.Call (.Attribute o m apos) (e :: es) [] pos) X.env = (do
      let ov ← eval o X.env
      standAt apos.atName
      let (f, first) ← holding [ov] (getMethod ov m pl)
      callWith pos f first (backTo pos (starEach (e :: es) X.env)) (backToKw pos (keywordEach [] X.env))) := by rfl) (hal : ∀ sl vh ds vh', α sl vh = .ok ds vh' → ds.length = np) :
    DE W Wx X (.Call (.Attribute o m apos) (e :: es) [] pos) (dMeth cid m arr Φ φ α) := fun C => by
  refine ⟨fun pins s σ H Q I ⟨g, sl, vh, h, hs, q⟩ => ?_⟩
  refine PySem.W.methodCall_KW (pl := pl) (thn ((ho C).run pins s σ H _ I (meth_imp h hs q)) fun u s1 ⟨x, H1, I1, rx, a, dx, gs, ex, ea, l, t⟩ => ?_) ht
  subst ex
  obtain rfl : u = Value.ref a := rx
  refine getmeth_ok I1 ea (by rw [cz.K]; exact c) (by rw [cz.K]; exact hm) l ?_
  obtain ⟨g1, sl1, vh1, k1, k2, k3⟩ := t
  have T : TDA W C Wx α σ H1 (fun vs H2 => vs.length = np ∧ ∃ g2 vh2 d ds, RelH W C g2 vh2 H2 ∧ RelS W g2 H2 sl σ ∧ Ext g H g2 H2 ∧ Rep W g2 H2 d (.ref a) ∧ Reps W g2 H2 ds vs ∧
      PostE W C Wx g H σ sl (match Φ (arr (d :: ds)) vh2 with | .ok r vh2 => .ok (.v r) vh2 | .exc x vh2 => .exc x vh2 | .bad => .bad) Q) := by
    refine ⟨g1, sl1, vh1, k1, k2, ?_⟩
    cases r : α sl1 vh1 with
    | bad => rw [r] at k3; exact k3
    | exc x vh' => rw [r] at k3; exact k3
    | ok ds vh' => rw [r] at k3; exact fun g3 H3 vs h3 s3 x3 p3 => ⟨by rw [← p3.length]; exact hal _ _ _ _ r, k3 g3 H3 vs h3 s3 x3 p3⟩
  refine PySem.W.callWith_K (first := [.ref a]) (h₀ := X.base) I.ok.mod.kin (by rw [cz.K]; exact hm.kp) (thn ((ha C).run pos pins s1 σ H1 _ I1 T) ?_) hst hpl
  rintro us s2 ⟨vs, H2, I2, r, ln, g2, vh2, d, ds, h2, s2', x2, rd, rs, qq⟩
  exact ⟨I2.kIn, run_pfn (us := .ref a :: us) (ws := []) (ks := []) (ds := d :: ds) cz F pt I2 h2 s2' x2 (by rw [List.length_cons, ← r.length, ln]) rfl (Reps.cons rd rs) (by rw [List.append_nil]; exact .cons rfl r) qq⟩
theorem de_methK0 (cz : Cz W Wx k X) (c : Cls W.K (W.cls cid)) (hm : Meth W.K (W.cls cid) m f) (F : PFn W X.prog X.w X.mg X.base k f fd ps Φ) (pt : Pat W fd ps 1 ks arr) (ho : DE W Wx X o φ) (hb : DK W Wx X kws β)
    (hall : (backToKw pos (keywordEach kws X.env)).all (·.1.isSome) = true := by rfl) (hks : (backToKw pos (keywordEach kws X.env)).filterMap (·.1) = ks := by rfl)
    (hpl : ((backTo pos (starEach [] X.env)).any (·.1) || (backToKw pos (keywordEach kws X.env)).any (·.1.isNone)) = false := by rfl)
    (ht : eval (.Call (.Attribute o m apos) [] kws pos) X.env = (do
      let ov ← eval o X.env
      standAt apos.atName
      let (f, first) ← holding [ov] (getMethod ov m pl)
      callWith pos f first (backTo pos (starEach [] X.env)) (backToKw pos (keywordEach kws X.env))) := by rfl) (hbl : ∀ sl vh ds vh', β sl vh = .ok ds vh' → ds.length = ks.length) :
    DE W Wx X (.Call (.Attribute o m apos) [] kws pos) (dMeth cid m arr Φ φ β) := fun C => by
  refine ⟨fun pins s σ H Q I ⟨g, sl, vh, h, hs, q⟩ => ?_⟩
  refine PySem.W.methodCall_KW (pl := pl) (thn ((ho C).run pins s σ H _ I (meth_imp h hs q)) fun u s1 ⟨x, H1, I1, rx, a, dx, gs, ex, ea, l, t⟩ => ?_) ht
  subst ex
  obtain rfl : u = Value.ref a := rx
  refine getmeth_ok I1 ea (by rw [cz.K]; exact c) (by rw [cz.K]; exact hm) l ?_
  obtain ⟨g1, sl1, vh1, k1, k2, k3⟩ := t
  have T : TDA W C Wx β σ H1 (fun vs H2 => vs.length = ks.length ∧ ∃ g2 vh2 d ds, RelH W C g2 vh2 H2 ∧ RelS W g2 H2 sl σ ∧ Ext g H g2 H2 ∧ Rep W g2 H2 d (.ref a) ∧ Reps W g2 H2 ds vs ∧
      PostE W C Wx g H σ sl (match Φ (arr (d :: ds)) vh2 with | .ok r vh2 => .ok (.v r) vh2 | .exc x vh2 => .exc x vh2 | .bad => .bad) Q) := by
    refine ⟨g1, sl1, vh1, k1, k2, ?_⟩
    cases r : β sl1 vh1 with
    | bad => rw [r] at k3; exact k3
    | exc x vh' => rw [r] at k3; exact k3
    | ok ds vh' => rw [r] at k3; exact fun g3 H3 vs h3 s3 x3 p3 => ⟨by rw [← p3.length]; exact hbl _ _ _ _ r, k3 g3 H3 vs h3 s3 x3 p3⟩
  refine PySem.W.callWith_KW0 (first := [.ref a]) (h₀ := X.base) I.ok.mod.kin (by rw [cz.K]; exact hm.kp) hall (thn ((hb C).run pos pins s1 σ H1 _ I1 T) ?_) hpl
  rintro ws s2 ⟨vs, H2, I2, r, ln, g2, vh2, d, ds, h2, s2', x2, rd, rs, qq⟩
  refine ⟨I2.kIn, ?_⟩
  rw [hks]
  exact run_pfn (us := [.ref a]) (ws := ws) (ds := d :: ds) cz F pt I2 h2 s2' x2 rfl (by rw [← r.length, ln]) (Reps.cons rd rs) (.cons rfl r) qq
end
end
end PM

/-! PM20: making instances. -/
namespace PM
open PySem L2
noncomputable section

/-- C(..): a new instance laid, then its __init__ -/
def dMake (cid : Nat) (arr : List D → List D) (Φ : Den) (α : AF) : EF := ab α fun ds _ vh => match Φ (arr (.ref vh.length :: ds)) (vh ++ [.ins cid []]) with
  | .ok .non vh' => .ok (.v (.ref vh.length)) vh'
  | .ok _ _ => .bad
  | .exc x vh' => .exc x vh'
  | .bad => .bad
theorem make_guards {A : Around} {a : Args} (hg : A.guards = some []) : (A.under (.builtin "type.__call__" a)).guards = some [] := by
  show pushGuards (Code.guards (.builtin "type.__call__" a)) A.guards = some []
  rw [hg]
  rfl
section
variable {W : Wd} {C : Con} {Wx : WX} {X : Cx} {g g0 : Gh} {H H0 : Hp} {σ : L2.St} {sl : Sl} {vh : VH} {k np cid : Nat} {f : Addr} {fd : FuncData} {ps ks : List Str} {Φ : Den} {arr : List D → List D} {α β : AF} {φ : EF} {x m : Str} {p pos apos kpos : Pos} {o e : Expr} {es : List Expr} {kws : List Keyword}
theorem run_new {pins : List (Addr × Obj)} {s : Shared} {Q : VK} {us ws : List Value} {vs : List V} {ds : List D} (cz : Cz W Wx (k + 1) X) (M : Mk W.K (W.cls cid) f) (F : PFn W X.prog X.w X.mg X.base k f fd ps Φ) (pt : Pat W fd ps (np + 1) ks arr)
    (I : Inv X pins σ H s) (h : RelH W C g vh H) (hs : RelS W g H sl σ) (e0 : Ext g0 H0 g H) (h1 : us.length = np) (h2 : ws.length = ks.length) (r : Reps W g H ds vs) (rv : Vals vs (us ++ ws))
    (q : PostE W C Wx g0 H0 σ sl (match Φ (arr (.ref vh.length :: ds)) (vh ++ [.ins cid []]) with | .ok .non vh' => .ok (.v (.ref vh.length)) vh' | .ok _ _ => .bad | .exc x vh' => .exc x vh' | .bad => .bad) Q) :
    wpAny (model X.prog X.w) X.A (call (.ref (W.cls cid)) us (ks.zip ws)) (EP X pins σ Q) X.xe s := by
  have M' : Mk X.K (W.cls cid) f := by rw [cz.K]; exact M
  let dx := s.heap.objs.size
  let a := s.heap.objs.size + 1
  have I2 := Inv.made (C := W.cls cid) I
  have n1 : H dx = none := I.hok.fresh (Nat.le_refl _)
  have ne : a ≠ dx := Nat.ne_of_gt (Nat.lt_succ_self _)
  have n2 : upd H dx (.own a) a = none := by rw [upd_ne ne]; exact I.hok.fresh (Nat.le_succ _)
  let H2 : Hp := upd (upd H dx (.own a)) a (.ins (W.cls cid) dx [])
  have R1 : RelH W C g vh (upd H dx (.own a)) := h.new n1
  have R2 : RelH W C g vh H2 := R1.new n2
  obtain ⟨f1, f2, f3⟩ := R1.free n2
  have ob : ObjAt W g H2 a (.ins cid []) := ⟨dx, [], upd_same, by simp [RepFs]⟩
  have R3 : RelH W C (g.put a) (vh ++ [.ins cid []]) H2 := R2.put ob f1 f2 f3
  have x2 : Ext g H (g.put a) H2 := ((Ext.new h n1).trans (Ext.new R1 n2)).trans (Ext.putG g H2 a)
  have rself : Rep W (g.put a) H2 (.ref vh.length) (.ref a) := by
    simp only [Rep, h.len]
    exact ⟨Nat.lt_succ_self _, by simp [Gh.put]⟩
  have KI : W.K.In ({ s with heap := (s.heap.push PySem.W.emptyDict).push (PySem.W.instObj (W.cls cid) s.heap.objs.size) } : Shared).heap := by rw [← cz.K]; exact I2.kIn
  obtain ⟨us', vs', hb, rv', r', hl⟩ := pt.ok _ (Value.ref a :: us) ws (g.put a) H2 (.ref vh.length :: ds) (.ref a :: vs) KI (by rw [List.length_cons, h1]) h2 (Reps.cons rself (Reps.mono x2 _ _ r)) (.cons rfl rv)
  have E0 : Env0 X.prog X.w W.K X.mg X.base (X.A.under (.builtin "type.__call__" ⟨.ref (W.cls cid) :: us, ks.zip ws⟩)) X.stack { s with heap := (s.heap.push PySem.W.emptyDict).push (PySem.W.instObj (W.cls cid) s.heap.objs.size) } H2 := by rw [← cz.K]; exact I2.env0.make (W.cls cid) us (ks.zip ws)
  refine wpAny_call (make_map (f := f) I.kIn M'.makes M'.init (beq_iff_eq.mp M'.fn) (codeAny_mono (F.run _ X.stack _ H2 ⟨Value.ref a :: us, ks.zip ws⟩ us' vs' (fun v H3 => v = .non ∧ Q (.ref a) H3) (fun c od H' => Wx c od σ H') (cz.rm.make _ us (ks.zip ws)) (make_guards cz.gd) E0 hb rv'
    ⟨g.put a, arr (.ref vh.length :: ds), vh ++ [.ins cid []], R3.call, r', hl, ?_⟩) ?_))
  · cases e : Φ (arr (.ref vh.length :: ds)) (vh ++ [.ins cid []]) with
    | bad => rw [e] at q; exact q.elim
    | exc x vh' => rw [e] at q; exact fun g1 H1 c od i1 x1 p1 => q g1 H1 c od (R3.back i1) (hs.mono (x2.trans x1)) ((e0.trans x2).trans x1) p1
    | ok d vh' =>
      rw [e] at q
      cases d with
      | non => exact fun g1 H1 v i1 x1 p1 => ⟨by simpa only [Rep] using p1, q g1 H1 _ (R3.back i1) (hs.mono (x2.trans x1)) ((e0.trans x2).trans x1) (Rep.mono x1 _ _ rself)⟩
      | _ => exact q.elim
  · intro rr s' hq
    cases rr with
    | error e => exact passAt cz.tk σ pins _ _ e s' I2 hq
    | ok fl =>
      cases fl with
      | ret u =>
        obtain ⟨v, H', I3, rv3, ev, q3⟩ := I2.after hq
        subst ev
        exact ⟨rv3, ⟨V.ref a, H', I3, rfl, q3⟩⟩
      | next => exact hq.elim
      | brk => exact hq.elim
      | cont => exact hq.elim
theorem de_make (cz : Cz W Wx (k + 1) X) (M : Mk W.K (W.cls cid) f) (F : PFn W X.prog X.w X.mg X.base k f fd ps Φ) (pt : Pat W fd ps (np + 1) [] arr) (hg : Gl X x) (hm : X.mg x = some (.ref (W.cls cid)))
    (ha : DA W Wx X (e :: es) α) (hdb : (x == ("__debug__" : Str)) = false := by decide) (he : starEach (e :: es) X.env = (false, eval e X.env) :: starEach es X.env := by rfl) (hpl : (backTo pos (starEach es X.env)).any (·.1) = false := by rfl)
    (hal : ∀ sl vh ds vh', α sl vh = .ok ds vh' → ds.length = np) : DE W Wx X (.Call (.Name x p) (e :: es) [] pos) (dMake cid arr Φ α) := fun C => by
  refine ⟨fun pins s σ H Q I ⟨g, sl, vh, h, hs, q⟩ => ?_⟩
  refine wpAny_Call_Name_kw (ld_glob I hg hm ?_ hdb)
  have T : TDA W C Wx α σ H (fun v1 H1 => v1.length = np ∧ ∃ g1 vh1 d1, RelH W C g1 vh1 H1 ∧ RelS W g1 H1 sl σ ∧ Ext g H g1 H1 ∧ Reps W g1 H1 d1 v1 ∧
      PostE W C Wx g H σ sl (match Φ (arr (.ref vh1.length :: d1)) (vh1 ++ [.ins cid []]) with | .ok .non vh' => .ok (.v (.ref vh1.length)) vh' | .ok _ _ => .bad | .exc x vh' => .exc x vh' | .bad => .bad) Q) := by
    refine ⟨g, sl, vh, h, hs, ?_⟩
    unfold dMake ab at q
    cases r : α sl vh with
    | bad => rw [r] at q; exact q
    | exc x vh1 => rw [r] at q; exact q
    | ok ds vh1 => rw [r] at q; exact fun g1 H1 v1 h1 s1 x1 r1 => ⟨by rw [← r1.length]; exact hal _ _ _ _ r, g1, vh1, ds, h1, s1, x1, r1, q⟩
  refine PySem.W.callWith_K (h₀ := X.base) I.ok.mod.kin (by rw [cz.K]; exact M.kp) (thn ((ha C).run pos pins s σ H _ I T) ?_) he hpl
  rintro us s1 ⟨vs, H1, I1, rv, ln, g1, vh1, d1, h1, s1', x1, r1, qq⟩
  exact ⟨I1.kIn, run_new (us := us) (ws := []) (ks := []) cz M F pt I1 h1 s1' x1 (by rw [← rv.length, ln]) rfl r1 (by rw [List.append_nil]; exact rv) qq⟩
theorem de_makeK (cz : Cz W Wx (k + 1) X) (M : Mk W.K (W.cls cid) f) (F : PFn W X.prog X.w X.mg X.base k f fd ps Φ) (pt : Pat W fd ps (np + 1) ks arr) (hg : Gl X x) (hm : X.mg x = some (.ref (W.cls cid)))
    (ha : DA W Wx X (e :: es) α) (hb : DK W Wx X kws β) (hall : (backToKw pos (keywordEach kws X.env)).all (·.1.isSome) = true := by rfl) (hks : (backToKw pos (keywordEach kws X.env)).filterMap (·.1) = ks := by rfl)
    (hdb : (x == ("__debug__" : Str)) = false := by decide) (he : starEach (e :: es) X.env = (false, eval e X.env) :: starEach es X.env := by rfl)
    (hpl : ((backTo pos (starEach (e :: es) X.env)).any (·.1) || (backToKw pos (keywordEach kws X.env)).any (·.1.isNone)) = false := by rfl)
    (hal : ∀ sl vh ds vh', α sl vh = .ok ds vh' → ds.length = np) (hbl : ∀ sl vh ds vh', β sl vh = .ok ds vh' → ds.length = ks.length) : DE W Wx X (.Call (.Name x p) (e :: es) kws pos) (dMake cid arr Φ (aApp α β)) := fun C => by
  refine ⟨fun pins s σ H Q I ⟨g, sl, vh, h, hs, q⟩ => ?_⟩
  refine wpAny_Call_Name_kw (ld_glob I hg hm ?_ hdb)
  have T : TDA W C Wx α σ H (fun v1 H1 => v1.length = np ∧ ∃ g1 vh1 d1, RelH W C g1 vh1 H1 ∧ RelS W g1 H1 sl σ ∧ Ext g H g1 H1 ∧ Reps W g1 H1 d1 v1 ∧
      TDA W C Wx β σ H1 (fun v2 H2 => v2.length = ks.length ∧ ∃ g2 vh2 d2, RelH W C g2 vh2 H2 ∧ RelS W g2 H2 sl σ ∧ Ext g1 H1 g2 H2 ∧ Reps W g2 H2 d2 v2 ∧
        PostE W C Wx g H σ sl (match Φ (arr (.ref vh2.length :: (d1 ++ d2))) (vh2 ++ [.ins cid []]) with | .ok .non vh' => .ok (.v (.ref vh2.length)) vh' | .ok _ _ => .bad | .exc x vh' => .exc x vh' | .bad => .bad) Q)) := by
    refine ⟨g, sl, vh, h, hs, ?_⟩
    unfold dMake ab aApp at q
    cases r : α sl vh with
    | bad => rw [r] at q; exact q
    | exc x vh1 => rw [r] at q; exact q
    | ok ds vh1 =>
      rw [r] at q
      intro g1 H1 v1 h1 s1 x1 r1
      refine ⟨by rw [← r1.length]; exact hal _ _ _ _ r, g1, vh1, ds, h1, s1, x1, r1, g1, sl, vh1, h1, s1, ?_⟩
      dsimp only at q
      cases r2 : β sl vh1 with
      | bad => rw [r2] at q; exact q
      | exc x vh2 => rw [r2] at q; exact fun g2 H2 c od h2 s2 x2 rr => q g2 H2 c od h2 s2 (x1.trans x2) rr
      | ok es vh2 => rw [r2] at q; exact fun g2 H2 v2 h2 s2 x2 rr => ⟨by rw [← rr.length]; exact hbl _ _ _ _ r2, g2, vh2, es, h2, s2, x2, rr, q⟩
  refine PySem.W.callWith_KW (h₀ := X.base) I.ok.mod.kin (by rw [cz.K]; exact M.kp) hall (thn ((ha C).run pos pins s σ H _ I T) ?_) hpl he
  rintro us s1 ⟨vs, H1, I1, rv, ln, g1, vh1, d1, h1, s1', x1, r1, t2⟩
  refine thn ((hb C).run pos pins s1 σ H1 _ I1 t2) ?_
  rintro ws s2 ⟨zs, H2, I2, rz, lm, g2, vh2, d2, h2, s2', x2, r2, qq⟩
  refine ⟨I2.kIn, ?_⟩
  rw [hks]
  exact run_new (us := us) (ws := ws) (ds := d1 ++ d2) cz M F pt I2 h2 s2' (x1.trans x2) (by rw [← rv.length, ln]) (by rw [← rz.length, lm]) ((Reps.mono x2 _ _ r1).append r2) (rv.append rz) qq
end
end
end PM

/-! PM21: what is never reached; chained comparisons. -/
namespace PM
open PySem L2
noncomputable section
def eBad : EF := fun _ _ => .bad
def tBad : TF := fun _ _ => .bad
section
variable {W : Wd} {C : Con} {Wx : WX} {X : Cx} {g g0 : Gh} {H H0 : Hp} {σ : L2.St} {sl : Sl} {vh : VH} {φ ψ χ : EF} {a b c : Expr} {pos : Pos}
theorem de_bad {e : Expr} : DE W Wx X e eBad := fun C => ⟨fun _ _ _ _ _ _ ⟨_, _, _, _, _, q⟩ => q.elim⟩
theorem dt_bad {e : Expr} : DT W Wx X e tBad := fun C => ⟨fun _ _ _ _ _ _ ⟨_, _, _, _, _, q⟩ => q.elim⟩
@[simp] theorem x_ebad (sl : Sl) (vh : VH) : eBad sl vh = .bad := rfl
@[simp] theorem x_tbad (sl : Sl) (vh : VH) : tBad sl vh = .bad := rfl

/-- a op b op2 c -/
def eChain (p p' : D → D → Option EV) (φ ψ χ : EF) : EF := eb φ fun x => eb ψ fun y => fun sl vh => match p (view vh x) (view vh y) with
  | some (.v (.bl true)) => eb χ (fun z _ vh' => lift (p' (view vh' y) (view vh' z)) vh') sl vh
  | some (.v (.bl false)) => .ok (.v (.bl false)) vh
  | _ => .bad
theorem chain_run {r r' : R2} {p p' : D → D → Option EV} (h2 : Prim2 W X r p) (h2' : Prim2 W X r' p') {Q : VK} {g0 : Gh} {H0 : Hp} (e0 : Ext g0 H0 g H) (h : RelH W C g vh H) (hs : RelS W g H sl σ) {d1 d2 : D} {x y : V} (r1 : Rep W g H d1 x) (r2 : Rep W g H d2 y)
    (q : PostE W C Wx g0 H0 σ sl (match p (view vh d1) (view vh d2) with
      | some (.v (.bl true)) => eb χ (fun z _ vh' => lift (p' (view vh' d2) (view vh' z)) vh') sl vh
      | some (.v (.bl false)) => .ok (.v (.bl false)) vh
      | _ => .bad) Q) : r x y H fun z H3 => ∃ k, z = .bl k ∧ (if k = true then TDE W C Wx χ σ H3 fun w' H4 => r' y w' H4 Q else Q (.bl false) H3) := by
  refine h2 C g H vh _ _ x y _ h (h.view r1) (h.view r2) (fun e he g' H' v h' x' r'' => ?_) ?_
  · rw [he] at q
    match e, he, q, r'' with
    | .v (.bl true), he, q, r'' =>
      have ev : v = .bl true := by simpa only [RepE, Rep] using r''
      refine ⟨true, ev, ?_⟩
      rw [if_pos rfl]
      exact (TDE.bind h' (hs.mono x') (e0.trans x') q).mono fun v4 H4 ⟨g5, vh5, d5, i5, s5, x5, x5', p5, q5⟩ => h2'.use i5 s5 x5 (Rep.mono (x'.trans x5') _ _ r2) p5 q5
    | .v (.bl false), he, q, r'' =>
      have ev : v = .bl false := by simpa only [RepE, Rep] using r''
      refine ⟨false, ev, ?_⟩
      rw [if_neg (by decide)]
      exact q g' H' _ h' (hs.mono x') (e0.trans x') (by simp only [RepE, Rep])
  · cases e : p (view vh d1) (view vh d2) with
    | some _ => rfl
    | none =>
      rw [e] at q
      exact q.elim
theorem de_chain {op op' : CmpOp} {p p' : D → D → Option EV} (o : CmpOk W X op p) (o' : CmpOk W X op' p') (ha : DE W Wx X a φ) (hb : DE W Wx X b ψ) (hc : DE W Wx X c χ)
    (hm : lastMarks [op, op'] [b, c] = false := by with_unfolding_all rfl) : DE W Wx X (.Compare a [op, op'] [b, c] pos) (eChain p p' φ ψ χ) := fun C => by
  obtain ⟨r, h1, h2⟩ := o.ex
  obtain ⟨r', h1', h2'⟩ := o'.ex
  exact pe_imp (pe_chain h1 h1' (ha C) (hb C) (hc C) hm) fun σ H Q ⟨g, sl, vh, h, hs, q⟩ =>
    (TDE.bind h hs (Ext.refl g H) q).mono fun v1 H1 ⟨g2, vh2, d1, i2, s2, x2, x2', p2, q2⟩ =>
      (TDE.bind i2 s2 x2 q2).mono fun v4 H4 ⟨g5, vh5, d5, i5, s5, x5, x5', p5, q5⟩ => chain_run h2 h2' x5 i5 s5 (Rep.mono x5' _ _ p2) p5 q5
end
end
end PM

/-! PM22: isinstance. -/
namespace PM
open PySem L2
noncomputable section
/-- a value's type, of data -/
def tyN : D → Option String
  | .non => some "NoneType" | .bl _ => some "bool" | .int _ => some "int" | .str _ => some "str"
  | .tup _ => some "tuple" | .lst _ => some "list" | .scr _ => some "list" | .dct _ => some "dict" | .st _ => some "set"
  | _ => none
def isT (t n : String) : Bool := t == n || (t == "bool" && n == "int")
/-- isinstance(d, n), n a built-in type; an instance of an own class of cs is none of these -/
def isD (cs : List Nat) (n : String) : D → Option Bool
  | .ins c _ => if c ∈ cs then some false else none
  | d => (tyN d).map fun t => isT t n
def bIsi (cs : List Nat) (n : String) (d : D) : Option EV := (isD cs n d).map fun b => .v (.bl b)
/-- isinstance(d, C), C an own class -/
def isC (cs : List Nat) (c : Nat) : D → Option Bool
  | .ins c' _ => if c' ∈ cs then some (c' == c) else none
  | d => (tyN d).map fun _ => false
def bIsC (cs : List Nat) (c : Nat) (d : D) : Option EV := (isC cs c d).map fun b => .v (.bl b)
structure InsK (K : PySem.W.Frag) (C : Addr) : Prop where
  cl : Cls K C
  ha : PySem.W.findIn K (.ref C) "__class__" = some (some (.builtin "object.__class__"))
  hn : PySem.W.specialIn K (.builtin "object.__class__") "__get__" = some (some (.builtin "getset_descriptor.__get__"))
  htk : PySem.W.takesIn K (.builtin "object.__class__") = some true
  hm : PySem.W.mroIn K C (.type "object") = some true
section
variable {W : Wd} {C : Con} {Wx : WX} {X : Cx} {k : Nat} {g g0 : Gh} {H H0 : Hp} {σ : L2.St} {sl : Sl} {vh : VH} {φ ψ χ : EF} {pos : Pos} {a b : Expr} {x : Str} {n : String} {p0 p1 : Pos}
theorem ty_data (hK : X.K = W.K) {d : D} {v : V} (r : RepW W g H d v) (t : String) (e : tyN d = some t) : TyX X.K H v (.type t) := by
  cases d with
  | non => rw [r.non]; cases e; exact .base .non
  | bl b => rw [r.bl]; cases e; exact .base (.bl _)
  | int i => rw [r.int]; cases e; exact .base (.int _)
  | str i => rw [r.str]; cases e; exact .base (.str _)
  | tup xs =>
    obtain ⟨a, vs, rfl, h1, _⟩ := r.tup
    cases e
    rcases h1 with (h1 | ⟨o, h1⟩) | ⟨o, its, n, h1, h2, _⟩
    · exact .base (.tup h1)
    · exact .fTuple h1
    · exact .kTuple (by rw [hK]; exact h1) h2
  | lst xs =>
    obtain ⟨a, vs, rfl, h1, _⟩ := r.lst
    cases e
    exact .base (.lst h1)
  | scr xs =>
    obtain ⟨a, rfl, h1⟩ := r.scr
    cases e
    rcases h1 with (h1 | ⟨o, h1⟩) | ⟨o, its, n, h1, h2, _⟩
    · exact .base (.lst h1)
    · exact .base (.frz h1)
    · exact .kList (by rw [hK]; exact h1) h2
  | dct xs =>
    obtain ⟨a, ws, rfl, h1, _⟩ := r.dct
    cases e
    rcases h1 with h1 | ⟨o, h1⟩
    · exact .base (.dK h1)
    · exact .fDict h1
  | st xs =>
    cases e
    rcases r with r | ⟨o, a, e, rfl, ho⟩
    · simp only [Rep] at r
      obtain ⟨a, S, n, rfl, _, h1, _⟩ := r
      exact .set h1
    · cases o <;> cases e
      obtain ⟨S, n, h1, _⟩ := ho
      exact .set h1
  | ins c fs => cases e
  | ref i => cases e
  | fn i => cases e
  | cls i => cases e
  | ty i => cases e
theorem ty_ins {c : Nat} {fs : List (Str × D)} {v : V} (q : InsK X.K (W.cls c)) (r : RepW W g H (.ins c fs) v) : TyX X.K H v (.ref (W.cls c)) := by
  obtain ⟨a, dx, gs, rfl, h1, _⟩ := r.ins
  exact .base (.ins h1 q.cl q.ha q.hn q.htk q.hm)
/-- what the answers of isinstance are: n a built-in type -/
structure KitT (W : Wd) (K : PySem.W.Frag) (cs : List Nat) (n : String) : Prop where
  data : ∀ d t, tyN d = some t → PySem.W.kitOne K (.type t) (.type n) = some (isT t n)
  own : ∀ c ∈ cs, InsK K (W.cls c) ∧ PySem.W.kitOne K (.ref (W.cls c)) (.type n) = some false
structure KitC (W : Wd) (K : PySem.W.Frag) (cs : List Nat) (c : Nat) : Prop where
  data : ∀ d t, tyN d = some t → PySem.W.kitOne K (.type t) (.ref (W.cls c)) = some false
  own : ∀ c' ∈ cs, InsK K (W.cls c') ∧ PySem.W.kitOne K (.ref (W.cls c')) (.ref (W.cls c)) = some (c' == c)
theorem p_isi (hK : X.K = W.K) {cs : List Nat} (kt : KitT W X.K cs n) : Prim1 W X (fun x H Q => rIsi X.K [x, .ty n] H Q) (bIsi cs n) := by
  intro C g H vh dx x Q h rx q s
  have fin : ∀ b, bIsi cs n dx = some (.v (.bl b)) → Q (.bl b) H := fun b e => q _ e g H _ h (Ext.refl g H) (by simp only [RepE, Rep])
  cases et : tyN dx with
  | some t =>
    have ed : isD cs n dx = some (isT t n) := by cases dx <;> cases et <;> rfl
    exact ⟨x, _, _, _, _, rfl, .ty n, ty_data hK rx t et, kt.data dx t et, fin _ (by unfold bIsi; rw [ed]; rfl)⟩
  | none =>
    cases dx <;> try (simp [bIsi, isD, tyN] at s et; done)
    rename_i c fs
    by_cases hc : c ∈ cs
    · exact ⟨x, _, _, _, _, rfl, .ty n, ty_ins (kt.own c hc).1 rx, (kt.own c hc).2, fin _ (by simp [bIsi, isD, hc])⟩
    · simp [bIsi, isD, hc] at s
theorem p_isc (hK : X.K = W.K) {cs : List Nat} {c : Nat} (kt : KitC W X.K cs c) : Prim1 W X (fun x H Q => rIsi X.K [x, .ref (W.cls c)] H Q) (bIsC cs c) := by
  intro C g H vh dx x Q h rx q s
  have fin : ∀ b, bIsC cs c dx = some (.v (.bl b)) → Q (.bl b) H := fun b e => q _ e g H _ h (Ext.refl g H) (by simp only [RepE, Rep])
  cases et : tyN dx with
  | some t =>
    have ed : isC cs c dx = some false := by cases dx <;> cases et <;> rfl
    exact ⟨x, _, _, _, _, rfl, .own _, ty_data hK rx t et, kt.data dx t et, fin _ (by unfold bIsC; rw [ed]; rfl)⟩
  | none =>
    cases dx <;> try (simp [bIsC, isC, tyN] at s et; done)
    rename_i c' fs
    by_cases hc : c' ∈ cs
    · exact ⟨x, _, _, _, _, rfl, .own _, ty_ins (kt.own c' hc).1 rx, (kt.own c' hc).2, fin _ (by simp [bIsC, isC, hc])⟩
    · simp [bIsC, isC, hc] at s
theorem de_isi {cs : List Nat} {nm : Str} (hK : X.K = W.K) (kt : KitT W X.K cs n) (hg : Gl X "isinstance") (hm : X.mg "isinstance" = none) (hg2 : Gl X nm) (hm2 : X.mg nm = none) (ha : DE W Wx X a φ) (hv2 : bootBuiltins nm = some (.type n) := by rfl) (hn2 : nm ≠ "__name__" := by decide) (hdb2 : (nm == ("__debug__" : Str)) = false := by decide)
    (he : starEach (a :: [.Name nm p1]) X.env = (false, eval a X.env) :: starEach [.Name nm p1] X.env := by rfl) : DE W Wx X (.Call (.Name "isinstance" p0) [a, .Name nm p1] [] pos) (e1 (bIsi cs n) φ) :=
  de_1 ha (p_isi hK kt) fun ta h => pe_imp (pe_callB call_isi hg hm (by rfl) (pa_cons h (pa_cons (pe_bltn (v := .ty n) hg2 hm2 hv2 rfl hn2 hdb2) pa_nil (by rfl)) he) (by decide) (by decide) he (by rfl)) fun σ H Q q => q
theorem de_isc {cs : List Nat} {c : Nat} {nm : Str} (hK : X.K = W.K) (kt : KitC W X.K cs c) (hg : Gl X "isinstance") (hm : X.mg "isinstance" = none) (hg2 : Gl X nm) (hm2 : X.mg nm = some (.ref (W.cls c))) (ha : DE W Wx X a φ) (hdb2 : (nm == ("__debug__" : Str)) = false := by decide)
    (he : starEach (a :: [.Name nm p1]) X.env = (false, eval a X.env) :: starEach [.Name nm p1] X.env := by rfl) : DE W Wx X (.Call (.Name "isinstance" p0) [a, .Name nm p1] [] pos) (e1 (bIsC cs c) φ) :=
  de_1 ha (p_isc hK kt) fun ta h => pe_imp (pe_callB call_isi hg hm (by rfl) (pa_cons h (pa_cons (pe_glob (v := .ref (W.cls c)) hg2 hm2 rfl hdb2) pa_nil (by rfl)) he) (by decide) (by decide) he (by rfl)) fun σ H Q q => q
end
end
end PM

/-! PM23: chained comparisons as tests; rows. -/
namespace PM
open PySem L2
noncomputable section
section
variable {W : Wd} {C : Con} {Wx : WX} {X : Cx} {g g0 : Gh} {H H0 : Hp} {σ : L2.St} {sl : Sl} {vh : VH} {φ ψ χ : EF} {a b c : Expr} {pos : Pos}
theorem dt_chain {op op' : CmpOp} {p p' : D → D → Option EV} (o : CmpOk W X op p) (o' : CmpOk W X op' p') (ha : DE W Wx X a φ) (hb : DE W Wx X b ψ) (hc : DE W Wx X c χ)
    (hm : lastMarks [op, op'] [b, c] = false := by with_unfolding_all rfl) : DT W Wx X (.Compare a [op, op'] [b, c] pos) (etoT (eChain p p' φ ψ χ)) := fun C => by
  obtain ⟨r, h1, h2⟩ := o.ex
  obtain ⟨r', h1', h2'⟩ := o'.ex
  exact pt_imp (pt_chain h1 h1' (ha C) (hb C) (hc C) hm) fun σ H Q t => by
    obtain ⟨g, sl, vh, h, hs, q⟩ := t.ofE
    exact (TDE.bind h hs (Ext.refl g H) q).mono fun v1 H1 ⟨g2, vh2, d1, i2, s2, x2, x2', p2, q2⟩ =>
      (TDE.bind i2 s2 x2 q2).mono fun v4 H4 ⟨g5, vh5, d5, i5, s5, x5, x5', p5, q5⟩ => chain_run h2 h2' x5 i5 s5 (Rep.mono x5' _ _ p2) p5 q5
theorem kitT {K : PySem.W.Frag} {cs : List Nat} (n : String) (hd : n ∈ ["int", "str", "tuple", "list", "dict", "bool", "set"]) (own : ∀ c ∈ cs, InsK K (W.cls c) ∧ PySem.W.kitOne K (.ref (W.cls c)) (.type n) = some false) : KitT W K cs n := ⟨fun d t e => by
  simp only [List.mem_cons, List.not_mem_nil, or_false] at hd
  rcases hd with rfl | rfl | rfl | rfl | rfl | rfl | rfl <;> cases d <;> cases e <;> kernel_rfl, own⟩
@[simp] theorem x_chain (p p' : D → D → Option EV) (sl : Sl) (vh : VH) : eChain p p' φ ψ χ sl vh = (eb φ fun x => eb ψ fun y => fun sl vh => match p (view vh x) (view vh y) with
  | some (.v (.bl true)) => eb χ (fun z _ vh' => lift (p' (view vh' y) (view vh' z)) vh') sl vh
  | some (.v (.bl false)) => .ok (.v (.bl false)) vh
  | _ => .bad) sl vh := rfl
end
end
end PM

/-! PM24: f-strings of texts and ints. -/
namespace PM
open PySem L2
noncomputable section
def pFmt : D → Option EV
  | .str y => if y.length ≤ lim then some (.v (.str y)) else none
  | .int i => if i.natAbs.log2 < 1920 then some (.v (.str (toString i))) else none
  | _ => none
def eJoin : Str → List EF → EF
  | acc, [] => fun _ vh => .ok (.v (.str acc)) vh
  | acc, φ :: r => eb φ fun x sl vh => match x with
    | .str y => if (acc ++ y).length ≤ lim then eJoin (acc ++ y) r sl vh else .bad
    | _ => .bad
section
variable {W : Wd} {C : Con} {Wx : WX} {X : Cx} {g g0 : Gh} {H H0 : Hp} {σ : L2.St} {sl : Sl} {vh : VH} {φ ψ χ : EF} {a b c : Expr} {pos : Pos}
inductive DJ (W : Wd) (Wx : WX) (X : Cx) : List Expr → List EF → Prop where
  | nil : DJ W Wx X [] []
  | cons {e : Expr} {φ : EF} {es : List Expr} {φs : List EF} (h : DE W Wx X e φ) (r : DJ W Wx X es φs) : DJ W Wx X (e :: es) (φ :: φs)
theorem DJ.pj {es : List Expr} {φs : List EF} (h : DJ W Wx X es φs) (C : Con) : PJ X es (φs.map fun φ => TDE W C Wx φ) := by
  induction h with
  | nil => exact .nil
  | cons h _ ih => exact .cons (h C) ih
theorem join_run {Q : VK} : ∀ (φs : List EF) (acc : Str) (g : Gh) (H : Hp) (vh : VH), Ext g0 H0 g H → RelH W C g vh H → RelS W g H sl σ → PostE W C Wx g0 H0 σ sl (eJoin acc φs sl vh) Q →
    tJs (φs.map fun φ => TDE W C Wx φ) acc σ H fun out H1 => Q (.str out) H1
  | [], acc, g, H, vh, e0, h, hs, q => q g H _ h hs e0 (by simp only [RepE, Rep])
  | φ :: r, acc, g, H, vh, e0, h, hs, q => by
    show TDE W C Wx φ σ H _
    exact (TDE.bind h hs e0 q).mono fun v1 H1 ⟨g2, vh2, d1, i2, s2, x2, x2', p2, q2⟩ => by
      cases d1 with
      | str y =>
        have ev : v1 = .str y := by simpa only [Rep] using p2
        dsimp only at q2
        by_cases hl : (acc ++ y).length ≤ lim
        · rw [if_pos hl] at q2
          exact ⟨y, ev, by rw [← lim_eq]; exact hl, join_run r (acc ++ y) g2 H1 vh2 x2 i2 s2 q2⟩
        · rw [if_neg hl] at q2
          exact q2.elim
      | _ => exact q2.elim
theorem de_join {v1 v2 : Expr} {rest : List Expr} {φs : List EF} (h : DJ W Wx X (v1 :: v2 :: rest) φs) : DE W Wx X (.JoinedStr (v1 :: v2 :: rest) pos) (eJoin Str.empty φs) := fun C =>
  pe_imp (pe_joined (h.pj C)) fun σ H Q ⟨g, sl, vh, h, hs, q⟩ => join_run φs Str.empty g H vh (Ext.refl g H) h hs q
theorem de_join1 (h : DE W Wx X a φ) : DE W Wx X (.JoinedStr [a] pos) φ := fun C => pe_joined1 (h C)
theorem de_fmt (ha : DE W Wx X a φ) : DE W Wx X (.FormattedValue a (-1) none pos) (e1 pFmt φ) :=
  de_1 ha (r := fun x H Q => (∃ y : Str, x = .str y ∧ y.length ≤ sizeLine ∧ Q (.str y) H) ∨ ∃ i : Int, x = .int i ∧ i.natAbs.log2 < 1920 ∧ Q (.str (toString i)) H) (by
    intro C g H vh dx x Q h rx q s
    cases dx <;> try (simp [pFmt] at s; done)
    · rw [rx.int]
      have hc := isSome_ite s
      exact .inr ⟨_, rfl, hc, q _ (if_pos hc) g H _ h (Ext.refl g H) (by simp only [RepE, Rep])⟩
    · rw [rx.str]
      have hc := isSome_ite s
      exact .inl ⟨_, rfl, by rw [← lim_eq]; exact hc, q _ (if_pos hc) g H _ h (Ext.refl g H) (by simp only [RepE, Rep])⟩) fun ta h => pe_fmt h
end
end
end PM

/-! PM25: x, y, z = a, b, c. -/
namespace PM
open PySem L2
noncomputable section
def sPar3 (i j l : Nat) (α : AF) : SF := fun sl vh => match α sl vh with
  | .ok [d, e, f] vh' => .nx (((sl.set i (some d)).set j (some e)).set l (some f)) vh'
  | .ok _ _ => .bad
  | .exc x vh' => .ex x sl vh'
  | .bad => .bad
section
variable {W : Wd} {C : Con} {Wx : WX} {X : Cx} {k : Nat} {g g0 : Gh} {H H0 : Hp} {σ : L2.St} {sl : Sl} {vh : VH} {pos : Pos} {a b c : Expr}
theorem ds_par3 {i j l : Nat} {x y z : Str} {px py pz pt : Pos} {kt k2 pt2} {α : AF} (cz : Cz W Wx k X) (ha : DA W Wx X [a, b, c] α) (hi : X.N[i]? = some x := by rfl) (hj : X.N[j]? = some y := by rfl) (hl : X.N[l]? = some z := by rfl) (hij : i ≠ j := by decide) (hil : i ≠ l := by decide) (hjl : j ≠ l := by decide)
    (hx : X.env.scope.names.lookup x = some .local := by rfl) (hy : X.env.scope.names.lookup y = some .local := by rfl) (hz : X.env.scope.names.lookup z = some .local := by rfl)
    (hw : swappedStores [.Tuple [.Name x px, .Name y py, .Name z pz] kt pt] (.Tuple [a, b, c] k2 pt2) X.env = pure (some [x, y, z]) := by rfl)
    (hs : swapsWithSole [.Tuple [.Name x px, .Name y py, .Name z pz] kt pt] (.Tuple [a, b, c] k2 pt2) pos.line X.env = pure false := by rfl) :
    DS W Wx X (.Assign [.Tuple [.Name x px, .Name y py, .Name z pz] kt pt] (.Tuple [a, b, c] k2 pt2) pos) (sPar3 i j l α) := fun C => ps_imp (ps_par3 cz.calm cz.nd hi hj hl hij hil hjl hx hy hz (ha C) hw hs) fun En σ H ⟨g, sl, vh, h, hs, q⟩ => by
  refine ⟨g, sl, vh, h, hs, ?_⟩
  unfold sPar3 at q
  cases r : α sl vh with
  | bad => rw [r] at q; exact q
  | exc x vh' => rw [r] at q; exact fun g1 H1 c od a b d e => q g1 H1 σ c od a b d e
  | ok ds vh' =>
    rw [r] at q
    rcases ds with _ | ⟨d, _ | ⟨e, _ | ⟨f, _ | ⟨f2, ds⟩⟩⟩⟩
    · exact q.elim
    · exact q.elim
    · exact q.elim
    · intro g1 H1 vs h1 s1 x1 r1
      simp only [Reps] at r1
      obtain ⟨v, r, rfl, r2, w, r', rfl, r3, u, r'', rfl, r4, rfl⟩ := r1
      exact ⟨v, w, u, rfl, q g1 H1 _ h1 (((s1.set r2).set r3).set r4) x1⟩
    · exact q.elim
@[simp] theorem x_par3 (i j l : Nat) (α : AF) (sl : Sl) (vh : VH) : sPar3 i j l α sl vh = (match α sl vh with
  | .ok [d, e, f] vh' => .nx (((sl.set i (some d)).set j (some e)).set l (some f)) vh'
  | .ok _ _ => .bad
  | .exc x vh' => .ex x sl vh'
  | .bad => .bad) := rfl
end
end
end PM

/-! PM26: small things for classes. -/
namespace PM
open PySem L2
theorem Cz.fl {W : Wd} {Wx : WX} {k : Nat} {X : Cx} {fa : Nat → Str → Bool} (cz : Cz W Wx k X) (h : Flds W W.K fa) : Flds W X.K fa := by rw [cz.K]; exact h
/-- the j-th statement of a class's body -/
def inCls (s : Stmt) (j : Nat) : Stmt := match s with
  | .ClassDef _ _ _ b _ _ _ _ _ _ _ => b.getD j (.Pass ⟨0, 0, 0, 0⟩)
  | _ => .Pass ⟨0, 0, 0, 0⟩
end PM

/-! PM27: list.extend. -/
namespace PM
open PySem L2
noncomputable section
def mExtend : MP := fun d ds vh => match d, ds with
  | .ref n, [y] => (match vh[n]?, view vh y with
    | some (.lst xs), .lst zs => if xs.length + zs.length ≤ lim then some (.v .non, vh.set n (.lst (xs ++ zs))) else none
    | _, _ => none)
  | _, _ => none
section
variable {W : Wd} {C : Con} {Wx : WX} {X : Cx} {k : Nat} {g g0 : Gh} {H H0 : Hp} {σ : L2.St} {sl : Sl} {vh : VH} {φ : EF} {α : AF} {o a : Expr} {apos cpos : Pos}
theorem pm_extend : PrimM W X rExtend mExtend := by
  intro C g H vh d ds x xs Q h rx rs q s
  unfold mExtend at s q
  cases d with
  | ref n =>
    rcases ds with _ | ⟨y, _ | ⟨y2, ds⟩⟩
    · cases s
    · simp only [Reps] at rs
      obtain ⟨v, _, rfl, ry, rfl⟩ := rs
      have rw' := h.view ry
      simp only [Rep] at rx
      obtain ⟨hn, rfl⟩ := rx
      dsimp only at s q
      cases en : vh[n]? with
      | none => rw [en] at s; cases s
      | some o =>
        rw [en] at s q
        cases o with
        | lst zs =>
          generalize ev : view vh y = dy at s q rw'
          cases dy with
          | lst ws =>
            have hc := isSome_ite s
            obtain ⟨vs, h1, r1⟩ := h.vh n _ en
            obtain ⟨b, us, rfl, h2, r2⟩ := rw'.lst
            have xw := Ext.write (u := .lst (vs ++ us)) h hn
            refine ⟨_, b, vs, us, rfl, rfl, h1, h2, by rw [← r1.length, ← r2.length, ← lim_eq]; exact hc, ?_⟩
            exact q _ _ (if_pos hc) g _ _ (h.write hn ⟨_, upd_same, Reps.mono xw _ _ (r1.append r2)⟩) xw (by simp only [RepE, Rep])
          | _ => cases s
        | _ => cases s
    · cases s
  | _ => cases s
theorem de_extend (hK : X.K = W.K) (ho : DE W Wx X o φ) (ha : DA W Wx X [a] α)
    (hbase : attributeBase o "extend" X.env (eval o X.env) = eval o X.env := by rfl)
    (hfew : ((backTo cpos (starEach (a :: []) X.env)).all (fun x => !x.1) && (backToKw cpos (keywordEach [] X.env)).all (fun x => x.1.isSome)
      && decide ((a :: []).length + ([] : List Keyword).length + (if ([] : List Keyword).isEmpty then 0 else 1) < 30)) = true := by rfl)
    (hline : (apos.endLine == cpos.line) = true := by rfl) (hs : starEach (a :: []) X.env = (false, eval a X.env) :: starEach [] X.env := by rfl) : DE W Wx X (.Call (.Attribute o "extend" apos) [a] [] cpos) (eM "list" mExtend φ α) :=
  de_bm hK PySem.F.plainAttrs_list PySem.F.slot_list_extend PySem.F.type_list_extend mt_extend pm_extend ho ha hbase hfew hline hs
end
end
end PM

/-! PM28: zip of two lists, of two tuples. -/
namespace PM
open PySem L2
noncomputable section
section
variable {W : Wd} {C : Con} {Wx : WX} {X : Cx} {k : Nat} {g g0 g1 : Gh} {H H0 H1 : Hp} {σ : L2.St} {sl : Sl} {vh : VH} {α : AF} {a b tg : Expr}
/-- the sequence at a stands as xs as long as gd holds -/
def StyL (W : Wd) (K : PySem.W.Frag) (a : Addr) (xs : List D) (gd : Option (Nat × O)) (g1 : Gh) (H1 : Hp) : Prop := ∀ (C : Con) g vh H, RelH W C g vh H → Ext g1 H1 g H → gdB gd vh = true → ∃ vs, SqL K H a vs ∧ Reps W g H xs vs
def StyT (W : Wd) (K : PySem.W.Frag) (a : Addr) (xs : List D) (g1 : Gh) (H1 : Hp) : Prop := ∀ (C : Con) g vh H, RelH W C g vh H → Ext g1 H1 g H → ∃ vs, SqT K H a vs ∧ Reps W g H xs vs
def pairs (xs ys : List D) : List D := List.zipWith (fun x y => D.tup [x, y]) xs ys
theorem yi_zipL {K : PySem.W.Frag} {p q : Addr} {xs ys : List D} {gd gd1 gd2 : Option (Nat × O)} (h1 : StyL W K p xs gd1 g1 H1) (h2 : StyL W K q ys gd2 g1 H1) (i1 : ∀ vh, gdB gd vh = true → gdB gd1 vh = true) (i2 : ∀ vh, gdB gd vh = true → gdB gd2 vh = true) :
    YI W (Itz K p q) (pairs xs ys) gd g1 H1 := by
  intro C i g vh H h x hg
  obtain ⟨vs, s1, r1⟩ := h1 C g vh H h x (i1 _ hg)
  obtain ⟨ws, s2, r2⟩ := h2 C g vh H h x (i2 _ hg)
  refine ⟨fun hi => ⟨vs, ws, s1, s2, ?_⟩, fun d hd => ?_⟩
  · simp only [pairs, List.length_zipWith] at hi
    rw [← r1.length, ← r2.length]
    omega
  · unfold pairs at hd
    rw [List.getElem?_zipWith] at hd
    cases e1 : xs[i]? with
    | none => rw [e1] at hd; simp at hd
    | some d1 =>
      cases e2 : ys[i]? with
      | none => rw [e1, e2] at hd; simp at hd
      | some d2 =>
        rw [e1, e2] at hd
        simp at hd
        subst hd
        obtain ⟨v, hv, rv⟩ := r1.get e1
        obtain ⟨w, hw, rw'⟩ := r2.get e2
        refine ⟨⟨vs, ws, v, w, s1, s2, hv, hw⟩, ?_⟩
        rintro z H' ⟨T, x1, y1, rfl, nT, rfl, q1, q2⟩
        have e3 := q1 vs s1
        have e4 := q2 ws s2
        rw [hv] at e3
        rw [hw] at e4
        cases e3
        cases e4
        obtain ⟨a1, b1, c1⟩ := new_tup (xs := [d1, d2]) h nT (Reps.cons rv (Reps.one rw'))
        exact ⟨_, a1, b1, c1⟩
theorem yi_zipT {K : PySem.W.Frag} {p q : Addr} {xs ys : List D} (h1 : StyT W K p xs g1 H1) (h2 : StyT W K q ys g1 H1) : YI W (RZ.ItzT K p q) (pairs xs ys) none g1 H1 := by
  intro C i g vh H h x hg
  obtain ⟨vs, s1, r1⟩ := h1 C g vh H h x
  obtain ⟨ws, s2, r2⟩ := h2 C g vh H h x
  refine ⟨fun hi => ⟨vs, ws, s1, s2, ?_⟩, fun d hd => ?_⟩
  · simp only [pairs, List.length_zipWith] at hi
    rw [← r1.length, ← r2.length]
    omega
  · unfold pairs at hd
    rw [List.getElem?_zipWith] at hd
    cases e1 : xs[i]? with
    | none => rw [e1] at hd; simp at hd
    | some d1 =>
      cases e2 : ys[i]? with
      | none => rw [e1, e2] at hd; simp at hd
      | some d2 =>
        rw [e1, e2] at hd
        simp at hd
        subst hd
        obtain ⟨v, hv, rv⟩ := r1.get e1
        obtain ⟨w, hw, rw'⟩ := r2.get e2
        refine ⟨⟨vs, ws, v, w, s1, s2, hv, hw⟩, ?_⟩
        rintro z H' ⟨T, x1, y1, rfl, nT, rfl, q1, q2⟩
        have e3 := q1 vs s1
        have e4 := q2 ws s2
        rw [hv] at e3
        rw [hw] at e4
        cases e3
        cases e4
        obtain ⟨a1, b1, c1⟩ := new_tup (xs := [d1, d2]) h nT (Reps.cons rv (Reps.one rw'))
        exact ⟨_, a1, b1, c1⟩
theorem sty_tup {xs : List D} {v : V} (r : Rep W g1 H1 (.tup xs) v) : ∃ p vs, v = .ref p ∧ SqT W.K H1 p vs ∧ StyT W W.K p xs g1 H1 := by
  simp only [Rep] at r
  obtain ⟨p, vs, rfl, t, r⟩ := r
  refine ⟨p, vs, rfl, t.sq, fun C g vh H h x => ⟨vs, ?_, Reps.mono x _ _ r⟩⟩
  rcases t with ⟨f, t⟩ | t
  · exact SqT.of (x.keep p _ f trivial t)
  · exact sqT_noH t
/-- a list as zip takes it: its items, its guard -/
def zlOf (vh : VH) (d : D) : Option IV := match d with
  | .lst xs => some ⟨xs, none⟩
  | .ref n => match vh[n]? with
    | some (.lst xs) => some ⟨xs, some (n, .lst xs)⟩
    | _ => none
  | _ => none
theorem sty_lst {iv : IV} {d : D} {v : V} (h : RelH W C g1 vh H1) (r : Rep W g1 H1 d v) (e : zlOf vh d = some iv) : ∃ p vs, v = .ref p ∧ SqL W.K H1 p vs ∧ StyL W W.K p iv.items iv.gd g1 H1 := by
  cases d with
  | lst xs =>
    cases e
    simp only [Rep] at r
    obtain ⟨p, vs, rfl, f, t, r⟩ := r
    exact ⟨p, vs, rfl, SqL.of t, fun C g vh H h x _ => ⟨vs, SqL.of (x.keep p _ f trivial t), Reps.mono x _ _ r⟩⟩
  | ref n =>
    simp only [Rep] at r
    obtain ⟨hn, rfl⟩ := r
    unfold zlOf at e
    dsimp only at e
    cases en : vh[n]? with
    | none => rw [en] at e; cases e
    | some o =>
      rw [en] at e
      cases o with
      | lst xs =>
        cases e
        obtain ⟨vs, t, r'⟩ := h.vh n _ en
        refine ⟨_, vs, rfl, SqL.of t, fun C g vh H h x hg => ?_⟩
        have hg : vh[n]? = some (.lst xs) := by
          unfold gdB at hg
          exact @of_decide_eq_true _ (Classical.propDecidable _) hg
        obtain ⟨vs, t, r'⟩ := h.vh n _ hg
        rw [x.m n hn] at t
        exact ⟨vs, SqL.of t, r'⟩
      | _ => cases e
  | _ => cases e
def zipIV (vh : VH) (d e : D) : Option IV := match d, e with
  | .tup xs, .tup ys => some ⟨pairs xs ys, none⟩
  | d, e => match zlOf vh d, zlOf vh e with
    | some iv, some ⟨ys, none⟩ => some ⟨pairs iv.items ys, iv.gd⟩
    | some ⟨xs, none⟩, some iv => some ⟨pairs xs iv.items, iv.gd⟩
    | _, _ => none
def iZip (α : AF) : IF := fun sl vh => match α sl vh with
  | .ok [d, e] vh' => (match zipIV vh' d e with
    | some iv => .ok iv vh'
    | none => .bad)
  | .ok _ _ => .bad
  | .exc x vh' => .exc x vh'
  | .bad => .bad
theorem zip_iv {iv : IV} {d e : D} {v w : V} (h : RelH W C g1 vh H1) (r : Rep W g1 H1 d v) (r' : Rep W g1 H1 e w) (q : zipIV vh d e = some iv) :
    ∃ a b xs ys, [v, w] = [V.ref a, .ref b] ∧ ((SqL W.K H1 a xs ∧ SqL W.K H1 b ys ∧ YI W (Itz W.K a b) iv.items iv.gd g1 H1) ∨ (SqT W.K H1 a xs ∧ SqT W.K H1 b ys ∧ YI W (RZ.ItzT W.K a b) iv.items iv.gd g1 H1)) := by
  have lists : ∀ (i1 i2 : IV), zlOf vh d = some i1 → zlOf vh e = some i2 → (∀ vh, gdB iv.gd vh = true → gdB i1.gd vh = true) → (∀ vh, gdB iv.gd vh = true → gdB i2.gd vh = true) → iv.items = pairs i1.items i2.items →
      ∃ a b xs ys, [v, w] = [V.ref a, .ref b] ∧ ((SqL W.K H1 a xs ∧ SqL W.K H1 b ys ∧ YI W (Itz W.K a b) iv.items iv.gd g1 H1) ∨ (SqT W.K H1 a xs ∧ SqT W.K H1 b ys ∧ YI W (RZ.ItzT W.K a b) iv.items iv.gd g1 H1)) := by
    intro i1 i2 e1 e2 c1 c2 ei
    obtain ⟨p, vs, rfl, s1, t1⟩ := sty_lst h r e1
    obtain ⟨q, ws, rfl, s2, t2⟩ := sty_lst h r' e2
    exact ⟨p, q, vs, ws, rfl, .inl ⟨s1, s2, by rw [ei]; exact yi_zipL t1 t2 c1 c2⟩⟩
  unfold zipIV at q
  split at q
  · cases q
    obtain ⟨p, vs, rfl, s1, t1⟩ := sty_tup r
    obtain ⟨p2, ws, rfl, s2, t2⟩ := sty_tup r'
    exact ⟨p, p2, vs, ws, rfl, .inr ⟨s1, s2, yi_zipT t1 t2⟩⟩
  · split at q
    · rename_i e1 e2
      cases q
      exact lists _ _ e1 e2 (fun _ z => z) (fun _ _ => rfl) rfl
    · rename_i e1 e2
      cases q
      exact lists _ _ e1 e2 (fun _ _ => rfl) (fun _ z => z) rfl
    · cases q
theorem di_zip {elts : List Expr} {kk : Nat} {tpos p pos : Pos} (hK : X.K = W.K) (hg : Gl X "zip") (hm : X.mg "zip" = none) (ha : DA W Wx X [a, b] α)
    (hs : starEach [a, b] X.env = (false, eval a X.env) :: starEach [b] X.env := by rfl) (hpl : (backTo pos (starEach [b] X.env)).any (·.1) = false := by rfl) :
    DI W Wx X (.Tuple elts kk tpos) (.Call (.Name "zip" p) [a, b] [] pos) (iZip α) := fun C =>
  pi_imp (RZ.pi_zipA hg hm (ha C) hs hpl) fun σ H Q ⟨g, sl, vh, h, hs, q⟩ => by
    refine ⟨g, sl, vh, h, hs, ?_⟩
    unfold iZip at q
    cases r : α sl vh with
    | bad => rw [r] at q; exact q
    | exc x vh' => rw [r] at q; exact q
    | ok ds vh' =>
      rw [r] at q
      rcases ds with _ | ⟨d, _ | ⟨e, _ | ⟨f, ds⟩⟩⟩
      · exact q.elim
      · exact q.elim
      · intro g1 H1 v1 h1 s1 x1 r1
        simp only [Reps] at r1
        obtain ⟨v, _, rfl, rv, w, _, rfl, rw', rfl⟩ := r1
        dsimp only at q
        cases ei : zipIV vh' d e with
        | none => rw [ei] at q; exact q.elim
        | some iv =>
          rw [ei] at q
          obtain ⟨p, p2, xs, ys, e1, hz⟩ := zip_iv h1 rv rw' ei
          refine ⟨p, p2, xs, ys, e1, ?_⟩
          rw [hK]
          rcases hz with ⟨z1, z2, z3⟩ | ⟨z1, z2, z3⟩
          · exact .inl ⟨z1, z2, q g1 H1 _ h1 s1 x1 z3⟩
          · exact .inr ⟨z1, z2, q g1 H1 _ h1 s1 x1 z3⟩
      · exact q.elim
end
end
end PM

/-! PM29: str(x), sorted of texts, xs.count(y), join, setdefault, dict displays, dicts of the module. -/
namespace PM
open PySem L2
noncomputable section

def bStr : D → Option EV
  | .str y => vS y
  | .int i => if i.natAbs.log2 < 1920 then vS (toString i) else none
  | _ => none
def strsOf : List D → Option (List Str)
  | [] => some []
  | .str x :: r => (strsOf r).map (x :: ·)
  | _ => none
/-- by code points -/
def leS (x y : Str) : Bool := decide (x.cps.toList ≤ y.cps.toList)
/-- the texts, rising -/
def srtS (xs : List Str) : List Str := xs.mergeSort leS
def bSrt : D → Option EV
  | .lst xs => (strsOf xs).bind fun ys => if ys.length < 64 then some (.f (.lst ((srtS ys).map D.str))) else none
  | _ => none
def sumL (ys : List Str) : Nat := (ys.map (·.length)).sum
/-- sep.join(xs) -/
def mJoin : MP := fun d ds vh => match d, ds with
  | .str a, [x] => (match view vh x with
    | .lst xs => (strsOf xs).bind fun ys => if sumL ys + ys.length * a.length ≤ lim then some (.v (.str (Txt.join a ys)), vh) else none
    | .tup xs => (strsOf xs).bind fun ys => if sumL ys + ys.length * a.length ≤ lim then some (.v (.str (Txt.join a ys)), vh) else none
    | _ => none)
  | _, _ => none
/-- xs.count(y) -/
def mCount : MP := fun d ds vh => match view vh d, ds with
  | .lst xs, [y] => (match scV y, scVs xs with
    | some a, some bs => some (.v (.int ((bs.countP fun z => eqV z a : Nat) : Int)), vh)
    | _, _ => none)
  | _, _ => none
theorem leS_antisymm {x y : Str} (h : leS x y = true) (k : leS y x = true) : x = y := by
  have e : x.cps.toList = y.cps.toList := List.le_antisymm (of_decide_eq_true h) (of_decide_eq_true k)
  cases x; cases y; simp only [Str.mk.injEq]; exact Array.toList_inj.mp e
theorem leS_trans (x y z : Str) (h : leS x y = true) (k : leS y z = true) : leS x z = true := decide_eq_true (List.le_trans (of_decide_eq_true h) (of_decide_eq_true k))
theorem leS_total (x y : Str) : (leS x y || leS y x) = true := by
  rcases List.le_total x.cps.toList y.cps.toList with h | h
  · rw [leS, decide_eq_true h]; rfl
  · rw [Bool.or_eq_true]; exact .inr (decide_eq_true h)
theorem ltC_le {x y : Str} (h : (!Spec.ltCps x.cps.toList y.cps.toList) = true) : leS y x = true := by
  rw [PyProof.Rows.ltCps_eq] at h
  exact decide_eq_true (List.not_lt.mp (by simpa using h))
theorem risingS_pw : ∀ (r : List Str) (p : Str), PyProof.Rows.risingS p r = true → (p :: r).Pairwise fun a b => leS a b = true
  | [], p, _ => by simp
  | x :: r, p, h => by
    simp only [PyProof.Rows.risingS, Bool.and_eq_true] at h
    have ih := risingS_pw r x h.2
    have h1 := ltC_le h.1
    refine List.pairwise_cons.mpr ⟨fun y hy => ?_, ih⟩
    rcases List.mem_cons.mp hy with rfl | hy
    · exact h1
    · exact leS_trans _ _ _ h1 ((List.pairwise_cons.mp ih).1 y hy)
theorem sortedS_pw {ys : List Str} (h : PyProof.Rows.sortedS ys = true) : ys.Pairwise fun a b => leS a b = true := by
  cases ys with
  | nil => exact .nil
  | cons x r => exact risingS_pw r x h
theorem srtS_eq {xs ys : List Str} (p : ys.Perm xs) (h : PyProof.Rows.sortedS ys = true) : ys = srtS xs :=
  List.Perm.eq_of_pairwise (le := fun a b => leS a b = true) (fun a b _ _ h k => leS_antisymm h k) (sortedS_pw h) (List.pairwise_mergeSort leS_trans leS_total xs) (p.trans (List.mergeSort_perm xs leS).symm)
section
variable {W : Wd} {C : Con} {Wx : WX} {X : Cx} {k : Nat} {g g0 : Gh} {H H0 : Hp} {σ : L2.St} {sl : Sl} {vh : VH} {φ ψ χ : EF} {α : AF} {pos : Pos} {e a b o : Expr} {x : Str} {p0 apos cpos : Pos}
theorem p_str : Prim1 W X (fun x H Q => (∃ i : Int, [x] = [V.int i] ∧ i.natAbs.log2 < 1920 ∧ Q (.str (toString i)) H) ∨ ∃ a : Str, [x] = [V.str a] ∧ Q (.str a) H) bStr := by
  intro C g H vh dx x Q h rx q s
  cases dx <;> try (simp [bStr] at s; done)
  · rw [rx.int]
    have hc := isSome_ite s
    exact .inl ⟨_, rfl, hc, q _ (if_pos hc) g H _ h (Ext.refl g H) (by simp only [RepE, Rep])⟩
  · rw [rx.str]
    exact .inr ⟨_, rfl, q _ rfl g H _ h (Ext.refl g H) (by simp only [RepE, Rep])⟩
theorem de_strc (hg : Gl X "str") (hm : X.mg "str" = none) (ha : DE W Wx X a φ) (he : starEach (a :: []) X.env = (false, eval a X.env) :: starEach [] X.env := by rfl) : DE W Wx X (.Call (.Name "str" p0) [a] [] pos) (e1 bStr φ) :=
  de_t1 (call_str_int.or SkE.call_str_str) p_str hg hm ha (he := he)
theorem strsOf_rep : ∀ {xs : List D} {vs : List V} {ys : List Str}, Reps W g H xs vs → strsOf xs = some ys → vs = ys.map V.str
  | [], vs, ys, r, e => by
    simp only [Reps] at r
    cases e
    exact r
  | x :: xs, vs, ys, r, e => by
    simp only [Reps] at r
    obtain ⟨v, s, rfl, h1, h2⟩ := r
    cases x with
    | str z =>
      simp only [strsOf] at e
      cases e2 : strsOf xs with
      | none => rw [e2] at e; cases e
      | some zs =>
        rw [e2] at e
        cases e
        rw [strsOf_rep h2 e2]
        simp only [Rep] at h1
        subst h1
        rfl
    | _ => cases e
theorem reps_strs (ys : List Str) : Reps W g H (ys.map D.str) (ys.map V.str) := by
  induction ys with
  | nil => exact Reps.nil
  | cons y r ih => exact Reps.cons (by simp only [Rep]) ih
theorem p_srt (hK : X.K = W.K) : Prim1 W X (fun x H Q => rSortedS X.K [x] H Q) bSrt := by
  intro C g H vh dx x Q h rx q s
  cases dx <;> try (simp [bSrt] at s; done)
  rename_i xs
  obtain ⟨a, vs, rfl, h1, r1⟩ := rx.lst
  simp only [bSrt] at s q
  cases e : strsOf xs with
  | none => rw [e] at s; cases s
  | some ys =>
    rw [e] at s q
    simp only [Option.bind_some] at s q
    have hc := isSome_ite s
    have ev := strsOf_rep r1 e
    subst ev
    refine ⟨a, ys, rfl, SqL.of h1, hc, fun zs p pm st np => ?_⟩
    have ez := srtS_eq pm st
    subst ez
    exact q _ (if_pos hc) _ _ _ (h.new np) (Ext.new h np) (new_lst h np (reps_strs _))
theorem de_srt (hK : X.K = W.K) (hg : Gl X "sorted") (hm : X.mg "sorted" = none) (ha : DE W Wx X a φ) (he : starEach (a :: []) X.env = (false, eval a X.env) :: starEach [] X.env := by rfl) : DE W Wx X (.Call (.Name "sorted" p0) [a] [] pos) (e1 bSrt φ) :=
  de_b1 cr_sortedS (p_srt hK) hg hm ha (he := he)
/-! ### count, join -/
def rCnt (K : PySem.W.Frag) : V → List V → Hp → VK → Prop := fun x xs H Q => ∃ (p : Addr) (ys : List V) (y : V), x = .ref p ∧ xs = [y] ∧ SqL K H p ys ∧ flatV y = true ∧ ys.all flatV = true ∧ Q (.int (ys.countP (fun z => eqV z y) : Nat)) H
theorem countU {y : V} : ∀ {xs : List V} {us : List Value}, Vals xs us → xs.all flatV = true → us.countP (eqU y) = xs.countP (fun z => eqV z y)
  | _, _, .nil, _ => rfl
  | _, _, .cons r t, f => by
    rw [List.all_cons, Bool.and_eq_true] at f
    rw [List.countP_cons, List.countP_cons, countU t f.2, eqU_of r f.1]
theorem mt_cnt : MtR X "list.count" (rCnt X.K) := by
  intro pins s σ H x xs v us Q I rx rxs h
  obtain ⟨p, ys, y, rfl, rfl, hs, fy, fys, q⟩ := h
  cases rx
  cases rxs with
  | cons ry rt =>
    rename_i uy ut
    cases rt
    obtain ⟨its, rv, ⟨⟨cls, dd, data, sl⟩, n, ho, hc, hdn, hd⟩, hlen⟩ := I.list hs
    simp only at hc hd
    subst hc hd
    refine call_meets PySem.F.slot_list_count ⟨_, ho, rfl⟩ PySem.F.entry_list_count (PySem.F.args_list_count_2 _ _)
      (SeqAt.list_countAt p its.toArray n dd sl uy (eqU y)) ⟨ho, fun u' hu' => mem_eqAt ry fy rv fys u' (by simpa using hu'), ?_⟩
    have ec : its.toArray.toList.countP (eqU y) = ys.countP (fun z => eqV z y) := countU rv fys
    refine ⟨.int (ys.countP (fun z => eqV z y) : Nat), H, I.tok _, ⟨s.toks, ?_⟩, q⟩
    show Value.int ((its.toArray.toList.countP (eqU y) : Nat) : Int) s.toks = Value.int ((ys.countP (fun z => eqV z y) : Nat) : Int) s.toks
    rw [ec]
theorem pm_count (hK : X.K = W.K) : PrimM W X (rCnt X.K) mCount := by
  intro C g H vh d ds x xs Q h rx rs q s
  have rv := h.view rx
  unfold mCount at s q
  cases e : view vh d with
  | lst zs =>
    rw [e] at s q rv
    obtain ⟨a, vs, rfl, h1, r1⟩ := rv.lst
    rcases ds with _ | ⟨y, _ | ⟨y2, ds⟩⟩
    · cases s
    · simp only [Reps] at rs
      obtain ⟨v, _, rfl, ry, rfl⟩ := rs
      dsimp only at s q
      cases e1 : scV y with
      | none => rw [e1] at s; cases s
      | some b =>
        cases e2 : scVs zs with
        | none => rw [e1, e2] at s; cases s
        | some bs =>
          rw [e1, e2] at q
          have evs : vs = bs := r1.sc e2
          have evb : v = b := RepW.sc (.inl ry) e1
          subst evs evb
          exact ⟨a, vs, v, rfl, rfl, SqL.of h1, scV_flat e1, scVs_flat e2, q _ _ rfl g H _ h (Ext.refl g H) (by simp only [RepE, Rep])⟩
    · cases s
  | _ => rw [e] at s; cases s
theorem de_count (hK : X.K = W.K) (ho : DE W Wx X o φ) (ha : DA W Wx X [a] α)
    (hbase : attributeBase o "count" X.env (eval o X.env) = eval o X.env := by rfl)
    (hfew : ((backTo cpos (starEach (a :: []) X.env)).all (fun x => !x.1) && (backToKw cpos (keywordEach [] X.env)).all (fun x => x.1.isSome)
      && decide ((a :: []).length + ([] : List Keyword).length + (if ([] : List Keyword).isEmpty then 0 else 1) < 30)) = true := by rfl)
    (hline : (apos.endLine == cpos.line) = true := by rfl) (hs : starEach (a :: []) X.env = (false, eval a X.env) :: starEach [] X.env := by rfl) : DE W Wx X (.Call (.Attribute o "count" apos) [a] [] cpos) (eM "list" mCount φ α) :=
  de_bm hK PySem.F.plainAttrs_list PySem.F.slot_list_count PySem.F.type_list_count mt_cnt (pm_count hK) ho ha hbase hfew hline hs
def rJoin (K : PySem.W.Frag) : V → List V → Hp → VK → Prop := fun x xs H Q => ∃ a p, ∃ ys : List Str, x = .str a ∧ xs = [.ref p] ∧ (SqL K H p (ys.map V.str) ∨ SqT K H p (ys.map V.str)) ∧ (ys.map (·.length)).sum + ys.length * a.length ≤ 16777216 ∧ Q (.str (Txt.join a ys)) H
theorem pm_join (hK : X.K = W.K) : PrimM W X (rJoin X.K) mJoin := by
  intro C g H vh d ds x xs Q h rx rs q s
  unfold mJoin at s q
  cases d with
  | str z =>
    simp only [Rep] at rx
    subst rx
    rcases ds with _ | ⟨y, _ | ⟨y2, ds⟩⟩
    · cases s
    · simp only [Reps] at rs
      obtain ⟨v, _, rfl, ry, rfl⟩ := rs
      have rv := h.view ry
      dsimp only at s q
      cases e : view vh y with
      | lst zs =>
        rw [e] at s q rv
        obtain ⟨a, vs, rfl, h1, r1⟩ := rv.lst
        dsimp only at s q
        cases e1 : strsOf zs with
        | none => rw [e1] at s; cases s
        | some ys =>
          rw [e1] at s q
          simp only [Option.bind_some] at s q
          have hc := isSome_ite s
          have ev := strsOf_rep r1 e1
          subst ev
          exact ⟨z, a, ys, rfl, rfl, .inl (SqL.of h1), by rw [lim_val] at hc; exact hc, q _ _ (if_pos hc) g H _ h (Ext.refl g H) (by simp only [RepE, Rep])⟩
      | tup zs =>
        rw [e] at s q rv
        obtain ⟨a, vs, rfl, h1, r1⟩ := rv.tup
        dsimp only at s q
        cases e1 : strsOf zs with
        | none => rw [e1] at s; cases s
        | some ys =>
          rw [e1] at s q
          simp only [Option.bind_some] at s q
          have hc := isSome_ite s
          have ev := strsOf_rep r1 e1
          subst ev
          exact ⟨z, a, ys, rfl, rfl, .inr (by rw [hK]; exact h1), by rw [lim_val] at hc; exact hc, q _ _ (if_pos hc) g H _ h (Ext.refl g H) (by simp only [RepE, Rep])⟩
      | _ => rw [e] at s; cases s
    · cases s
  | _ => cases s
theorem de_joinS (hK : X.K = W.K) (ho : DE W Wx X o φ) (ha : DA W Wx X [a] α)
    (hbase : attributeBase o "join" X.env (eval o X.env) = eval o X.env := by rfl)
    (hfew : ((backTo cpos (starEach (a :: []) X.env)).all (fun x => !x.1) && (backToKw cpos (keywordEach [] X.env)).all (fun x => x.1.isSome)
      && decide ((a :: []).length + ([] : List Keyword).length + (if ([] : List Keyword).isEmpty then 0 else 1) < 30)) = true := by rfl)
    (hline : (apos.endLine == cpos.line) = true := by rfl) (hs : starEach (a :: []) X.env = (false, eval a X.env) :: starEach [] X.env := by rfl) : DE W Wx X (.Call (.Attribute o "join" apos) [a] [] cpos) (eM "str" mJoin φ α) :=
  de_bm hK PySem.F.plainAttrs_str PySem.F.slot_str_join PySem.F.type_str_join mt_join (pm_join hK) ho ha hbase hfew hline hs
end
end
end PM

/-! PM30: setdefault, dict displays, dicts of the module. -/
namespace PM
open PySem L2
noncomputable section

/-! ### d.setdefault(k, x) -/
def isDctR (vh : VH) : D → Bool
  | .ref n => match vh[n]? with
    | some (.dct _) => true
    | _ => false
  | _ => false
def dSetd (d y z : D) (vh : VH) : R EV := match d with
  | .ref n => (match vh[n]? with
    | some (.dct kvs) => (match keyD y with
      | some ky => if kvs.length < lim then (match dget kvs ky with
        | some v => .ok (.v v) vh
        | none => .ok (.v z) (vh.set n (.dct (dput kvs y z)))) else .bad
      | none => .bad)
    | _ => .bad)
  | _ => .bad
def eSetd (φ ψ χ : EF) : EF := eb φ fun d => fun sl vh => if isDctR vh d = true then eb ψ (fun y => eb χ fun z _ vh => dSetd d y z vh) sl vh else .bad
section
variable {W : Wd} {C : Con} {Wx : WX} {X : Cx} {k : Nat} {g g0 : Gh} {H H0 : Hp} {σ : L2.St} {sl : Sl} {vh : VH} {φ ψ χ : EF} {α : AF} {pos : Pos} {e a b o : Expr} {x : Str} {p0 apos cpos : Pos}
theorem de_setd (ho : DE W Wx X o φ) (ha : DE W Wx X a ψ) (hb : DE W Wx X b χ)
    (hbase : attributeBase o "setdefault" X.env (eval o X.env) = eval o X.env := by rfl)
    (hfew : ((backTo cpos (starEach [a, b] X.env)).all (fun x => !x.1) && (backToKw cpos (keywordEach [] X.env)).all (fun x => x.1.isSome)
      && decide (([a, b] : List Expr).length + ([] : List Keyword).length + (if ([] : List Keyword).isEmpty then 0 else 1) < 30)) = true := by rfl)
    (hline : (apos.endLine == cpos.line) = true := by rfl) (htr : backTo cpos (starEach [a, b] X.env) = [(false, eval a X.env), (false, eval b X.env)] := by rfl) :
    DE W Wx X (.Call (.Attribute o "setdefault" apos) [a, b] [] cpos) (eSetd φ ψ χ) := fun C =>
  pe_imp (pe_dsetd (ho C) (ha C) (hb C) ⟨hbase, hfew, hline, htr⟩) fun σ H Q ⟨g, sl, vh, h, hs, q⟩ =>
    (TDE.bind h hs (Ext.refl g H) q).mono fun v1 H1 ⟨g1, vh1, d, i1, s1, x1, _, p1, q1⟩ => by
      split at q1
      · rename_i hd
        cases d with
        | ref n =>
          simp only [isDctR] at hd
          simp only [Rep] at p1
          obtain ⟨hn, rfl⟩ := p1
          cases en : vh1[n]? with
          | none => rw [en] at hd; cases hd
          | some ob =>
            rw [en] at hd
            cases ob with
            | dct kvs =>
              obtain ⟨ws, hw, _⟩ := i1.vh n _ en
              refine ⟨_, rfl, .inl ⟨ws, .inl hw⟩, ?_⟩
              refine (TDE.bind i1 s1 x1 q1).mono fun v2 H2 ⟨g2, vh2, y, i2, s2, x2, x2', p2, q2⟩ => ?_
              refine (TDE.bind i2 s2 x2 q2).mono fun v3 H3 ⟨g3, vh3, z, i3, s3, x3, x3', p3, q3⟩ => ?_
              have hn3 : n < g3.n := Nat.lt_of_lt_of_le hn (Nat.le_trans x2'.n x3'.n)
              have em : g3.m n = g1.m n := (x3'.m n (Nat.lt_of_lt_of_le hn x2'.n)).trans (x2'.m n hn)
              simp only [dSetd] at q3
              cases en3 : vh3[n]? with
              | none => rw [en3] at q3; exact q3.elim
              | some ob3 =>
                rw [en3] at q3
                cases ob3 with
                | dct kvs3 =>
                  dsimp only at q3
                  cases ek : keyD y with
                  | none => rw [ek] at q3; exact q3.elim
                  | some ky =>
                    rw [ek] at q3
                    dsimp only at q3
                    split at q3
                    · rename_i hl
                      obtain ⟨ws3, hw3, rk⟩ := i3.vh n _ en3
                      rw [em] at hw3
                      have p2' := Rep.mono x3' _ _ p2
                      refine ⟨ws3, ky, hw3, keyD_kV (.inl p2') ek, by rw [← rk.length, ← lim_eq]; exact hl, ?_, ?_⟩
                      · intro v hv
                        rcases rk.get ky with ⟨e1, e2⟩ | ⟨d2, v2, e1, e2, r2⟩
                        · rw [e2] at hv; cases hv
                        · rw [e2] at hv
                          cases hv
                          rw [e1] at q3
                          exact q3 g3 H3 v i3 s3 x3 r2
                      · intro hv
                        rcases rk.get ky with ⟨e1, e2⟩ | ⟨d2, v2, e1, e2, r2⟩
                        · rw [e1] at q3
                          have xw := Ext.write (u := .dK (putK ws3 ky v3)) i3 hn3
                          rw [← em]
                          exact q3 g3 _ v3 (i3.write hn3 ⟨_, upd_same, (RepKV.mono xw _ _ (rk.put ek p3))⟩) (s3.mono xw) (x3.trans xw) (Rep.mono xw _ _ p3)
                        · rw [e2] at hv; cases hv
                    · exact q3.elim
                | _ => exact q3.elim
            | _ => cases hd
        | _ => simp [isDctR] at hd
      · exact q1.elim

/-! ### {k: v, ..} -/
def ePairs : List (EF × EF) → Sl → VH → R (List (D × D))
  | [], _, vh => .ok [] vh
  | (φ, ψ) :: r, sl, vh => match φ sl vh with
    | .ok x vh1 => (match ψ sl vh1 with
      | .ok y vh2 => (match ePairs r sl vh2 with
        | .ok l vh3 => .ok ((x.d, y.d) :: l) vh3
        | .exc x vh' => .exc x vh'
        | .bad => .bad)
      | .exc x vh' => .exc x vh'
      | .bad => .bad)
    | .exc x vh' => .exc x vh'
    | .bad => .bad
def okKeys (l : List (D × D)) : Bool := l.all fun p => (keyD p.1).isSome
def eDisp (ps : List (EF × EF)) : EF := fun sl vh => match ePairs ps sl vh with
  | .ok l vh' => if okKeys l = true then .ok (.f (.dct (dmerge [] l))) vh' else .bad
  | .exc x vh' => .exc x vh'
  | .bad => .bad
inductive DPs (W : Wd) (Wx : WX) (X : Cx) : List (Option Expr) → List Expr → List (EF × EF) → Prop where
  | nil : DPs W Wx X [] [] []
  | cons {k v : Expr} {ks : List (Option Expr)} {vs : List Expr} {φ ψ : EF} {ps : List (EF × EF)} (h1 : DE W Wx X k φ) (h2 : DE W Wx X v ψ) (r : DPs W Wx X ks vs ps) : DPs W Wx X (some k :: ks) (v :: vs) ((φ, ψ) :: ps)
theorem DPs.pps {ks : List (Option Expr)} {vs : List Expr} {ps : List (EF × EF)} (h : DPs W Wx X ks vs ps) (C : Con) : PPs X pos ks vs (ps.map fun p => (TDE W C Wx p.1, TDE W C Wx p.2)) := by
  induction h with
  | nil => exact pps_nil
  | cons h1 h2 _ ih => exact pps_cons (h1 C) (h2 C) ih
theorem DPs.all {ks : List (Option Expr)} {vs : List Expr} {ps : List (EF × EF)} (h : DPs W Wx X ks vs ps) : ks.all (·.isSome) = true ∧ ks.length = vs.length := by
  induction h with
  | nil => exact ⟨rfl, rfl⟩
  | cons h1 h2 _ ih => exact ⟨by simp [ih.1], by simp [ih.2]⟩
/-- pairs as represented -/
def RepPs (W : Wd) (g : Gh) (H : Hp) : List (D × D) → List (V × V) → Prop
  | [], l => l = []
  | (x, y) :: r, l => ∃ u v s, l = (u, v) :: s ∧ Rep W g H x u ∧ Rep W g H y v ∧ RepPs W g H r s
def TDX (W : Wd) (Wx : WX) (φ : EF) : TE := fun σ H Q => ∃ C, TDE W C Wx φ σ H Q
theorem de_tx (h : DE W Wx X e φ) : PE X e (TDX W Wx φ) := ⟨fun pins s σ H Q I ⟨C, q⟩ => (h C).run pins s σ H Q I q⟩
theorem DPs.ppx {ks : List (Option Expr)} {vs : List Expr} {ps : List (EF × EF)} (h : DPs W Wx X ks vs ps) : PPs X pos ks vs (ps.map fun p => (TDX W Wx p.1, TDX W Wx p.2)) := by
  induction h with
  | nil => exact pps_nil
  | cons h1 h2 _ ih => exact pps_cons (de_tx h1) (de_tx h2) ih
def PostP (W : Wd) (C : Con) (Wx : WX) (g0 : Gh) (H0 : Hp) (σ : L2.St) (sl : Sl) (r : R (List (D × D))) (K : List (V × V) → Hp → Prop) : Prop := match r with
  | .bad => False
  | .ok l vh => ∀ g H ws, RelH W C g vh H → RelS W g H sl σ → Ext g0 H0 g H → RepPs W g H l ws → K ws H
  | .exc x vh => ∀ g H c od, RelH W C g vh H → RelS W g H sl σ → Ext g0 H0 g H → XRep W g H x c od → Wx c od σ H
theorem pairs_run : ∀ (ps : List (EF × EF)) (g : Gh) (H : Hp) (vh : VH) (K : List (V × V) → Hp → Prop), RelH W C g vh H → RelS W g H sl σ → PostP W C Wx g H σ sl (ePairs ps sl vh) K →
    tPairs (ps.map fun p => (TDX W Wx p.1, TDX W Wx p.2)) σ H K
  | [], g, H, vh, K, h, hs, q => q g H [] h hs (Ext.refl g H) rfl
  | (φ, ψ) :: r, g, H, vh, K, h, hs, q => by
    show TDX W Wx φ σ H _
    refine ⟨C, g, sl, vh, h, hs, ?_⟩
    unfold ePairs at q
    cases r1 : φ sl vh with
    | bad => rw [r1] at q; exact q
    | exc x vh' => rw [r1] at q; exact q
    | ok ev vh1 =>
      rw [r1] at q
      intro g1 H1 v1 h1 s1 x1 p1
      obtain ⟨g2, h2, x2, p2⟩ := p1.freeze h1
      refine ⟨C, g2, sl, vh1, h2, s1.mono x2, ?_⟩
      show PostE W C Wx g2 H1 σ sl (ψ sl vh1) _
      dsimp only at q
      cases r2 : ψ sl vh1 with
      | bad => rw [r2] at q; exact q
      | exc x vh' => rw [r2] at q; exact fun g3 H3 c od a b d e => q g3 H3 c od a b ((x1.trans x2).trans d) e
      | ok ev2 vh2 =>
        rw [r2] at q
        intro g3 H3 v3 h3 s3 x3 p3
        obtain ⟨g4, h4, x4, p4⟩ := p3.freeze h3
        have xx := (x1.trans x2).trans (x3.trans x4)
        refine pairs_run r g4 H3 vh2 _ h4 (s3.mono x4) ?_
        dsimp only at q
        cases r3 : ePairs r sl vh2 with
        | bad => rw [r3] at q; exact q
        | exc x vh' => rw [r3] at q; exact fun g5 H5 c od a b d e => q g5 H5 c od a b (xx.trans d) e
        | ok l vh3 =>
          rw [r3] at q
          exact fun g5 H5 ws h5 s5 x5 rp => q g5 H5 _ h5 s5 (xx.trans x5) ⟨_, _, _, rfl, Rep.mono ((x3.trans x4).trans x5) _ _ p2, Rep.mono x5 _ _ p4, rp⟩
theorem RepPs.kv : ∀ {l : List (D × D)} {ws : List (V × V)}, RepPs W g H l ws → okKeys l = true → ∃ kvs : List (Key × V), ws = kvs.map (fun kv => (kV kv.1, kv.2)) ∧ RepKV W g H l kvs ∧ kvs.length = l.length
  | [], ws, r, _ => ⟨[], r, by simp [RepKV], rfl⟩
  | (x, y) :: l, ws, r, o => by
    obtain ⟨u, v, s, rfl, h1, h2, h3⟩ := r
    simp only [okKeys, List.all_cons, Bool.and_eq_true] at o
    cases ek : keyD x with
    | none => rw [ek] at o; exact absurd o.1 (by simp)
    | some ky =>
      obtain ⟨kvs, e1, e2, e3⟩ := RepPs.kv h3 o.2
      refine ⟨(ky, v) :: kvs, ?_, ?_, by simp [e3]⟩
      · rw [List.map_cons, ← e1, keyD_kV (.inl h1) ek]
      · simp only [RepKV]; exact ⟨ky, v, kvs, rfl, ek, h2, e2⟩
theorem ePairs_len : ∀ {ps : List (EF × EF)} {vh vh' : VH} {l : List (D × D)}, ePairs ps sl vh = .ok l vh' → l.length = ps.length
  | [], vh, vh', l, e => by cases e; rfl
  | (φ, ψ) :: r, vh, vh', l, e => by
    unfold ePairs at e
    cases r1 : φ sl vh with
    | bad => rw [r1] at e; cases e
    | exc x vh' => rw [r1] at e; cases e
    | ok ev vh1 =>
      rw [r1] at e
      dsimp only at e
      cases r2 : ψ sl vh1 with
      | bad => rw [r2] at e; cases e
      | exc x vh' => rw [r2] at e; cases e
      | ok ev2 vh2 =>
        rw [r2] at e
        dsimp only at e
        cases r3 : ePairs r sl vh2 with
        | bad => rw [r3] at e; cases e
        | exc x vh' => rw [r3] at e; cases e
        | ok l2 vh3 =>
          rw [r3] at e
          cases e
          simp [ePairs_len r3]
theorem DPs.len {ks : List (Option Expr)} {vs : List Expr} {ps : List (EF × EF)} (h : DPs W Wx X ks vs ps) : ps.length = ks.length := by
  induction h with
  | nil => rfl
  | cons h1 h2 _ ih => simp [ih]
theorem de_disp {ks : List (Option Expr)} {vs : List Expr} {ps : List (EF × EF)} (hp : DPs W Wx X ks vs ps) (h0 : ks ≠ [] := by exact fun h => nomatch h) (h15 : ks.length ≤ 15 := by decide) : DE W Wx X (.Dict ks vs pos) (eDisp ps) := fun C =>
  pe_imp (pe_disp hp.ppx hp.all.1 hp.all.2 h0 h15) fun σ H Q ⟨g, sl, vh, h, hs, q⟩ p np => by
    have hD : (upd H p (.dK [])) p ≠ none := by rw [upd_same]; exact fun z => by cases z
    obtain ⟨f1, f2, f3⟩ := h.free np
    have p1 : Pend C g p := ⟨f1, f2, f3⟩
    have xn : Ext g H g (upd H p (.dK [])) := Ext.new h np
    have h1 : RelH W C g vh (upd H p (.dK [])) := h.new np
    have hk := h1.keep p1 hD
    refine pairs_run ps g _ vh _ hk (hs.mono xn) ?_
    unfold eDisp at q
    cases r : ePairs ps sl vh with
    | bad => rw [r] at q; exact q
    | exc x vh' =>
      rw [r] at q
      exact fun g2 H2 c od a b d e => q g2 H2 c od (h1.unkeep p1 a).1 b (xn.trans d) e
    | ok l vh' =>
      rw [r] at q
      dsimp only at q
      split at q
      · rename_i ho
        intro g2 H2 ws h2 s2 x2 rp
        obtain ⟨h3, p3, e3⟩ := h1.unkeep p1 h2
        obtain ⟨kvs, e1, e2, e4⟩ := rp.kv ho
        refine ⟨by rw [e3, upd_same], kvs, e1, ?_, ?_⟩
        · have := ePairs_len r
          have := hp.len
          omega
        · have xu := Ext.upd (H := H2) (u := .dK (mergeK [] kvs)) p3.nf
          exact q g2 _ (.ref p) (h3.pend p3) (s2.mono xu) ((xn.trans x2).trans xu) ⟨p, rfl, ⟨_, upd_same, RepKV.mono xu _ _ (e2.merge (by simp [RepKV]))⟩, p3.nf, p3.np, p3.nfr⟩
      · exact q.elim

/-! ### dicts of the module: text keys, written values -/
def gdcB (K : PySem.W.Frag) (x : Str) (kvs : List (D × D)) : Bool := kvs.all fun p => match p.1 with
  | .str z => (match PySem.W.nsIn K (He.ga K x) z with
    | some (some u) => valB K p.2 u
    | _ => false)
  | _ => false
def GlDc (K : PySem.W.Frag) (w : World) (mg : Str → Option Value) (x : Str) (kvs : List (D × D)) : Prop :=
  ∃ a, mg x = some (.ref a) ∧ ∀ z d, dget kvs (.inr z) = some d → ∃ v, KDct K w a z v ∧ ∀ (W : Wd) (g : Gh) (H : Hp), W.K = K → Rep W g H d v
theorem dget_mem {z : Str} {d : D} : ∀ {kvs : List (D × D)}, dget kvs (.inr z) = some d → (D.str z, d) ∈ kvs
  | [], e => by cases e
  | (k, x) :: r, e => by
    unfold dget at e
    split at e
    · rename_i hk
      cases e
      cases k with
      | str y =>
        simp only [keyD, Option.some.injEq, Sum.inr.injEq] at hk
        subst hk
        exact List.mem_cons_self ..
      | int i => simp [keyD] at hk
      | _ => cases hk
    · exact List.mem_cons_of_mem _ (dget_mem e)
theorem glDc_of {K : PySem.W.Frag} {w : World} {mg : Str → Option Value} {x : Str} {kvs : List (D × D)} (hm : mg x = some (.ref (He.ga K x))) (c : gdcB K x kvs = true) (t : ∃ es n, KDict K w (He.ga K x) es n) : GlDc K w mg x kvs := by
  obtain ⟨es, n, t⟩ := t
  refine ⟨_, hm, fun z d e => ?_⟩
  have h1 := List.all_eq_true.mp c _ (dget_mem e)
  dsimp only at h1
  cases e2 : PySem.W.nsIn K (He.ga K x) z with
  | none => rw [e2] at h1; cases h1
  | some r =>
    rw [e2] at h1
    cases r with
    | none => cases h1
    | some u =>
      obtain ⟨v, r1, r2⟩ := valB_ok h1
      exact ⟨v, ⟨es, n, u, t.at_, t.lit, e2, r1⟩, r2⟩
def pGdc (kvs : List (D × D)) : D → Option EV
  | .str z => (dget kvs (.inr z)).map EV.v
  | _ => none
theorem de_gix {kvs : List (D × D)} (hK : X.K = W.K) (hg : Gl X x) (c : GlDc W.K X.w X.mg x kvs) (hb : DE W Wx X b φ) (hs : PlainIx b) (hd : (x == ("__debug__" : Str)) = false := by decide) :
    DE W Wx X (.Subscript (.Name x p0) b pos) (e1 (pGdc kvs) φ) := by
  obtain ⟨pa, hm, ha⟩ := c
  refine de_1 hb (r := fun y H2 Q => L2.rIxD X.K X.w (.ref pa) y H2 Q) ?_ fun tb h => pe_imp (pe_ix ix_kdict (pe_glob hg hm (v := .ref pa) rfl hd) h hs) fun σ H Q q => q
  intro C g H vh dx y Q h rx q s
  cases dx <;> try (simp [pGdc] at s; done)
  rename_i z
  rw [rx.str]
  simp only [pGdc] at s q
  cases e : dget kvs (.inr z) with
  | none => rw [e] at s; cases s
  | some d =>
    rw [e] at q
    obtain ⟨v, kd, rr⟩ := ha z d e
    exact ⟨pa, z, v, rfl, rfl, by rw [hK]; exact kd, q _ rfl g H v h (Ext.refl g H) (rr W g H rfl)⟩
end
end
end PM

/-! PM31: small facts for printed heads. -/
namespace PM
open PySem L2
theorem fl_of {K : PySem.W.Frag} {C : Addr} {l : List Str} {f : Str} (h : l.contains f = true) (hc : Cls K C) (hn : ∀ x ∈ l, NoAttr K C x) : Cls K C ∧ NoAttr K C f := ⟨hc, hn f (List.contains_iff_mem.mp h)⟩
end PM

/-! PM32: data that can be compared with itself. -/
namespace PM
open PySem L2
def Cp (k : Nat) (d : D) : Prop := ∃ p, toPy d = some p ∧ p.canLay0 = true ∧ p.depth ≤ k
def Cps (k : Nat) (ds : List D) : Prop := ∃ ps, toPys ds = some ps ∧ PyData.canLayAll0 ps = true ∧ PyData.depthAll ps ≤ k
theorem Cps.nil {k : Nat} : Cps k [] := ⟨[], by simp [toPys], by simp [PyData.canLayAll0], by simp [PyData.depthAll]⟩
theorem Cps.cons {k : Nat} {d : D} {ds : List D} (h : Cp k d) (r : Cps k ds) : Cps k (d :: ds) := by
  obtain ⟨p, e, c, l⟩ := h
  obtain ⟨ps, e2, c2, l2⟩ := r
  exact ⟨p :: ps, by simp [toPys, e, e2], by simp [PyData.canLayAll0, c, c2], by simp only [PyData.depthAll]; omega⟩
theorem Cp.tup {k : Nat} {ds : List D} (h : Cps k ds) : Cp (k + 1) (.tup ds) := by
  obtain ⟨ps, e, c, l⟩ := h
  exact ⟨.tuple ps, by simp [toPy, e], by simpa [PyData.canLay0] using c, by simp only [PyData.depth]; omega⟩
theorem Cp.lst {k : Nat} {ds : List D} (h : Cps k ds) : Cp (k + 1) (.lst ds) := by
  obtain ⟨ps, e, c, l⟩ := h
  exact ⟨.list ps, by simp [toPy, e], by simpa [PyData.canLay0] using c, by simp only [PyData.depth]; omega⟩
theorem Cp.non {k : Nat} : Cp k .non := ⟨.none, by simp [toPy], by simp [PyData.canLay0], by simp [PyData.depth]⟩
theorem Cp.int {k : Nat} (i : Int) : Cp k (.int i) := ⟨.int i, by simp [toPy], by simp [PyData.canLay0], by simp [PyData.depth]⟩
theorem Cp.bl {k : Nat} (b : Bool) : Cp k (.bl b) := ⟨.bool b, by simp [toPy], by simp [PyData.canLay0], by simp [PyData.depth]⟩
theorem Cp.str {k : Nat} {x : Str} (h : ∀ c ∈ x.cps.toList, c < 0x110000) : Cp k (.str x) := by
  refine ⟨.str x, by simp [toPy], ?_, by simp [PyData.depth]⟩
  simp only [PyData.canLay0, PyData.strOk]
  rw [← Array.all_toList, List.all_eq_true]
  exact fun c hc => decide_eq_true (h c hc)
theorem Cp.mono {k l : Nat} {d : D} (h : Cp k d) (hl : k ≤ l) : Cp l d := by
  obtain ⟨p, e, c, b⟩ := h
  exact ⟨p, e, c, by omega⟩
theorem Cp.deep {d : D} (h : Cp 64 d) : eqDeep d d = some true := by
  obtain ⟨p, e, c, b⟩ := h
  have s : SeqAt.shaped p = true := by simp [SeqAt.shaped, c, b]
  simp only [eqDeep, e, s]
  simp
  exact PySem.SeqAt.eqv_refl_plain p (PyData.plain_of_canLay0 p c)
theorem ne_tup {ds : List D} (h : Cp 64 (.tup ds)) : opNe (.tup ds) (.tup ds) = some (.v (.bl false)) := by
  simp only [opNe, eqD, scV, h.deep]; rfl
theorem eq_tup {ds : List D} (h : Cp 64 (.tup ds)) : opEq (.tup ds) (.tup ds) = some (.v (.bl true)) := by
  simp only [opEq, eqD, scV, h.deep]; rfl
end PM

namespace PM
open PySem L2
def top (i : Nat) : Stmt := PySem.Challenge.pw_anystore_k31_expressions_written.main.body.getD i (.Pass ⟨0, 0, 0, 0⟩)
abbrev s_expression_text : Stmt := top 3
abbrev s_test_text : Stmt := top 4
abbrev s_made : Stmt := top 7
abbrev s_worth : Stmt := top 8
abbrev s_holds : Stmt := top 9
abbrev s__law_bag : Stmt := top 11
abbrev s__law_take : Stmt := top 12
abbrev s__law_of : Stmt := top 13
abbrev s__law_names : Stmt := top 15
abbrev s__law_worth : Stmt := top 16
abbrev s__law_holds : Stmt := top 17
abbrev s__law_term_shown : Stmt := top 18
abbrev s__law_test_shown : Stmt := top 19
abbrev s__law_deep_term : Stmt := top 20
abbrev s__law_deep_test : Stmt := top 21
abbrev s__law_are_right : Stmt := top 22
abbrev s_law : Stmt := top 23
abbrev gv_JOINTS : D := .tup [.str "both", .str "either"]
abbrev gdv_SIGNS : List (D × D) := [(.str "plus", .str "+"), (.str "less", .str "-"), (.str "times", .str "*"), (.str "over", .str "//"), (.str "rest", .str "rest")]
abbrev gdv_TEST_SIGNS : List (D × D) := [(.str "is", .str "=="), (.str "below", .str "<"), (.str "both", .str "and"), (.str "either", .str "or")]
def faT : Nat → Str → Bool
  | _, _ => false
def clsOf (K : PySem.W.Frag) : Nat → Addr
  | _ => 0
structure Wo (W : Wd) (w : World) (mg : Str → Option Value) where
  flds : Flds W W.K faT
  a_expression_text : Addr
  fd_expression_text : FuncData
  F_expression_text : Fun W.K "expression_text" "expression_text" s_expression_text [] [] a_expression_text fd_expression_text
  g_expression_text : mg "expression_text" = some (.ref a_expression_text)
  a_test_text : Addr
  fd_test_text : FuncData
  F_test_text : Fun W.K "test_text" "test_text" s_test_text [] [] a_test_text fd_test_text
  g_test_text : mg "test_text" = some (.ref a_test_text)
  a_made : Addr
  fd_made : FuncData
  F_made : Fun W.K "made" "made" s_made [] [] a_made fd_made
  g_made : mg "made" = some (.ref a_made)
  a_worth : Addr
  fd_worth : FuncData
  F_worth : Fun W.K "worth" "worth" s_worth [] [("asked", .int 0), ("told", .int 0)] a_worth fd_worth
  g_worth : mg "worth" = some (.ref a_worth)
  a_holds : Addr
  fd_holds : FuncData
  F_holds : Fun W.K "holds" "holds" s_holds [] [("asked", .int 0), ("told", .int 0)] a_holds fd_holds
  g_holds : mg "holds" = some (.ref a_holds)
  a__law_bag : Addr
  fd__law_bag : FuncData
  F__law_bag : Fun W.K "_law_bag" "_law_bag" s__law_bag [] [] a__law_bag fd__law_bag
  g__law_bag : mg "_law_bag" = some (.ref a__law_bag)
  a__law_take : Addr
  fd__law_take : FuncData
  F__law_take : Fun W.K "_law_take" "_law_take" s__law_take [] [] a__law_take fd__law_take
  g__law_take : mg "_law_take" = some (.ref a__law_take)
  a__law_of : Addr
  fd__law_of : FuncData
  F__law_of : Fun W.K "_law_of" "_law_of" s__law_of [] [] a__law_of fd__law_of
  g__law_of : mg "_law_of" = some (.ref a__law_of)
  a__law_names : Addr
  fd__law_names : FuncData
  F__law_names : Fun W.K "_law_names" "_law_names" s__law_names [] [] a__law_names fd__law_names
  g__law_names : mg "_law_names" = some (.ref a__law_names)
  a__law_worth : Addr
  fd__law_worth : FuncData
  F__law_worth : Fun W.K "_law_worth" "_law_worth" s__law_worth [] [] a__law_worth fd__law_worth
  g__law_worth : mg "_law_worth" = some (.ref a__law_worth)
  a__law_holds : Addr
  fd__law_holds : FuncData
  F__law_holds : Fun W.K "_law_holds" "_law_holds" s__law_holds [] [] a__law_holds fd__law_holds
  g__law_holds : mg "_law_holds" = some (.ref a__law_holds)
  a__law_term_shown : Addr
  fd__law_term_shown : FuncData
  F__law_term_shown : Fun W.K "_law_term_shown" "_law_term_shown" s__law_term_shown [] [] a__law_term_shown fd__law_term_shown
  g__law_term_shown : mg "_law_term_shown" = some (.ref a__law_term_shown)
  a__law_test_shown : Addr
  fd__law_test_shown : FuncData
  F__law_test_shown : Fun W.K "_law_test_shown" "_law_test_shown" s__law_test_shown [] [] a__law_test_shown fd__law_test_shown
  g__law_test_shown : mg "_law_test_shown" = some (.ref a__law_test_shown)
  a__law_deep_term : Addr
  fd__law_deep_term : FuncData
  F__law_deep_term : Fun W.K "_law_deep_term" "_law_deep_term" s__law_deep_term [] [] a__law_deep_term fd__law_deep_term
  g__law_deep_term : mg "_law_deep_term" = some (.ref a__law_deep_term)
  a__law_deep_test : Addr
  fd__law_deep_test : FuncData
  F__law_deep_test : Fun W.K "_law_deep_test" "_law_deep_test" s__law_deep_test [] [] a__law_deep_test fd__law_deep_test
  g__law_deep_test : mg "_law_deep_test" = some (.ref a__law_deep_test)
  a__law_are_right : Addr
  fd__law_are_right : FuncData
  F__law_are_right : Fun W.K "_law_are_right" "_law_are_right" s__law_are_right [] [] a__law_are_right fd__law_are_right
  g__law_are_right : mg "_law_are_right" = some (.ref a__law_are_right)
  a_law : Addr
  fd_law : FuncData
  F_law : Fun W.K "law" "law" s_law [] [] a_law fd_law
  g_law : mg "law" = some (.ref a_law)
  n_abs : mg "abs" = none
  n_all : mg "all" = none
  n_any : mg "any" = none
  n_dict : mg "dict" = none
  n_int : mg "int" = none
  n_len : mg "len" = none
  n_max : mg "max" = none
  n_min : mg "min" = none
  n_range : mg "range" = none
  n_repr : mg "repr" = none
  n_sorted : mg "sorted" = none
  n_str : mg "str" = none
  c_JOINTS : GlV W.K mg "JOINTS" gv_JOINTS
  gd_SIGNS : GlDc W.K w mg "SIGNS" gdv_SIGNS
  gd_TEST_SIGNS : GlDc W.K w mg "TEST_SIGNS" gdv_TEST_SIGNS
section
variable {W : Wd} {w : World} {mg : Str → Option Value}
abbrev ar0_expression_text : List D → List D := id
theorem pt0_expression_text (o : Wo W w mg) : Pat W o.fd_expression_text ["expression"] 1 [] ar0_expression_text := Pat.pos0 o.F_expression_text fun _ _ _ _ _ _ us hl => match us, hl with | [_], _ => rfl
abbrev ar0_test_text : List D → List D := id
theorem pt0_test_text (o : Wo W w mg) : Pat W o.fd_test_text ["test"] 1 [] ar0_test_text := Pat.pos0 o.F_test_text fun _ _ _ _ _ _ us hl => match us, hl with | [_], _ => rfl
abbrev ar0_worth : List D → List D := arrOf [0, 1, 2, 3] []
theorem pt0_worth (o : Wo W w mg) : Pat W o.fd_worth ["expression", "boxes", "asked", "told"] 2 ["asked", "told"] ar0_worth := Pat.full o.F_worth 2 ["asked", "told"] [0, 1, 2, 3] rfl (by decide) fun _ _ _ _ _ _ us ws h1 h2 => match us, ws, h1, h2 with | [_, _], [_, _], _, _ => rfl
abbrev ar0_made : List D → List D := id
theorem pt0_made (o : Wo W w mg) : Pat W o.fd_made ["deed", "one", "other"] 3 [] ar0_made := Pat.pos0 o.F_made fun _ _ _ _ _ _ us hl => match us, hl with | [_, _, _], _ => rfl
abbrev ar0_holds : List D → List D := arrOf [0, 1, 2, 3] []
theorem pt0_holds (o : Wo W w mg) : Pat W o.fd_holds ["test", "boxes", "asked", "told"] 2 ["asked", "told"] ar0_holds := Pat.full o.F_holds 2 ["asked", "told"] [0, 1, 2, 3] rfl (by decide) fun _ _ _ _ _ _ us ws h1 h2 => match us, ws, h1, h2 with | [_, _], [_, _], _, _ => rfl
abbrev ar0__law_take : List D → List D := id
theorem pt0__law_take (o : Wo W w mg) : Pat W o.fd__law_take ["_law_bag_here", "_law_often"] 2 [] ar0__law_take := Pat.pos0 o.F__law_take fun _ _ _ _ _ _ us hl => match us, hl with | [_, _], _ => rfl
abbrev ar0__law_of : List D → List D := id
theorem pt0__law_of (o : Wo W w mg) : Pat W o.fd__law_of ["_law_bag_here", "_law_some"] 2 [] ar0__law_of := Pat.pos0 o.F__law_of fun _ _ _ _ _ _ us hl => match us, hl with | [_, _], _ => rfl
abbrev ar0__law_worth : List D → List D := id
theorem pt0__law_worth (o : Wo W w mg) : Pat W o.fd__law_worth ["_law_term", "_law_jars", "_law_wanted", "_law_said"] 4 [] ar0__law_worth := Pat.pos0 o.F__law_worth fun _ _ _ _ _ _ us hl => match us, hl with | [_, _, _, _], _ => rfl
abbrev ar0__law_holds : List D → List D := id
theorem pt0__law_holds (o : Wo W w mg) : Pat W o.fd__law_holds ["_law_test", "_law_jars", "_law_wanted", "_law_said"] 4 [] ar0__law_holds := Pat.pos0 o.F__law_holds fun _ _ _ _ _ _ us hl => match us, hl with | [_, _, _, _], _ => rfl
abbrev ar0__law_term_shown : List D → List D := id
theorem pt0__law_term_shown (o : Wo W w mg) : Pat W o.fd__law_term_shown ["_law_term"] 1 [] ar0__law_term_shown := Pat.pos0 o.F__law_term_shown fun _ _ _ _ _ _ us hl => match us, hl with | [_], _ => rfl
abbrev ar0__law_test_shown : List D → List D := id
theorem pt0__law_test_shown (o : Wo W w mg) : Pat W o.fd__law_test_shown ["_law_test"] 1 [] ar0__law_test_shown := Pat.pos0 o.F__law_test_shown fun _ _ _ _ _ _ us hl => match us, hl with | [_], _ => rfl
abbrev ar0__law_deep_term : List D → List D := id
theorem pt0__law_deep_term (o : Wo W w mg) : Pat W o.fd__law_deep_term ["_law_bag_here", "_law_names_here", "_law_most", "_law_deep"] 4 [] ar0__law_deep_term := Pat.pos0 o.F__law_deep_term fun _ _ _ _ _ _ us hl => match us, hl with | [_, _, _, _], _ => rfl
abbrev ar0__law_deep_test : List D → List D := id
theorem pt0__law_deep_test (o : Wo W w mg) : Pat W o.fd__law_deep_test ["_law_bag_here", "_law_names_here", "_law_most", "_law_deep"] 4 [] ar0__law_deep_test := Pat.pos0 o.F__law_deep_test fun _ _ _ _ _ _ us hl => match us, hl with | [_, _, _, _], _ => rfl
abbrev ar1_holds : List D → List D := arrOf [0, 1, 3, 2] [.int 0]
theorem pt1_holds (o : Wo W w mg) : Pat W o.fd_holds ["test", "boxes", "asked", "told"] 2 ["told"] ar1_holds := Pat.d0 o.F_holds 2 ["told"] [("asked", .int 0)] [.int 0] [0, 1, 3, 2] (by simp) (by simp) (fun _ _ => by simp [Reps, Rep]) rfl (by decide) fun _ _ _ _ _ _ us ws mv h1 h2 h3 => match us, ws, mv, h1, h2, h3 with | [_, _], [_], [_], _, _, _ => ⟨_, _, _, _, _, _, rfl, rfl, rfl⟩
abbrev ar2_holds : List D → List D := arrOf [0, 1, 3, 2] []
theorem pt2_holds (o : Wo W w mg) : Pat W o.fd_holds ["test", "boxes", "asked", "told"] 2 ["told", "asked"] ar2_holds := Pat.full o.F_holds 2 ["told", "asked"] [0, 1, 3, 2] rfl (by decide) fun _ _ _ _ _ _ us ws h1 h2 => match us, ws, h1, h2 with | [_, _], [_, _], _, _ => rfl
abbrev ar1_worth : List D → List D := arrOf [0, 1, 2, 3] [.int 0, .int 0]
theorem pt1_worth (o : Wo W w mg) : Pat W o.fd_worth ["expression", "boxes", "asked", "told"] 2 [] ar1_worth := Pat.d0 o.F_worth 2 [] [("asked", .int 0), ("told", .int 0)] [.int 0, .int 0] [0, 1, 2, 3] (by simp) (by simp) (fun _ _ => by simp [Reps, Rep]) rfl (by decide) fun _ _ _ _ _ _ us ws mv h1 h2 h3 => match us, ws, mv, h1, h2, h3 with | [_, _], [], [_, _], _, _, _ => ⟨_, _, _, _, _, _, rfl, rfl, ⟨_, _, _, _, _, _, rfl, rfl, rfl⟩⟩
abbrev ar0__law_are_right : List D → List D := id
theorem pt0__law_are_right (o : Wo W w mg) : Pat W o.fd__law_are_right ["_law_bag_here", "_law_names_here", "_law_term", "_law_test"] 4 [] ar0__law_are_right := Pat.pos0 o.F__law_are_right fun _ _ _ _ _ _ us hl => match us, hl with | [_, _, _, _], _ => rfl
abbrev ar0__law_names : List D → List D := id
theorem pt0__law_names (o : Wo W w mg) : Pat W o.fd__law_names ["_law_bag_here", "_law_often"] 2 [] ar0__law_names := Pat.pos0 o.F__law_names fun _ _ _ _ _ _ us hl => match us, hl with | [_, _], _ => rfl
abbrev ar0__law_bag : List D → List D := id
theorem pt0__law_bag (o : Wo W w mg) : Pat W o.fd__law_bag ["_law_script", "_law_at"] 2 [] ar0__law_bag := Pat.pos0 o.F__law_bag fun _ _ _ _ _ _ us hl => match us, hl with | [_, _], _ => rfl
end
theorem sc_expression_text : FnScope ["expression", "word", "parts", "one", "other", "part"] ["expression"] (defScope s_expression_text) := ⟨rfl, rfl, rfl, by decide +kernel, rfl, by decide +kernel, by decide +kernel⟩
noncomputable def d_expression_text_E1 (Φ_expression_text : Den) : EF := dCall ar0_expression_text Φ_expression_text (aCons (eVar 5) aNil)
noncomputable def d_expression_text (Φ_expression_text : Den) : SF := sSeq (sAsg (eVar 0) (gStr 2 1 (gsCons (gNm 1) (gsCons (gNm 2) gsNil))))
  (sSeq (sIf (etoT (e2 opIn (eVar 1) (eA pTup (aCons (eCon (.str "asked")) (aCons (eCon (.str "told")) aNil))))) (sRet (eVar 1)) sNext)
  (sSeq (sIf (etoT (e2 opEq (e1 bLen (eVar 2)) (eCon (.int 1)))) (sRet (e1 bStr (e2 pIx (eVar 2) (eCon (.int 0))))) sNext)
  (sSeq (sAsg (eLc (iVal (eVar 2)) (gNm 5) tYesF (d_expression_text_E1 Φ_expression_text) [5]) (gUnp 2 (gsCons (gNm 3) (gsCons (gNm 4) gsNil))))
  (sRet (eJoin Str.empty [eCon (.str "("), e1 pFmt (eVar 3), eCon (.str " "), e1 pFmt (e1 (pGdc gdv_SIGNS) (eVar 1)), eCon (.str " "), e1 pFmt (eVar 4), eCon (.str ")")])))))
theorem ok_expression_text {W : Wd} {P : Program} {w : World} {mg : Str → Option Value} {base : Heap} {k : Nat} (o : Wo W w mg) {Φ_expression_text : Den} (P_expression_text : PFn W P w mg base k o.a_expression_text o.fd_expression_text ["expression"] Φ_expression_text) : PFn W P w mg base (k + 1) o.a_expression_text o.fd_expression_text ["expression"] (runD 6 (d_expression_text Φ_expression_text)) := by
  refine PFn.mk' (N := ["expression", "word", "parts", "one", "other", "part"]) (txt_of o.F_expression_text) sc_expression_text fun cdv A outer s H E cz => ?_
  exact dss_cons (ds_asg (de_var 0) (dg_star cz (dgs_cons (dg_name cz.nd) (dgs_star (dg_name cz.nd) dgs_nil))))
    (dss_cons (ds_if (dt_cmp (c_in cz.K cz.rm) (de_var 1) (de_tup (da_cons de_str (da_cons de_str da_nil))) (by rfl)) (dss_one (ds_ret (de_var 1))) dss_nil)
    (dss_cons (ds_if (dt_cmp (c_eq cz.K cz.rm) (de_len cz.K rfl o.n_len (de_var 2)) de_int (nomark _)) (dss_one (ds_ret (de_strc rfl o.n_str (de_ix cz.K cz.rm (de_var 2) de_int (fun _ _ => rfl))))) dss_nil)
    (dss_cons (ds_asg (de_lc [("part", 5)] cz (di_val cz.K (de_var 2)) (by kernel_rfl) (fun _ _ _ _ _ cz => dg_name cz.nd) (fun _ _ _ _ _ cz => dts_nil) (fun _ _ _ _ _ cz => de_call cz P_expression_text (pt0_expression_text o) rfl o.g_expression_text o.F_expression_text.kp (da_cons (de_var 5) da_nil) (hal := al_cons al_nil))) (dg_tup cz (dgs_cons (dg_name cz.nd) (dgs_cons (dg_name cz.nd) dgs_nil))))
    (dss_one (ds_ret (de_join (.cons de_str (.cons (de_fmt (de_var 3)) (.cons de_str (.cons (de_fmt (de_gix cz.K rfl o.gd_SIGNS (de_var 1) (fun _ _ => rfl))) (.cons de_str (.cons (de_fmt (de_var 4)) (.cons de_str .nil)))))))))))))
theorem sc_test_text : FnScope ["test", "word", "parts", "one", "other", "part"] ["test"] (defScope s_test_text) := ⟨rfl, rfl, rfl, by decide +kernel, rfl, by decide +kernel, by decide +kernel⟩
noncomputable def d_test_text_E1 (Φ_test_text : Den) (Φ_expression_text : Den) : EF := dCall ar0_test_text Φ_test_text (aCons (eVar 5) aNil)
noncomputable def d_test_text_E2 (Φ_test_text : Den) (Φ_expression_text : Den) : EF := dCall ar0_expression_text Φ_expression_text (aCons (eVar 5) aNil)
noncomputable def d_test_text (Φ_test_text : Den) (Φ_expression_text : Den) : SF := sSeq (sAsg (eVar 0) (gStr 2 1 (gsCons (gNm 1) (gsCons (gNm 2) gsNil))))
  (sSeq (sIf (etoT (e2 opEq (eVar 1) (eCon (.str "not")))) (sRet (eJoin Str.empty [eCon (.str "(not "), e1 pFmt (dCall ar0_test_text Φ_test_text (aCons (e2 pIx (eVar 2) (eCon (.int 0))) aNil)), eCon (.str ")")])) sNext)
  (sSeq (sIf (etoT (e2 opIn (eVar 1) (eA pTup (aCons (eCon (.str "both")) (aCons (eCon (.str "either")) aNil))))) (sAsg (eLc (iVal (eVar 2)) (gNm 5) tYesF (d_test_text_E1 Φ_test_text Φ_expression_text) [5]) (gUnp 2 (gsCons (gNm 3) (gsCons (gNm 4) gsNil)))) (sAsg (eLc (iVal (eVar 2)) (gNm 5) tYesF (d_test_text_E2 Φ_test_text Φ_expression_text) [5]) (gUnp 2 (gsCons (gNm 3) (gsCons (gNm 4) gsNil)))))
  (sRet (eJoin Str.empty [eCon (.str "("), e1 pFmt (eVar 3), eCon (.str " "), e1 pFmt (e1 (pGdc gdv_TEST_SIGNS) (eVar 1)), eCon (.str " "), e1 pFmt (eVar 4), eCon (.str ")")]))))
theorem ok_test_text {W : Wd} {P : Program} {w : World} {mg : Str → Option Value} {base : Heap} {k : Nat} (o : Wo W w mg) {Φ_test_text : Den} {Φ_expression_text : Den} (P_test_text : PFn W P w mg base k o.a_test_text o.fd_test_text ["test"] Φ_test_text) (P_expression_text : PFn W P w mg base k o.a_expression_text o.fd_expression_text ["expression"] Φ_expression_text) : PFn W P w mg base (k + 1) o.a_test_text o.fd_test_text ["test"] (runD 6 (d_test_text Φ_test_text Φ_expression_text)) := by
  refine PFn.mk' (N := ["test", "word", "parts", "one", "other", "part"]) (txt_of o.F_test_text) sc_test_text fun cdv A outer s H E cz => ?_
  exact dss_cons (ds_asg (de_var 0) (dg_star cz (dgs_cons (dg_name cz.nd) (dgs_star (dg_name cz.nd) dgs_nil))))
    (dss_cons (ds_if (dt_cmp (c_eq cz.K cz.rm) (de_var 1) de_str (nomark _)) (dss_one (ds_ret (de_join (.cons de_str (.cons (de_fmt (de_call cz P_test_text (pt0_test_text o) rfl o.g_test_text o.F_test_text.kp (da_cons (de_ix cz.K cz.rm (de_var 2) de_int (fun _ _ => rfl)) da_nil) (hal := al_cons al_nil))) (.cons de_str .nil)))))) dss_nil)
    (dss_cons (ds_if (dt_cmp (c_in cz.K cz.rm) (de_var 1) (de_tup (da_cons de_str (da_cons de_str da_nil))) (by rfl)) (dss_one (ds_asg (de_lc [("part", 5)] cz (di_val cz.K (de_var 2)) (by kernel_rfl) (fun _ _ _ _ _ cz => dg_name cz.nd) (fun _ _ _ _ _ cz => dts_nil) (fun _ _ _ _ _ cz => de_call cz P_test_text (pt0_test_text o) rfl o.g_test_text o.F_test_text.kp (da_cons (de_var 5) da_nil) (hal := al_cons al_nil))) (dg_tup cz (dgs_cons (dg_name cz.nd) (dgs_cons (dg_name cz.nd) dgs_nil))))) (dss_one (ds_asg (de_lc [("part", 5)] cz (di_val cz.K (de_var 2)) (by kernel_rfl) (fun _ _ _ _ _ cz => dg_name cz.nd) (fun _ _ _ _ _ cz => dts_nil) (fun _ _ _ _ _ cz => de_call cz P_expression_text (pt0_expression_text o) rfl o.g_expression_text o.F_expression_text.kp (da_cons (de_var 5) da_nil) (hal := al_cons al_nil))) (dg_tup cz (dgs_cons (dg_name cz.nd) (dgs_cons (dg_name cz.nd) dgs_nil))))))
    (dss_one (ds_ret (de_join (.cons de_str (.cons (de_fmt (de_var 3)) (.cons de_str (.cons (de_fmt (de_gix cz.K rfl o.gd_TEST_SIGNS (de_var 1) (fun _ _ => rfl))) (.cons de_str (.cons (de_fmt (de_var 4)) (.cons de_str .nil))))))))))))
theorem sc_made : FnScope ["deed", "one", "other"] ["deed", "one", "other"] (defScope s_made) := ⟨rfl, rfl, rfl, by decide +kernel, rfl, by decide +kernel, by decide +kernel⟩
noncomputable def d_made : SF := sSeq (sIf (etoT (e2 opEq (eVar 0) (eCon (.str "plus")))) (sRet (e2 opAdd (eVar 1) (eVar 2))) sNext)
  (sSeq (sIf (etoT (e2 opEq (eVar 0) (eCon (.str "less")))) (sRet (e2 bMax (eCon (.int 0)) (e2 opSub (eVar 1) (eVar 2)))) sNext)
  (sSeq (sIf (etoT (e2 opEq (eVar 0) (eCon (.str "times")))) (sRet (e2 opMul (eVar 1) (eVar 2))) sNext)
  (sSeq (sIf (etoT (e2 opEq (eVar 2) (eCon (.int 0)))) (sRet (eCon (.int 0))) sNext)
  (sRet (eIf (etoT (e2 opEq (eVar 0) (eCon (.str "over")))) (e2 opDiv (eVar 1) (eVar 2)) (e2 opMod (eVar 1) (eVar 2)))))))
theorem ok_made {W : Wd} {P : Program} {w : World} {mg : Str → Option Value} {base : Heap} {k : Nat} (o : Wo W w mg) : PFn W P w mg base (k + 1) o.a_made o.fd_made ["deed", "one", "other"] (runD 3 (d_made)) := by
  refine PFn.mk' (N := ["deed", "one", "other"]) (txt_of o.F_made) sc_made fun cdv A outer s H E cz => ?_
  exact dss_cons (ds_if (dt_cmp (c_eq cz.K cz.rm) (de_var 0) de_str (nomark _)) (dss_one (ds_ret (de_add cz.K (de_var 1) (de_var 2)))) dss_nil)
    (dss_cons (ds_if (dt_cmp (c_eq cz.K cz.rm) (de_var 0) de_str (nomark _)) (dss_one (ds_ret (de_max cz.calm rfl o.n_max de_int (de_sub (de_var 1) (de_var 2))))) dss_nil)
    (dss_cons (ds_if (dt_cmp (c_eq cz.K cz.rm) (de_var 0) de_str (nomark _)) (dss_one (ds_ret (de_mul (de_var 1) (de_var 2)))) dss_nil)
    (dss_cons (ds_if (dt_cmp (c_eq cz.K cz.rm) (de_var 2) de_int (nomark _)) (dss_one (ds_ret de_int)) dss_nil)
    (dss_one (ds_ret (de_if (dt_cmp (c_eq cz.K cz.rm) (de_var 0) de_str (nomark _)) (de_div (de_var 1) (de_var 2)) (de_mod (de_var 1) (de_var 2))))))))
theorem sc_worth : FnScope ["expression", "boxes", "asked", "told", "word", "one"] ["expression", "boxes", "asked", "told"] (defScope s_worth) := ⟨rfl, rfl, rfl, by decide +kernel, rfl, by decide +kernel, by decide +kernel⟩
noncomputable def d_worth (Φ_made : Den) (Φ_worth : Den) : SF := sSeq (sSet 4 (e2 pIx (eVar 0) (eCon (.int 0))))
  (sSeq (sIf (etoT (e2 opEq (eVar 4) (eCon (.str "number")))) (sRet (e2 pIx (eVar 0) (eCon (.int 1)))) sNext)
  (sSeq (sIf (etoT (e2 opEq (eVar 4) (eCon (.str "box")))) (sRet (e2 pIx (eVar 1) (e2 pIx (eVar 0) (eCon (.int 1))))) sNext)
  (sSeq (sIf (etoT (e2 opIn (eVar 4) (eA pTup (aCons (eCon (.str "asked")) (aCons (eCon (.str "told")) aNil))))) (sRet (eIf (etoT (e2 opEq (eVar 4) (eCon (.str "asked")))) (eVar 2) (eVar 3))) sNext)
  (sSeq (sSet 5 (dCall ar0_worth Φ_worth (aApp (aCons (e2 pIx (eVar 0) (eCon (.int 1))) (aCons (eVar 1) aNil)) (aCons (eVar 2) (aCons (eVar 3) aNil)))))
  (sRet (dCall ar0_made Φ_made (aCons (eVar 4) (aCons (eVar 5) (aCons (dCall ar0_worth Φ_worth (aApp (aCons (e2 pIx (eVar 0) (eCon (.int 2))) (aCons (eVar 1) aNil)) (aCons (eVar 2) (aCons (eVar 3) aNil)))) aNil)))))))))
theorem ok_worth {W : Wd} {P : Program} {w : World} {mg : Str → Option Value} {base : Heap} {k : Nat} (o : Wo W w mg) {Φ_made : Den} {Φ_worth : Den} (P_made : PFn W P w mg base k o.a_made o.fd_made ["deed", "one", "other"] Φ_made) (P_worth : PFn W P w mg base k o.a_worth o.fd_worth ["expression", "boxes", "asked", "told"] Φ_worth) : PFn W P w mg base (k + 1) o.a_worth o.fd_worth ["expression", "boxes", "asked", "told"] (runD 6 (d_worth Φ_made Φ_worth)) := by
  refine PFn.mk' (N := ["expression", "boxes", "asked", "told", "word", "one"]) (txt_of o.F_worth) sc_worth fun cdv A outer s H E cz => ?_
  exact dss_cons (ds_set cz.nd rfl (Or.inl rfl) (de_ix cz.K cz.rm (de_var 0) de_int (fun _ _ => rfl)))
    (dss_cons (ds_if (dt_cmp (c_eq cz.K cz.rm) (de_var 4) de_str (nomark _)) (dss_one (ds_ret (de_ix cz.K cz.rm (de_var 0) de_int (fun _ _ => rfl)))) dss_nil)
    (dss_cons (ds_if (dt_cmp (c_eq cz.K cz.rm) (de_var 4) de_str (nomark _)) (dss_one (ds_ret (de_ix cz.K cz.rm (de_var 1) (de_ix cz.K cz.rm (de_var 0) de_int (fun _ _ => rfl)) (fun _ _ => rfl)))) dss_nil)
    (dss_cons (ds_if (dt_cmp (c_in cz.K cz.rm) (de_var 4) (de_tup (da_cons de_str (da_cons de_str da_nil))) (by rfl)) (dss_one (ds_ret (de_if (dt_cmp (c_eq cz.K cz.rm) (de_var 4) de_str (nomark _)) (de_var 2) (de_var 3)))) dss_nil)
    (dss_cons (ds_set cz.nd rfl (Or.inl rfl) (de_callK cz P_worth (pt0_worth o) rfl o.g_worth o.F_worth.kp (da_cons (de_ix cz.K cz.rm (de_var 0) de_int (fun _ _ => rfl)) (da_cons (de_var 1) da_nil)) (dk_cons (de_var 2) (dk_cons (de_var 3) dk_nil)) (hal := al_cons (al_cons al_nil)) (hbl := al_cons (al_cons al_nil))))
    (dss_one (ds_ret (de_call cz P_made (pt0_made o) rfl o.g_made o.F_made.kp (da_cons (de_var 4) (da_cons (de_var 5) (da_cons (de_callK cz P_worth (pt0_worth o) rfl o.g_worth o.F_worth.kp (da_cons (de_ix cz.K cz.rm (de_var 0) de_int (fun _ _ => rfl)) (da_cons (de_var 1) da_nil)) (dk_cons (de_var 2) (dk_cons (de_var 3) dk_nil)) (hal := al_cons (al_cons al_nil)) (hbl := al_cons (al_cons al_nil))) da_nil))) (hal := al_cons (al_cons (al_cons al_nil))))))))))
theorem sc_holds : FnScope ["test", "boxes", "asked", "told", "word", "first", "others", "found", "one", "other", "part"] ["test", "boxes", "asked", "told"] (defScope s_holds) := ⟨rfl, rfl, rfl, by decide +kernel, rfl, by decide +kernel, by decide +kernel⟩
noncomputable def d_holds_E1 (Φ_worth : Den) (Φ_holds : Den) : EF := dCall ar0_worth Φ_worth (aApp (aCons (eVar 10) (aCons (eVar 1) aNil)) (aCons (eVar 2) (aCons (eVar 3) aNil)))
noncomputable def d_holds_E2 (Φ_worth : Den) (Φ_holds : Den) : EF := dCall ar0_holds Φ_holds (aApp (aCons (eVar 10) (aCons (eVar 1) aNil)) (aCons (eVar 2) (aCons (eVar 3) aNil)))
noncomputable def d_holds (Φ_worth : Den) (Φ_holds : Den) : SF := sSeq (sAsg (eVar 0) (gStr 3 2 (gsCons (gNm 4) (gsCons (gNm 5) (gsCons (gNm 6) gsNil)))))
  (sSeq (sIf (etoT (e2 opEq (eVar 4) (eCon (.str "not")))) (sRet (eNotV (dCall ar0_holds Φ_holds (aApp (aCons (eVar 5) (aCons (eVar 1) aNil)) (aCons (eVar 2) (aCons (eVar 3) aNil)))))) sNext)
  (sSeq (sIf (etoT (e2 opIn (eVar 4) (eCon gv_JOINTS))) (sSeq (sSet 7 (eLc (iVal (e2 opAdd (eA pLst (aCons (eVar 5) aNil)) (eVar 6))) (gNm 10) tYesF (d_holds_E2 Φ_worth Φ_holds) [10]))
  (sRet (eIf (etoT (e2 opEq (eVar 4) (eCon (.str "both")))) (e1 bAll (eVar 7)) (e1 bAny (eVar 7))))) sNext)
  (sSeq (sAsg (eLc (iVal (e2 opAdd (eA pLst (aCons (eVar 5) aNil)) (eVar 6))) (gNm 10) tYesF (d_holds_E1 Φ_worth Φ_holds) [10]) (gUnp 2 (gsCons (gNm 8) (gsCons (gNm 9) gsNil))))
  (sRet (eIf (etoT (e2 opEq (eVar 4) (eCon (.str "is")))) (e2 opEq (eVar 8) (eVar 9)) (e2 opLt (eVar 8) (eVar 9)))))))
theorem ok_holds {W : Wd} {P : Program} {w : World} {mg : Str → Option Value} {base : Heap} {k : Nat} (o : Wo W w mg) {Φ_worth : Den} {Φ_holds : Den} (P_worth : PFn W P w mg base k o.a_worth o.fd_worth ["expression", "boxes", "asked", "told"] Φ_worth) (P_holds : PFn W P w mg base k o.a_holds o.fd_holds ["test", "boxes", "asked", "told"] Φ_holds) : PFn W P w mg base (k + 1) o.a_holds o.fd_holds ["test", "boxes", "asked", "told"] (runD 11 (d_holds Φ_worth Φ_holds)) := by
  refine PFn.mk' (N := ["test", "boxes", "asked", "told", "word", "first", "others", "found", "one", "other", "part"]) (txt_of o.F_holds) sc_holds fun cdv A outer s H E cz => ?_
  exact dss_cons (ds_asg (de_var 0) (dg_star cz (dgs_cons (dg_name cz.nd) (dgs_cons (dg_name cz.nd) (dgs_star (dg_name cz.nd) dgs_nil)))))
    (dss_cons (ds_if (dt_cmp (c_eq cz.K cz.rm) (de_var 4) de_str (nomark _)) (dss_one (ds_ret (de_not cz.K (de_callK cz P_holds (pt0_holds o) rfl o.g_holds o.F_holds.kp (da_cons (de_var 5) (da_cons (de_var 1) da_nil)) (dk_cons (de_var 2) (dk_cons (de_var 3) dk_nil)) (hal := al_cons (al_cons al_nil)) (hbl := al_cons (al_cons al_nil)))))) dss_nil)
    (dss_cons (ds_if (dt_cmp (c_in cz.K cz.rm) (de_var 4) (de_glv cz.K rfl o.c_JOINTS) (by rfl)) (dss_cons (ds_setLc [("part", 10)] cz (di_val cz.K (de_add cz.K (de_lst (da_cons (de_var 5) da_nil)) (de_var 6))) (by kernel_rfl) (fun _ _ _ _ _ cz => dg_name cz.nd) (fun _ _ _ _ _ cz => dts_nil) (fun _ _ _ _ _ cz => de_callK cz P_holds (pt0_holds o) rfl o.g_holds o.F_holds.kp (da_cons (de_var 10) (da_cons (de_var 1) da_nil)) (dk_cons (de_var 2) (dk_cons (de_var 3) dk_nil)) (hal := al_cons (al_cons al_nil)) (hbl := al_cons (al_cons al_nil))))
    (dss_one (ds_ret (de_if (dt_cmp (c_eq cz.K cz.rm) (de_var 4) de_str (nomark _)) (de_all cz.K cz.calm rfl o.n_all (de_var 7)) (de_any cz.K cz.calm rfl o.n_any (de_var 7)))))) dss_nil)
    (dss_cons (ds_asg (de_lc [("part", 10)] cz (di_val cz.K (de_add cz.K (de_lst (da_cons (de_var 5) da_nil)) (de_var 6))) (by kernel_rfl) (fun _ _ _ _ _ cz => dg_name cz.nd) (fun _ _ _ _ _ cz => dts_nil) (fun _ _ _ _ _ cz => de_callK cz P_worth (pt0_worth o) rfl o.g_worth o.F_worth.kp (da_cons (de_var 10) (da_cons (de_var 1) da_nil)) (dk_cons (de_var 2) (dk_cons (de_var 3) dk_nil)) (hal := al_cons (al_cons al_nil)) (hbl := al_cons (al_cons al_nil)))) (dg_tup cz (dgs_cons (dg_name cz.nd) (dgs_cons (dg_name cz.nd) dgs_nil))))
    (dss_one (ds_ret (de_if (dt_cmp (c_eq cz.K cz.rm) (de_var 4) de_str (nomark _)) (de_cmp (c_eq cz.K cz.rm) (de_var 8) (de_var 9) (nomark _)) (de_cmp c_lt (de_var 8) (de_var 9) (nomark _))))))))
theorem sc__law_bag : FnScope ["_law_script", "_law_at", "_law_cell", "_law_far"] ["_law_script", "_law_at"] (defScope s__law_bag) := ⟨rfl, rfl, rfl, by decide +kernel, rfl, by decide +kernel, by decide +kernel⟩
noncomputable def d__law_bag : SF := sSeq (sSet 2 (e2 opAdd (e2 opMul (eCon (.int 4409)) (eVar 1)) (eCon (.int 23))))
  (sSeq (sIf (etoT (e2 opLt (eVar 1) (e1 bLen (eVar 0)))) (sSet 2 (e2 pIx (eVar 0) (eVar 1))) sNext)
  (sSeq (sSet 3 (e1 bAbs (eVar 2)))
  (sRet (eLay (eA pLst (aCons (e2 opMul (eVar 3) (e1 bInt (e2 opGe (eVar 3) (e2 opPow (eCon (.int 10)) (eCon (.int 18)))))) (aCons (e2 opAdd (e2 opAdd (e2 opMod (eVar 2) (eCon (.int 1000000000000000003))) (e2 opMul (e2 opMul (eCon (.int 7727)) (eVar 1)) (eVar 1))) (e2 opMul (eCon (.int 31)) (eVar 1))) (aCons (eCon (.int 0)) aNil))))))))
theorem ok__law_bag {W : Wd} {P : Program} {w : World} {mg : Str → Option Value} {base : Heap} {k : Nat} (o : Wo W w mg) : PFn W P w mg base (k + 1) o.a__law_bag o.fd__law_bag ["_law_script", "_law_at"] (runD 4 (d__law_bag)) := by
  refine PFn.mk' (N := ["_law_script", "_law_at", "_law_cell", "_law_far"]) (txt_of o.F__law_bag) sc__law_bag fun cdv A outer s H E cz => ?_
  exact dss_cons (ds_set cz.nd rfl (Or.inl rfl) (de_add cz.K (de_mul de_int (de_var 1)) de_int))
    (dss_cons (ds_if (dt_cmp c_lt (de_var 1) (de_len cz.K rfl o.n_len (de_var 0)) (nomark _)) (dss_one (ds_set cz.nd rfl (Or.inl rfl) (de_ix cz.K cz.rm (de_var 0) (de_var 1) (fun _ _ => rfl)))) dss_nil)
    (dss_cons (ds_set cz.nd rfl (Or.inl rfl) (de_abs rfl o.n_abs (de_var 2)))
    (dss_one (ds_ret (de_lay (de_lst (da_cons (de_mul (de_var 3) (de_intB rfl o.n_int (de_cmp c_ge (de_var 3) (de_pow de_int de_int) (nomark _)))) (da_cons (de_add cz.K (de_add cz.K (de_mod (de_var 2) de_int) (de_mul (de_mul de_int (de_var 1)) (de_var 1))) (de_mul de_int (de_var 1))) (da_cons de_int da_nil)))))))))
theorem sc__law_take : FnScope ["_law_bag_here", "_law_often", "_law_digit", "_law_primes", "_law_turn", "_law_basis", "_law_found"] ["_law_bag_here", "_law_often"] (defScope s__law_take) := ⟨rfl, rfl, rfl, by decide +kernel, rfl, by decide +kernel, by decide +kernel⟩
noncomputable def d__law_take : SF := sSeq (sIf (etoT (e2 opGt (e2 pIx (eVar 0) (eCon (.int 0))) (eCon (.int 0)))) (sSeq (sSet 2 (e2 opMod (e2 pIx (eVar 0) (eCon (.int 0))) (eVar 1)))
  (sSeq (sAsg (e2 opDiv (e2 pIx (eVar 0) (eCon (.int 0))) (eVar 1)) (gSubF (eVar 0) (eCon (.int 0))))
  (sRet (eVar 2)))) sNext)
  (sSeq (sSet 3 (eA pTup (aCons (eCon (.int 2147483647)) (aCons (eCon (.int 2147483629)) (aCons (eCon (.int 2147483587)) (aCons (eCon (.int 2147483579)) (aCons (eCon (.int 2147483563)) (aCons (eCon (.int 2147483549)) (aCons (eCon (.int 2147483543)) aNil)))))))))
  (sSeq (sAsg (e2 opAdd (e2 pIx (eVar 0) (eCon (.int 2))) (eCon (.int 1))) (gSubF (eVar 0) (eCon (.int 2))))
  (sSeq (sSet 4 (e2 pIx (eVar 0) (eCon (.int 2))))
  (sSeq (sSet 5 (e2 opAdd (e2 opAdd (e2 opMul (e2 pIx (eVar 0) (eCon (.int 1))) (e2 opAdd (e2 opMul (eCon (.int 3)) (eVar 4)) (eCon (.int 2)))) (e2 opMul (e2 opMul (eCon (.int 7433)) (eVar 4)) (eVar 4))) (eCon (.int 53))))
  (sSeq (sSet 6 (e2 opMod (e2 opPow (eVar 5) (eCon (.int 3))) (e2 pIx (eVar 3) (e2 opMod (eVar 4) (eCon (.int 7))))))
  (sRet (e2 opMod (e2 opDiv (e2 opMod (e2 opMul (eVar 6) (e2 opAdd (e2 opDiv (eVar 6) (eCon (.int 4099))) (eCon (.int 17)))) (e2 pIx (eVar 3) (e2 opMod (e2 opAdd (eVar 4) (eCon (.int 2))) (eCon (.int 7))))) (eCon (.int 16))) (eVar 1))))))))
theorem ok__law_take {W : Wd} {P : Program} {w : World} {mg : Str → Option Value} {base : Heap} {k : Nat} (o : Wo W w mg) : PFn W P w mg base (k + 1) o.a__law_take o.fd__law_take ["_law_bag_here", "_law_often"] (runD 7 (d__law_take)) := by
  refine PFn.mk' (N := ["_law_bag_here", "_law_often", "_law_digit", "_law_primes", "_law_turn", "_law_basis", "_law_found"]) (txt_of o.F__law_take) sc__law_take fun cdv A outer s H E cz => ?_
  exact dss_cons (ds_if (dt_cmp c_gt (de_ix cz.K cz.rm (de_var 0) de_int (fun _ _ => rfl)) de_int (nomark _)) (dss_cons (ds_set cz.nd rfl (Or.inl rfl) (de_mod (de_ix cz.K cz.rm (de_var 0) de_int (fun _ _ => rfl)) (de_var 1)))
    (dss_cons (ds_asg (de_div (de_ix cz.K cz.rm (de_var 0) de_int (fun _ _ => rfl)) (de_var 1)) (dg_sub cz (de_var 0) de_int))
    (dss_one (ds_ret (de_var 2))))) dss_nil)
    (dss_cons (ds_set cz.nd rfl (Or.inl rfl) (de_tup (da_cons de_int (da_cons de_int (da_cons de_int (da_cons de_int (da_cons de_int (da_cons de_int (da_cons de_int da_nil)))))))))
    (dss_cons (ds_asg (de_add cz.K (de_ix cz.K cz.rm (de_var 0) de_int (fun _ _ => rfl)) de_int) (dg_sub cz (de_var 0) de_int))
    (dss_cons (ds_set cz.nd rfl (Or.inl rfl) (de_ix cz.K cz.rm (de_var 0) de_int (fun _ _ => rfl)))
    (dss_cons (ds_set cz.nd rfl (Or.inl rfl) (de_add cz.K (de_add cz.K (de_mul (de_ix cz.K cz.rm (de_var 0) de_int (fun _ _ => rfl)) (de_add cz.K (de_mul de_int (de_var 4)) de_int)) (de_mul (de_mul de_int (de_var 4)) (de_var 4))) de_int))
    (dss_cons (ds_set cz.nd rfl (Or.inl rfl) (de_mod (de_pow (de_var 5) de_int) (de_ix cz.K cz.rm (de_var 3) (de_mod (de_var 4) de_int) (fun _ _ => rfl))))
    (dss_one (ds_ret (de_mod (de_div (de_mod (de_mul (de_var 6) (de_add cz.K (de_div (de_var 6) de_int) de_int)) (de_ix cz.K cz.rm (de_var 3) (de_mod (de_add cz.K (de_var 4) de_int) de_int) (fun _ _ => rfl))) de_int) (de_var 1)))))))))
theorem sc__law_of : FnScope ["_law_bag_here", "_law_some"] ["_law_bag_here", "_law_some"] (defScope s__law_of) := ⟨rfl, rfl, rfl, by decide +kernel, rfl, by decide +kernel, by decide +kernel⟩
noncomputable def d__law_of (Φ__law_take : Den) : SF := sRet (e2 pIx (eVar 1) (dCall ar0__law_take Φ__law_take (aCons (eVar 0) (aCons (e1 bLen (eVar 1)) aNil))))
theorem ok__law_of {W : Wd} {P : Program} {w : World} {mg : Str → Option Value} {base : Heap} {k : Nat} (o : Wo W w mg) {Φ__law_take : Den} (P__law_take : PFn W P w mg base k o.a__law_take o.fd__law_take ["_law_bag_here", "_law_often"] Φ__law_take) : PFn W P w mg base (k + 1) o.a__law_of o.fd__law_of ["_law_bag_here", "_law_some"] (runD 2 (d__law_of Φ__law_take)) := by
  refine PFn.mk' (N := ["_law_bag_here", "_law_some"]) (txt_of o.F__law_of) sc__law_of fun cdv A outer s H E cz => ?_
  exact dss_one (ds_ret (de_ix cz.K cz.rm (de_var 1) (de_call cz P__law_take (pt0__law_take o) rfl o.g__law_take o.F__law_take.kp (da_cons (de_var 0) (da_cons (de_len cz.K rfl o.n_len (de_var 1)) da_nil)) (hal := al_cons (al_cons al_nil))) (fun _ _ => rfl)))
theorem sc__law_names : FnScope ["_law_bag_here", "_law_often", "_law_letters", "_law_front", "_law_behind", "_law_first", "_law_some", "_law_k", "_law_one"] ["_law_bag_here", "_law_often"] (defScope s__law_names) := ⟨rfl, rfl, rfl, by decide +kernel, rfl, by decide +kernel, by decide +kernel⟩
noncomputable def d__law_names_E1 (Φ__law_take : Den) (Φ__law_of : Den) : EF := e2 opAdd (eVar 8) (e2 opMul (eCon (.str "x")) (e1 bInt (e2 opIn (eVar 8) (eA pTup (aCons (eCon (.str "asked")) (aCons (eCon (.str "told")) (aCons (eCon (.str "not")) (aCons (eCon (.str "and")) (aCons (eCon (.str "or")) aNil)))))))))
noncomputable def d__law_names_E2 (Φ__law_take : Den) (Φ__law_of : Den) : EF := e2 opAdd (e2 opAdd (eVar 3) (e2 pIx (eVar 2) (e2 opMod (e2 opAdd (eVar 5) (e2 opMul (eCon (.int 7)) (eVar 7))) (eCon (.int 26))))) (eVar 4)
noncomputable def d__law_names_E3 (Φ__law_take : Den) (Φ__law_of : Den) : EF := dCall ar0__law_of Φ__law_of (aCons (eVar 0) (aCons (eVar 2) aNil))
noncomputable def d__law_names_E4 (Φ__law_take : Den) (Φ__law_of : Den) : EF := dCall ar0__law_of Φ__law_of (aCons (eVar 0) (aCons (eVar 2) aNil))
noncomputable def d__law_names (Φ__law_take : Den) (Φ__law_of : Den) : SF := sSeq (sSet 2 (eCon (.str "abcdefghijklmnopqrstuvwxyz")))
  (sSeq (sSet 3 (eM "str" mJoin (eCon (.str "")) (aCons (eLc (iRg1 (dCall ar0__law_take Φ__law_take (aCons (eVar 0) (aCons (eCon (.int 4)) aNil)))) (gNm 7) tYesF (d__law_names_E4 Φ__law_take Φ__law_of) [7]) aNil)))
  (sSeq (sSet 4 (eM "str" mJoin (eCon (.str "")) (aCons (eLc (iRg1 (dCall ar0__law_take Φ__law_take (aCons (eVar 0) (aCons (eCon (.int 4)) aNil)))) (gNm 7) tYesF (d__law_names_E3 Φ__law_take Φ__law_of) [7]) aNil)))
  (sSeq (sSet 5 (dCall ar0__law_take Φ__law_take (aCons (eVar 0) (aCons (eCon (.int 26)) aNil))))
  (sSeq (sSet 6 (eLc (iRg1 (eVar 1)) (gNm 7) tYesF (d__law_names_E2 Φ__law_take Φ__law_of) [7]))
  (sRet (e1 bSrt (eLc (iVal (eVar 6)) (gNm 8) tYesF (d__law_names_E1 Φ__law_take Φ__law_of) [8])))))))
theorem ok__law_names {W : Wd} {P : Program} {w : World} {mg : Str → Option Value} {base : Heap} {k : Nat} (o : Wo W w mg) {Φ__law_take : Den} {Φ__law_of : Den} (P__law_take : PFn W P w mg base k o.a__law_take o.fd__law_take ["_law_bag_here", "_law_often"] Φ__law_take) (P__law_of : PFn W P w mg base k o.a__law_of o.fd__law_of ["_law_bag_here", "_law_some"] Φ__law_of) : PFn W P w mg base (k + 1) o.a__law_names o.fd__law_names ["_law_bag_here", "_law_often"] (runD 9 (d__law_names Φ__law_take Φ__law_of)) := by
  refine PFn.mk' (N := ["_law_bag_here", "_law_often", "_law_letters", "_law_front", "_law_behind", "_law_first", "_law_some", "_law_k", "_law_one"]) (txt_of o.F__law_names) sc__law_names fun cdv A outer s H E cz => ?_
  exact dss_cons (ds_set cz.nd rfl (Or.inr rfl) de_str)
    (dss_cons (ds_set cz.nd rfl (Or.inr rfl) (de_joinS cz.K de_str (da_cons (de_lc [("_law_k", 7)] cz (di_rg1 rfl o.n_range (de_call cz P__law_take (pt0__law_take o) rfl o.g__law_take o.F__law_take.kp (da_cons (de_var 0) (da_cons de_int da_nil)) (hal := al_cons (al_cons al_nil)))) (by kernel_rfl) (fun _ _ _ _ _ cz => dg_name cz.nd) (fun _ _ _ _ _ cz => dts_nil) (fun _ _ _ _ _ cz => de_call cz P__law_of (pt0__law_of o) rfl o.g__law_of o.F__law_of.kp (da_cons (de_var 0) (da_cons (de_var 2) da_nil)) (hal := al_cons (al_cons al_nil)))) da_nil)))
    (dss_cons (ds_set cz.nd rfl (Or.inr rfl) (de_joinS cz.K de_str (da_cons (de_lc [("_law_k", 7)] cz (di_rg1 rfl o.n_range (de_call cz P__law_take (pt0__law_take o) rfl o.g__law_take o.F__law_take.kp (da_cons (de_var 0) (da_cons de_int da_nil)) (hal := al_cons (al_cons al_nil)))) (by kernel_rfl) (fun _ _ _ _ _ cz => dg_name cz.nd) (fun _ _ _ _ _ cz => dts_nil) (fun _ _ _ _ _ cz => de_call cz P__law_of (pt0__law_of o) rfl o.g__law_of o.F__law_of.kp (da_cons (de_var 0) (da_cons (de_var 2) da_nil)) (hal := al_cons (al_cons al_nil)))) da_nil)))
    (dss_cons (ds_set cz.nd rfl (Or.inr rfl) (de_call cz P__law_take (pt0__law_take o) rfl o.g__law_take o.F__law_take.kp (da_cons (de_var 0) (da_cons de_int da_nil)) (hal := al_cons (al_cons al_nil))))
    (dss_cons (ds_setLc [("_law_k", 7)] cz (di_rg1 rfl o.n_range (de_var 1)) (by kernel_rfl) (fun _ _ _ _ _ cz => dg_name cz.nd) (fun _ _ _ _ _ cz => dts_nil) (fun _ _ _ _ _ cz => de_add cz.K (de_add cz.K (de_var 3) (de_ix cz.K cz.rm (de_var 2) (de_mod (de_add cz.K (de_var 5) (de_mul de_int (de_var 7))) de_int) (fun _ _ => rfl))) (de_var 4)))
    (dss_one (ds_ret (de_srt cz.K rfl o.n_sorted (de_lc [("_law_one", 8)] cz (di_val cz.K (de_var 6)) (by kernel_rfl) (fun _ _ _ _ _ cz => dg_name cz.nd) (fun _ _ _ _ _ cz => dts_nil) (fun _ _ _ _ _ cz => de_add cz.K (de_var 8) (de_mul de_str (de_intB rfl o.n_int (de_cmp (c_in cz.K cz.rm) (de_var 8) (de_tup (da_cons de_str (da_cons de_str (da_cons de_str (da_cons de_str (da_cons de_str da_nil)))))) (by rfl)))))))))))))
theorem sc__law_worth : FnScope ["_law_term", "_law_jars", "_law_wanted", "_law_said", "_law_word", "_law_one", "_law_other"] ["_law_term", "_law_jars", "_law_wanted", "_law_said"] (defScope s__law_worth) := ⟨rfl, rfl, rfl, by decide +kernel, rfl, by decide +kernel, by decide +kernel⟩
noncomputable def d__law_worth (Φ__law_worth : Den) : SF := sSeq (sSet 4 (e2 pIx (eVar 0) (eCon (.int 0))))
  (sSeq (sIf (etoT (e2 opIn (eVar 4) (eA pTup (aCons (eCon (.str "number")) (aCons (eCon (.str "box")) aNil))))) (sRet (eIf (etoT (e2 opEq (eVar 4) (eCon (.str "number")))) (e2 pIx (eVar 0) (eCon (.int 1))) (e2 pIx (eVar 1) (e2 pIx (eVar 0) (eCon (.int 1)))))) sNext)
  (sSeq (sIf (etoT (e2 opIn (eVar 4) (eA pTup (aCons (eCon (.str "asked")) (aCons (eCon (.str "told")) aNil))))) (sRet (eIf (etoT (e2 opEq (eVar 4) (eCon (.str "asked")))) (eVar 2) (eVar 3))) sNext)
  (sSeq (sPar 5 6 (aCons (dCall ar0__law_worth Φ__law_worth (aCons (e2 pIx (eVar 0) (eCon (.int 1))) (aCons (eVar 1) (aCons (eVar 2) (aCons (eVar 3) aNil))))) (aCons (dCall ar0__law_worth Φ__law_worth (aCons (e2 pIx (eVar 0) (eCon (.int 2))) (aCons (eVar 1) (aCons (eVar 2) (aCons (eVar 3) aNil))))) aNil)))
  (sSeq (sIf (etoT (e2 opEq (eVar 4) (eCon (.str "less")))) (sRet (e2 opSub (eVar 5) (e2 bMin (eVar 5) (eVar 6)))) sNext)
  (sSeq (sIf (etoT (e2 opIn (eVar 4) (eA pTup (aCons (eCon (.str "plus")) (aCons (eCon (.str "times")) aNil))))) (sRet (eIf (etoT (e2 opEq (eVar 4) (eCon (.str "plus")))) (e2 opAdd (eVar 5) (eVar 6)) (e2 opMul (eVar 5) (eVar 6)))) sNext)
  (sSeq (sIf (etoT (e2 opEq (eVar 6) (eCon (.int 0)))) (sRet (eCon (.int 0))) sNext)
  (sRet (eIf (etoT (e2 opEq (eVar 4) (eCon (.str "over")))) (e2 opDiv (eVar 5) (eVar 6)) (e2 opSub (eVar 5) (e2 opMul (e2 opDiv (eVar 5) (eVar 6)) (eVar 6)))))))))))
theorem ok__law_worth {W : Wd} {P : Program} {w : World} {mg : Str → Option Value} {base : Heap} {k : Nat} (o : Wo W w mg) {Φ__law_worth : Den} (P__law_worth : PFn W P w mg base k o.a__law_worth o.fd__law_worth ["_law_term", "_law_jars", "_law_wanted", "_law_said"] Φ__law_worth) : PFn W P w mg base (k + 1) o.a__law_worth o.fd__law_worth ["_law_term", "_law_jars", "_law_wanted", "_law_said"] (runD 7 (d__law_worth Φ__law_worth)) := by
  refine PFn.mk' (N := ["_law_term", "_law_jars", "_law_wanted", "_law_said", "_law_word", "_law_one", "_law_other"]) (txt_of o.F__law_worth) sc__law_worth fun cdv A outer s H E cz => ?_
  exact dss_cons (ds_set cz.nd rfl (Or.inl rfl) (de_ix cz.K cz.rm (de_var 0) de_int (fun _ _ => rfl)))
    (dss_cons (ds_if (dt_cmp (c_in cz.K cz.rm) (de_var 4) (de_tup (da_cons de_str (da_cons de_str da_nil))) (by rfl)) (dss_one (ds_ret (de_if (dt_cmp (c_eq cz.K cz.rm) (de_var 4) de_str (nomark _)) (de_ix cz.K cz.rm (de_var 0) de_int (fun _ _ => rfl)) (de_ix cz.K cz.rm (de_var 1) (de_ix cz.K cz.rm (de_var 0) de_int (fun _ _ => rfl)) (fun _ _ => rfl))))) dss_nil)
    (dss_cons (ds_if (dt_cmp (c_in cz.K cz.rm) (de_var 4) (de_tup (da_cons de_str (da_cons de_str da_nil))) (by rfl)) (dss_one (ds_ret (de_if (dt_cmp (c_eq cz.K cz.rm) (de_var 4) de_str (nomark _)) (de_var 2) (de_var 3)))) dss_nil)
    (dss_cons (ds_par cz (da_cons (de_call cz P__law_worth (pt0__law_worth o) rfl o.g__law_worth o.F__law_worth.kp (da_cons (de_ix cz.K cz.rm (de_var 0) de_int (fun _ _ => rfl)) (da_cons (de_var 1) (da_cons (de_var 2) (da_cons (de_var 3) da_nil)))) (hal := al_cons (al_cons (al_cons (al_cons al_nil))))) (da_cons (de_call cz P__law_worth (pt0__law_worth o) rfl o.g__law_worth o.F__law_worth.kp (da_cons (de_ix cz.K cz.rm (de_var 0) de_int (fun _ _ => rfl)) (da_cons (de_var 1) (da_cons (de_var 2) (da_cons (de_var 3) da_nil)))) (hal := al_cons (al_cons (al_cons (al_cons al_nil))))) da_nil)))
    (dss_cons (ds_if (dt_cmp (c_eq cz.K cz.rm) (de_var 4) de_str (nomark _)) (dss_one (ds_ret (de_sub (de_var 5) (de_min cz.calm rfl o.n_min (de_var 5) (de_var 6))))) dss_nil)
    (dss_cons (ds_if (dt_cmp (c_in cz.K cz.rm) (de_var 4) (de_tup (da_cons de_str (da_cons de_str da_nil))) (by rfl)) (dss_one (ds_ret (de_if (dt_cmp (c_eq cz.K cz.rm) (de_var 4) de_str (nomark _)) (de_add cz.K (de_var 5) (de_var 6)) (de_mul (de_var 5) (de_var 6))))) dss_nil)
    (dss_cons (ds_if (dt_cmp (c_eq cz.K cz.rm) (de_var 6) de_int (nomark _)) (dss_one (ds_ret de_int)) dss_nil)
    (dss_one (ds_ret (de_if (dt_cmp (c_eq cz.K cz.rm) (de_var 4) de_str (nomark _)) (de_div (de_var 5) (de_var 6)) (de_sub (de_var 5) (de_mul (de_div (de_var 5) (de_var 6)) (de_var 6))))))))))))
theorem sc__law_holds : FnScope ["_law_test", "_law_jars", "_law_wanted", "_law_said", "_law_found", "_law_one", "_law_other", "_law_part"] ["_law_test", "_law_jars", "_law_wanted", "_law_said"] (defScope s__law_holds) := ⟨rfl, rfl, rfl, by decide +kernel, rfl, by decide +kernel, by decide +kernel⟩
noncomputable def d__law_holds_E1 (Φ__law_worth : Den) (Φ__law_holds : Den) : EF := dCall ar0__law_worth Φ__law_worth (aCons (eVar 7) (aCons (eVar 1) (aCons (eVar 2) (aCons (eVar 3) aNil))))
noncomputable def d__law_holds_E2 (Φ__law_worth : Den) (Φ__law_holds : Den) : EF := dCall ar0__law_holds Φ__law_holds (aCons (eVar 7) (aCons (eVar 1) (aCons (eVar 2) (aCons (eVar 3) aNil))))
noncomputable def d__law_holds (Φ__law_worth : Den) (Φ__law_holds : Den) : SF := sSeq (sIf (etoT (e2 opEq (e2 pIx (eVar 0) (eCon (.int 0))) (eCon (.str "not")))) (sRet (eNotV (dCall ar0__law_holds Φ__law_holds (aCons (e2 pIx (eVar 0) (eCon (.int 1))) (aCons (eVar 1) (aCons (eVar 2) (aCons (eVar 3) aNil))))))) sNext)
  (sSeq (sIf (etoT (e2 opIn (e2 pIx (eVar 0) (eCon (.int 0))) (eA pTup (aCons (eCon (.str "both")) (aCons (eCon (.str "either")) aNil))))) (sSeq (sSet 4 (eLc (iVal (eCut (eVar 0) (oSome (eCon (.int 1))) oNone)) (gNm 7) tYesF (d__law_holds_E2 Φ__law_worth Φ__law_holds) [7]))
  (sRet (e2 opGt (eM "list" mCount (eVar 4) (aCons (eCon (.bl true)) aNil)) (e1 bInt (e2 opEq (e2 pIx (eVar 0) (eCon (.int 0))) (eCon (.str "both"))))))) sNext)
  (sSeq (sAsg (eLc (iVal (eCut (eVar 0) (oSome (eCon (.int 1))) oNone)) (gNm 7) tYesF (d__law_holds_E1 Φ__law_worth Φ__law_holds) [7]) (gUnp 2 (gsCons (gNm 5) (gsCons (gNm 6) gsNil))))
  (sRet (eIf (etoT (e2 opEq (e2 pIx (eVar 0) (eCon (.int 0))) (eCon (.str "is")))) (e2 opEq (eVar 5) (eVar 6)) (e2 opLt (eVar 5) (eVar 6))))))
theorem ok__law_holds {W : Wd} {P : Program} {w : World} {mg : Str → Option Value} {base : Heap} {k : Nat} (o : Wo W w mg) {Φ__law_worth : Den} {Φ__law_holds : Den} (P__law_worth : PFn W P w mg base k o.a__law_worth o.fd__law_worth ["_law_term", "_law_jars", "_law_wanted", "_law_said"] Φ__law_worth) (P__law_holds : PFn W P w mg base k o.a__law_holds o.fd__law_holds ["_law_test", "_law_jars", "_law_wanted", "_law_said"] Φ__law_holds) : PFn W P w mg base (k + 1) o.a__law_holds o.fd__law_holds ["_law_test", "_law_jars", "_law_wanted", "_law_said"] (runD 8 (d__law_holds Φ__law_worth Φ__law_holds)) := by
  refine PFn.mk' (N := ["_law_test", "_law_jars", "_law_wanted", "_law_said", "_law_found", "_law_one", "_law_other", "_law_part"]) (txt_of o.F__law_holds) sc__law_holds fun cdv A outer s H E cz => ?_
  exact dss_cons (ds_if (dt_cmp (c_eq cz.K cz.rm) (de_ix cz.K cz.rm (de_var 0) de_int (fun _ _ => rfl)) de_str (nomark _)) (dss_one (ds_ret (de_not cz.K (de_call cz P__law_holds (pt0__law_holds o) rfl o.g__law_holds o.F__law_holds.kp (da_cons (de_ix cz.K cz.rm (de_var 0) de_int (fun _ _ => rfl)) (da_cons (de_var 1) (da_cons (de_var 2) (da_cons (de_var 3) da_nil)))) (hal := al_cons (al_cons (al_cons (al_cons al_nil)))))))) dss_nil)
    (dss_cons (ds_if (dt_cmp (c_in cz.K cz.rm) (de_ix cz.K cz.rm (de_var 0) de_int (fun _ _ => rfl)) (de_tup (da_cons de_str (da_cons de_str da_nil))) (by rfl)) (dss_cons (ds_setLc [("_law_part", 7)] cz (di_val cz.K (de_cut cz.K (de_var 0) (do_some de_int) do_none)) (by kernel_rfl) (fun _ _ _ _ _ cz => dg_name cz.nd) (fun _ _ _ _ _ cz => dts_nil) (fun _ _ _ _ _ cz => de_call cz P__law_holds (pt0__law_holds o) rfl o.g__law_holds o.F__law_holds.kp (da_cons (de_var 7) (da_cons (de_var 1) (da_cons (de_var 2) (da_cons (de_var 3) da_nil)))) (hal := al_cons (al_cons (al_cons (al_cons al_nil))))))
    (dss_one (ds_ret (de_cmp c_gt (de_count cz.K (de_var 4) (da_cons de_bl da_nil)) (de_intB rfl o.n_int (de_cmp (c_eq cz.K cz.rm) (de_ix cz.K cz.rm (de_var 0) de_int (fun _ _ => rfl)) de_str (nomark _))) (nomark _))))) dss_nil)
    (dss_cons (ds_asg (de_lc [("_law_part", 7)] cz (di_val cz.K (de_cut cz.K (de_var 0) (do_some de_int) do_none)) (by kernel_rfl) (fun _ _ _ _ _ cz => dg_name cz.nd) (fun _ _ _ _ _ cz => dts_nil) (fun _ _ _ _ _ cz => de_call cz P__law_worth (pt0__law_worth o) rfl o.g__law_worth o.F__law_worth.kp (da_cons (de_var 7) (da_cons (de_var 1) (da_cons (de_var 2) (da_cons (de_var 3) da_nil)))) (hal := al_cons (al_cons (al_cons (al_cons al_nil)))))) (dg_tup cz (dgs_cons (dg_name cz.nd) (dgs_cons (dg_name cz.nd) dgs_nil))))
    (dss_one (ds_ret (de_if (dt_cmp (c_eq cz.K cz.rm) (de_ix cz.K cz.rm (de_var 0) de_int (fun _ _ => rfl)) de_str (nomark _)) (de_cmp (c_eq cz.K cz.rm) (de_var 5) (de_var 6) (nomark _)) (de_cmp c_lt (de_var 5) (de_var 6) (nomark _)))))))
theorem sc__law_term_shown : FnScope ["_law_term", "_law_signs", "_law_sign"] ["_law_term"] (defScope s__law_term_shown) := ⟨rfl, rfl, rfl, by decide +kernel, rfl, by decide +kernel, by decide +kernel⟩
noncomputable def d__law_term_shown (Φ__law_term_shown : Den) : SF := sSeq (sSet 1 (eDisp [(eCon (.str "plus"), eCon (.str "+")), (eCon (.str "less"), eCon (.str "-")), (eCon (.str "times"), eCon (.str "*")), (eCon (.str "over"), eCon (.str "//")), (eCon (.str "rest"), eCon (.str "rest"))]))
  (sSeq (sIf (etoT (e2 opIn (e2 pIx (eVar 0) (eCon (.int 0))) (eVar 1))) (sSeq (sSet 2 (e2 opAdd (e2 opAdd (eCon (.str " ")) (e2 pIx (eVar 1) (e2 pIx (eVar 0) (eCon (.int 0))))) (eCon (.str " "))))
  (sRet (e2 opAdd (e2 opAdd (e2 opAdd (e2 opAdd (eCon (.str "(")) (dCall ar0__law_term_shown Φ__law_term_shown (aCons (e2 pIx (eVar 0) (eCon (.int 1))) aNil))) (eVar 2)) (dCall ar0__law_term_shown Φ__law_term_shown (aCons (e2 pIx (eVar 0) (eCon (.int 2))) aNil))) (eCon (.str ")"))))) sNext)
  (sRet (e1 bStr (e2 pIx (eVar 0) (e1 opNeg (eCon (.int 1)))))))
theorem ok__law_term_shown {W : Wd} {P : Program} {w : World} {mg : Str → Option Value} {base : Heap} {k : Nat} (o : Wo W w mg) {Φ__law_term_shown : Den} (P__law_term_shown : PFn W P w mg base k o.a__law_term_shown o.fd__law_term_shown ["_law_term"] Φ__law_term_shown) : PFn W P w mg base (k + 1) o.a__law_term_shown o.fd__law_term_shown ["_law_term"] (runD 3 (d__law_term_shown Φ__law_term_shown)) := by
  refine PFn.mk' (N := ["_law_term", "_law_signs", "_law_sign"]) (txt_of o.F__law_term_shown) sc__law_term_shown fun cdv A outer s H E cz => ?_
  exact dss_cons (ds_set cz.nd rfl (Or.inl rfl) (de_disp (.cons de_str de_str (.cons de_str de_str (.cons de_str de_str (.cons de_str de_str (.cons de_str de_str .nil)))))))
    (dss_cons (ds_if (dt_cmp (c_in cz.K cz.rm) (de_ix cz.K cz.rm (de_var 0) de_int (fun _ _ => rfl)) (de_var 1) (by rfl)) (dss_cons (ds_set cz.nd rfl (Or.inl rfl) (de_add cz.K (de_add cz.K de_str (de_ix cz.K cz.rm (de_var 1) (de_ix cz.K cz.rm (de_var 0) de_int (fun _ _ => rfl)) (fun _ _ => rfl))) de_str))
    (dss_one (ds_ret (de_add cz.K (de_add cz.K (de_add cz.K (de_add cz.K de_str (de_call cz P__law_term_shown (pt0__law_term_shown o) rfl o.g__law_term_shown o.F__law_term_shown.kp (da_cons (de_ix cz.K cz.rm (de_var 0) de_int (fun _ _ => rfl)) da_nil) (hal := al_cons al_nil))) (de_var 2)) (de_call cz P__law_term_shown (pt0__law_term_shown o) rfl o.g__law_term_shown o.F__law_term_shown.kp (da_cons (de_ix cz.K cz.rm (de_var 0) de_int (fun _ _ => rfl)) da_nil) (hal := al_cons al_nil))) de_str)))) dss_nil)
    (dss_one (ds_ret (de_strc rfl o.n_str (de_ix cz.K cz.rm (de_var 0) (de_neg de_int) (fun _ _ => rfl))))))
theorem sc__law_test_shown : FnScope ["_law_test", "_law_signs", "_law_sign"] ["_law_test"] (defScope s__law_test_shown) := ⟨rfl, rfl, rfl, by decide +kernel, rfl, by decide +kernel, by decide +kernel⟩
noncomputable def d__law_test_shown (Φ__law_term_shown : Den) (Φ__law_test_shown : Den) : SF := sSeq (sSet 1 (eDisp [(eCon (.str "is"), eCon (.str "==")), (eCon (.str "below"), eCon (.str "<")), (eCon (.str "both"), eCon (.str "and")), (eCon (.str "either"), eCon (.str "or"))]))
  (sSeq (sIf (etoT (e2 opEq (e2 pIx (eVar 0) (eCon (.int 0))) (eCon (.str "not")))) (sRet (e2 opAdd (e2 opAdd (eCon (.str "(not ")) (dCall ar0__law_test_shown Φ__law_test_shown (aCons (e2 pIx (eVar 0) (eCon (.int 1))) aNil))) (eCon (.str ")")))) sNext)
  (sSeq (sSet 2 (e2 opAdd (e2 opAdd (eCon (.str " ")) (e2 pIx (eVar 1) (e2 pIx (eVar 0) (eCon (.int 0))))) (eCon (.str " "))))
  (sSeq (sIf (etoT (e2 opIn (e2 pIx (eVar 0) (eCon (.int 0))) (eA pTup (aCons (eCon (.str "both")) (aCons (eCon (.str "either")) aNil))))) (sRet (e2 opAdd (e2 opAdd (e2 opAdd (e2 opAdd (eCon (.str "(")) (dCall ar0__law_test_shown Φ__law_test_shown (aCons (e2 pIx (eVar 0) (eCon (.int 1))) aNil))) (eVar 2)) (dCall ar0__law_test_shown Φ__law_test_shown (aCons (e2 pIx (eVar 0) (eCon (.int 2))) aNil))) (eCon (.str ")")))) sNext)
  (sRet (e2 opAdd (e2 opAdd (e2 opAdd (e2 opAdd (eCon (.str "(")) (dCall ar0__law_term_shown Φ__law_term_shown (aCons (e2 pIx (eVar 0) (eCon (.int 1))) aNil))) (eVar 2)) (dCall ar0__law_term_shown Φ__law_term_shown (aCons (e2 pIx (eVar 0) (eCon (.int 2))) aNil))) (eCon (.str ")")))))))
theorem ok__law_test_shown {W : Wd} {P : Program} {w : World} {mg : Str → Option Value} {base : Heap} {k : Nat} (o : Wo W w mg) {Φ__law_term_shown : Den} {Φ__law_test_shown : Den} (P__law_term_shown : PFn W P w mg base k o.a__law_term_shown o.fd__law_term_shown ["_law_term"] Φ__law_term_shown) (P__law_test_shown : PFn W P w mg base k o.a__law_test_shown o.fd__law_test_shown ["_law_test"] Φ__law_test_shown) : PFn W P w mg base (k + 1) o.a__law_test_shown o.fd__law_test_shown ["_law_test"] (runD 3 (d__law_test_shown Φ__law_term_shown Φ__law_test_shown)) := by
  refine PFn.mk' (N := ["_law_test", "_law_signs", "_law_sign"]) (txt_of o.F__law_test_shown) sc__law_test_shown fun cdv A outer s H E cz => ?_
  exact dss_cons (ds_set cz.nd rfl (Or.inl rfl) (de_disp (.cons de_str de_str (.cons de_str de_str (.cons de_str de_str (.cons de_str de_str .nil))))))
    (dss_cons (ds_if (dt_cmp (c_eq cz.K cz.rm) (de_ix cz.K cz.rm (de_var 0) de_int (fun _ _ => rfl)) de_str (nomark _)) (dss_one (ds_ret (de_add cz.K (de_add cz.K de_str (de_call cz P__law_test_shown (pt0__law_test_shown o) rfl o.g__law_test_shown o.F__law_test_shown.kp (da_cons (de_ix cz.K cz.rm (de_var 0) de_int (fun _ _ => rfl)) da_nil) (hal := al_cons al_nil))) de_str))) dss_nil)
    (dss_cons (ds_set cz.nd rfl (Or.inl rfl) (de_add cz.K (de_add cz.K de_str (de_ix cz.K cz.rm (de_var 1) (de_ix cz.K cz.rm (de_var 0) de_int (fun _ _ => rfl)) (fun _ _ => rfl))) de_str))
    (dss_cons (ds_if (dt_cmp (c_in cz.K cz.rm) (de_ix cz.K cz.rm (de_var 0) de_int (fun _ _ => rfl)) (de_tup (da_cons de_str (da_cons de_str da_nil))) (by rfl)) (dss_one (ds_ret (de_add cz.K (de_add cz.K (de_add cz.K (de_add cz.K de_str (de_call cz P__law_test_shown (pt0__law_test_shown o) rfl o.g__law_test_shown o.F__law_test_shown.kp (da_cons (de_ix cz.K cz.rm (de_var 0) de_int (fun _ _ => rfl)) da_nil) (hal := al_cons al_nil))) (de_var 2)) (de_call cz P__law_test_shown (pt0__law_test_shown o) rfl o.g__law_test_shown o.F__law_test_shown.kp (da_cons (de_ix cz.K cz.rm (de_var 0) de_int (fun _ _ => rfl)) da_nil) (hal := al_cons al_nil))) de_str))) dss_nil)
    (dss_one (ds_ret (de_add cz.K (de_add cz.K (de_add cz.K (de_add cz.K de_str (de_call cz P__law_term_shown (pt0__law_term_shown o) rfl o.g__law_term_shown o.F__law_term_shown.kp (da_cons (de_ix cz.K cz.rm (de_var 0) de_int (fun _ _ => rfl)) da_nil) (hal := al_cons al_nil))) (de_var 2)) (de_call cz P__law_term_shown (pt0__law_term_shown o) rfl o.g__law_term_shown o.F__law_term_shown.kp (da_cons (de_ix cz.K cz.rm (de_var 0) de_int (fun _ _ => rfl)) da_nil) (hal := al_cons al_nil))) de_str))))))
theorem sc__law_deep_term : FnScope ["_law_bag_here", "_law_names_here", "_law_most", "_law_deep", "_law_leaf", "_law_edge", "_law_less", "_law_word", "_law_first", "_law_other"] ["_law_bag_here", "_law_names_here", "_law_most", "_law_deep"] (defScope s__law_deep_term) := ⟨rfl, rfl, rfl, by decide +kernel, rfl, by decide +kernel, by decide +kernel⟩
noncomputable def d__law_deep_term (Φ__law_deep_term : Den) (Φ__law_of : Den) (Φ__law_take : Den) : SF := sSeq (sIf (tOrF (etoT (e2 opLt (eVar 3) (eCon (.int 2)))) (tOrF (etoT (e2 opLt (eVar 2) (eCon (.int 3)))) (etoT (e2 opEq (dCall ar0__law_take Φ__law_take (aCons (eVar 0) (aCons (eCon (.int 4)) aNil))) (eCon (.int 0)))))) (sSeq (sSet 4 (dCall ar0__law_take Φ__law_take (aCons (eVar 0) (aCons (eCon (.int 8)) aNil))))
  (sSeq (sIf (etoT (e2 opLt (eVar 4) (eCon (.int 4)))) (sRet (eA pTup (aCons (eCon (.str "box")) (aCons (dCall ar0__law_of Φ__law_of (aCons (eVar 0) (aCons (eVar 1) aNil))) aNil)))) sNext)
  (sSeq (sIf (etoT (e2 opLt (eVar 4) (eCon (.int 6)))) (sRet (eA pTup (aCons (e2 pIx (eA pLst (aCons (eCon (.str "asked")) (aCons (eCon (.str "told")) aNil))) (e2 opSub (eVar 4) (eCon (.int 4)))) aNil))) sNext)
  (sSeq (sSet 5 (e2 pIx (eA pLst (aCons (eCon (.int 0)) (aCons (eCon (.int 1)) (aCons (eCon (.int 9)) (aCons (eCon (.int 10)) (aCons (eCon (.int 99)) (aCons (eCon (.int 999)) aNil))))))) (dCall ar0__law_take Φ__law_take (aCons (eVar 0) (aCons (eCon (.int 6)) aNil)))))
  (sRet (eA pTup (aCons (eCon (.str "number")) (aCons (e2 pIx (eA pLst (aCons (dCall ar0__law_take Φ__law_take (aCons (eVar 0) (aCons (eCon (.int 1000)) aNil))) (aCons (eVar 5) aNil))) (e2 opSub (eVar 4) (eCon (.int 6)))) aNil)))))))) sNext)
  (sSeq (sSet 6 (e2 opAdd (eCon (.int 1)) (dCall ar0__law_take Φ__law_take (aCons (eVar 0) (aCons (e2 opSub (eVar 2) (eCon (.int 2))) aNil)))))
  (sSeq (sSet 7 (dCall ar0__law_of Φ__law_of (aCons (eVar 0) (aCons (eA pLst (aCons (eCon (.str "plus")) (aCons (eCon (.str "less")) (aCons (eCon (.str "times")) (aCons (eCon (.str "over")) (aCons (eCon (.str "rest")) aNil)))))) aNil))))
  (sSeq (sSet 8 (dCall ar0__law_deep_term Φ__law_deep_term (aCons (eVar 0) (aCons (eVar 1) (aCons (eVar 6) (aCons (e2 opSub (eVar 3) (eCon (.int 1))) aNil))))))
  (sSeq (sSet 9 (dCall ar0__law_deep_term Φ__law_deep_term (aCons (eVar 0) (aCons (eVar 1) (aCons (e2 opSub (e2 opSub (eVar 2) (eCon (.int 1))) (eVar 6)) (aCons (e2 opSub (eVar 3) (eCon (.int 1))) aNil))))))
  (sRet (eA pTup (aCons (eVar 7) (aCons (eVar 8) (aCons (eVar 9) aNil)))))))))
theorem ok__law_deep_term {W : Wd} {P : Program} {w : World} {mg : Str → Option Value} {base : Heap} {k : Nat} (o : Wo W w mg) {Φ__law_deep_term : Den} {Φ__law_of : Den} {Φ__law_take : Den} (P__law_deep_term : PFn W P w mg base k o.a__law_deep_term o.fd__law_deep_term ["_law_bag_here", "_law_names_here", "_law_most", "_law_deep"] Φ__law_deep_term) (P__law_of : PFn W P w mg base k o.a__law_of o.fd__law_of ["_law_bag_here", "_law_some"] Φ__law_of) (P__law_take : PFn W P w mg base k o.a__law_take o.fd__law_take ["_law_bag_here", "_law_often"] Φ__law_take) : PFn W P w mg base (k + 1) o.a__law_deep_term o.fd__law_deep_term ["_law_bag_here", "_law_names_here", "_law_most", "_law_deep"] (runD 10 (d__law_deep_term Φ__law_deep_term Φ__law_of Φ__law_take)) := by
  refine PFn.mk' (N := ["_law_bag_here", "_law_names_here", "_law_most", "_law_deep", "_law_leaf", "_law_edge", "_law_less", "_law_word", "_law_first", "_law_other"]) (txt_of o.F__law_deep_term) sc__law_deep_term fun cdv A outer s H E cz => ?_
  exact dss_cons (ds_if (dw_t (dw_or (dt_cmp c_lt (de_var 3) de_int (nomark _)) (dw_or (dt_cmp c_lt (de_var 2) de_int (nomark _)) (dw_or1 (dt_cmp (c_eq cz.K cz.rm) (de_call cz P__law_take (pt0__law_take o) rfl o.g__law_take o.F__law_take.kp (da_cons (de_var 0) (da_cons de_int da_nil)) (hal := al_cons (al_cons al_nil))) de_int (nomark _)))))) (dss_cons (ds_set cz.nd rfl (Or.inl rfl) (de_call cz P__law_take (pt0__law_take o) rfl o.g__law_take o.F__law_take.kp (da_cons (de_var 0) (da_cons de_int da_nil)) (hal := al_cons (al_cons al_nil))))
    (dss_cons (ds_if (dt_cmp c_lt (de_var 4) de_int (nomark _)) (dss_one (ds_ret (de_tup (da_cons de_str (da_cons (de_call cz P__law_of (pt0__law_of o) rfl o.g__law_of o.F__law_of.kp (da_cons (de_var 0) (da_cons (de_var 1) da_nil)) (hal := al_cons (al_cons al_nil))) da_nil))))) dss_nil)
    (dss_cons (ds_if (dt_cmp c_lt (de_var 4) de_int (nomark _)) (dss_one (ds_ret (de_tup (da_cons (de_ix cz.K cz.rm (de_lst (da_cons de_str (da_cons de_str da_nil))) (de_sub (de_var 4) de_int) (fun _ _ => rfl)) da_nil)))) dss_nil)
    (dss_cons (ds_set cz.nd rfl (Or.inl rfl) (de_ix cz.K cz.rm (de_lst (da_cons de_int (da_cons de_int (da_cons de_int (da_cons de_int (da_cons de_int (da_cons de_int da_nil))))))) (de_call cz P__law_take (pt0__law_take o) rfl o.g__law_take o.F__law_take.kp (da_cons (de_var 0) (da_cons de_int da_nil)) (hal := al_cons (al_cons al_nil))) (fun _ _ => rfl)))
    (dss_one (ds_ret (de_tup (da_cons de_str (da_cons (de_ix cz.K cz.rm (de_lst (da_cons (de_call cz P__law_take (pt0__law_take o) rfl o.g__law_take o.F__law_take.kp (da_cons (de_var 0) (da_cons de_int da_nil)) (hal := al_cons (al_cons al_nil))) (da_cons (de_var 5) da_nil))) (de_sub (de_var 4) de_int) (fun _ _ => rfl)) da_nil))))))))) dss_nil)
    (dss_cons (ds_set cz.nd rfl (Or.inl rfl) (de_add cz.K de_int (de_call cz P__law_take (pt0__law_take o) rfl o.g__law_take o.F__law_take.kp (da_cons (de_var 0) (da_cons (de_sub (de_var 2) de_int) da_nil)) (hal := al_cons (al_cons al_nil)))))
    (dss_cons (ds_set cz.nd rfl (Or.inl rfl) (de_call cz P__law_of (pt0__law_of o) rfl o.g__law_of o.F__law_of.kp (da_cons (de_var 0) (da_cons (de_lst (da_cons de_str (da_cons de_str (da_cons de_str (da_cons de_str (da_cons de_str da_nil)))))) da_nil)) (hal := al_cons (al_cons al_nil))))
    (dss_cons (ds_set cz.nd rfl (Or.inl rfl) (de_call cz P__law_deep_term (pt0__law_deep_term o) rfl o.g__law_deep_term o.F__law_deep_term.kp (da_cons (de_var 0) (da_cons (de_var 1) (da_cons (de_var 6) (da_cons (de_sub (de_var 3) de_int) da_nil)))) (hal := al_cons (al_cons (al_cons (al_cons al_nil))))))
    (dss_cons (ds_set cz.nd rfl (Or.inl rfl) (de_call cz P__law_deep_term (pt0__law_deep_term o) rfl o.g__law_deep_term o.F__law_deep_term.kp (da_cons (de_var 0) (da_cons (de_var 1) (da_cons (de_sub (de_sub (de_var 2) de_int) (de_var 6)) (da_cons (de_sub (de_var 3) de_int) da_nil)))) (hal := al_cons (al_cons (al_cons (al_cons al_nil))))))
    (dss_one (ds_ret (de_tup (da_cons (de_var 7) (da_cons (de_var 8) (da_cons (de_var 9) da_nil))))))))))
theorem sc__law_deep_test : FnScope ["_law_bag_here", "_law_names_here", "_law_most", "_law_deep", "_law_way", "_law_less", "_law_first", "_law_other"] ["_law_bag_here", "_law_names_here", "_law_most", "_law_deep"] (defScope s__law_deep_test) := ⟨rfl, rfl, rfl, by decide +kernel, rfl, by decide +kernel, by decide +kernel⟩
noncomputable def d__law_deep_test (Φ__law_deep_term : Den) (Φ__law_take : Den) (Φ__law_deep_test : Den) : SF := sSeq (sSet 4 (dCall ar0__law_take Φ__law_take (aCons (eVar 0) (aCons (eCon (.int 6)) aNil))))
  (sSeq (sIf (tAndF (etoT (e2 opEq (eVar 4) (eCon (.int 0)))) (tAndF (etoT (e2 opGt (eVar 3) (eCon (.int 2)))) (etoT (e2 opGt (eVar 2) (eCon (.int 3)))))) (sRet (eA pTup (aCons (eCon (.str "not")) (aCons (dCall ar0__law_deep_test Φ__law_deep_test (aCons (eVar 0) (aCons (eVar 1) (aCons (e2 opSub (eVar 2) (eCon (.int 1))) (aCons (e2 opSub (eVar 3) (eCon (.int 1))) aNil))))) aNil)))) sNext)
  (sSeq (sIf (tAndF (etoT (e2 opLt (eVar 4) (eCon (.int 3)))) (tAndF (etoT (e2 opGt (eVar 3) (eCon (.int 2)))) (etoT (e2 opGt (eVar 2) (eCon (.int 6)))))) (sSeq (sSet 5 (e2 opAdd (eCon (.int 3)) (dCall ar0__law_take Φ__law_take (aCons (eVar 0) (aCons (e2 opSub (eVar 2) (eCon (.int 6))) aNil)))))
  (sSeq (sSet 6 (dCall ar0__law_deep_test Φ__law_deep_test (aCons (eVar 0) (aCons (eVar 1) (aCons (eVar 5) (aCons (e2 opSub (eVar 3) (eCon (.int 1))) aNil))))))
  (sSeq (sSet 7 (dCall ar0__law_deep_test Φ__law_deep_test (aCons (eVar 0) (aCons (eVar 1) (aCons (e2 opSub (e2 opSub (eVar 2) (eCon (.int 1))) (eVar 5)) (aCons (e2 opSub (eVar 3) (eCon (.int 1))) aNil))))))
  (sRet (eA pTup (aCons (e2 pIx (eA pLst (aCons (eCon (.str "both")) (aCons (eCon (.str "either")) aNil))) (e2 opMod (eVar 4) (eCon (.int 2)))) (aCons (eVar 6) (aCons (eVar 7) aNil)))))))) sNext)
  (sSeq (sSet 5 (e2 opAdd (eCon (.int 1)) (dCall ar0__law_take Φ__law_take (aCons (eVar 0) (aCons (e2 opSub (eVar 2) (eCon (.int 2))) aNil)))))
  (sSeq (sSet 6 (dCall ar0__law_deep_term Φ__law_deep_term (aCons (eVar 0) (aCons (eVar 1) (aCons (eVar 5) (aCons (e2 opSub (eVar 3) (eCon (.int 1))) aNil))))))
  (sSeq (sSet 7 (dCall ar0__law_deep_term Φ__law_deep_term (aCons (eVar 0) (aCons (eVar 1) (aCons (e2 opSub (e2 opSub (eVar 2) (eCon (.int 1))) (eVar 5)) (aCons (e2 opSub (eVar 3) (eCon (.int 1))) aNil))))))
  (sRet (eA pTup (aCons (e2 pIx (eA pLst (aCons (eCon (.str "is")) (aCons (eCon (.str "below")) aNil))) (e2 opMod (eVar 4) (eCon (.int 2)))) (aCons (eVar 6) (aCons (eVar 7) aNil))))))))))
theorem ok__law_deep_test {W : Wd} {P : Program} {w : World} {mg : Str → Option Value} {base : Heap} {k : Nat} (o : Wo W w mg) {Φ__law_deep_term : Den} {Φ__law_take : Den} {Φ__law_deep_test : Den} (P__law_deep_term : PFn W P w mg base k o.a__law_deep_term o.fd__law_deep_term ["_law_bag_here", "_law_names_here", "_law_most", "_law_deep"] Φ__law_deep_term) (P__law_take : PFn W P w mg base k o.a__law_take o.fd__law_take ["_law_bag_here", "_law_often"] Φ__law_take) (P__law_deep_test : PFn W P w mg base k o.a__law_deep_test o.fd__law_deep_test ["_law_bag_here", "_law_names_here", "_law_most", "_law_deep"] Φ__law_deep_test) : PFn W P w mg base (k + 1) o.a__law_deep_test o.fd__law_deep_test ["_law_bag_here", "_law_names_here", "_law_most", "_law_deep"] (runD 8 (d__law_deep_test Φ__law_deep_term Φ__law_take Φ__law_deep_test)) := by
  refine PFn.mk' (N := ["_law_bag_here", "_law_names_here", "_law_most", "_law_deep", "_law_way", "_law_less", "_law_first", "_law_other"]) (txt_of o.F__law_deep_test) sc__law_deep_test fun cdv A outer s H E cz => ?_
  exact dss_cons (ds_set cz.nd rfl (Or.inl rfl) (de_call cz P__law_take (pt0__law_take o) rfl o.g__law_take o.F__law_take.kp (da_cons (de_var 0) (da_cons de_int da_nil)) (hal := al_cons (al_cons al_nil))))
    (dss_cons (ds_if (dw_t (dw_and (dt_cmp (c_eq cz.K cz.rm) (de_var 4) de_int (nomark _)) (dw_and (dt_cmp c_gt (de_var 3) de_int (nomark _)) (dw_and1 (dt_cmp c_gt (de_var 2) de_int (nomark _)))))) (dss_one (ds_ret (de_tup (da_cons de_str (da_cons (de_call cz P__law_deep_test (pt0__law_deep_test o) rfl o.g__law_deep_test o.F__law_deep_test.kp (da_cons (de_var 0) (da_cons (de_var 1) (da_cons (de_sub (de_var 2) de_int) (da_cons (de_sub (de_var 3) de_int) da_nil)))) (hal := al_cons (al_cons (al_cons (al_cons al_nil))))) da_nil))))) dss_nil)
    (dss_cons (ds_if (dw_t (dw_and (dt_cmp c_lt (de_var 4) de_int (nomark _)) (dw_and (dt_cmp c_gt (de_var 3) de_int (nomark _)) (dw_and1 (dt_cmp c_gt (de_var 2) de_int (nomark _)))))) (dss_cons (ds_set cz.nd rfl (Or.inl rfl) (de_add cz.K de_int (de_call cz P__law_take (pt0__law_take o) rfl o.g__law_take o.F__law_take.kp (da_cons (de_var 0) (da_cons (de_sub (de_var 2) de_int) da_nil)) (hal := al_cons (al_cons al_nil)))))
    (dss_cons (ds_set cz.nd rfl (Or.inl rfl) (de_call cz P__law_deep_test (pt0__law_deep_test o) rfl o.g__law_deep_test o.F__law_deep_test.kp (da_cons (de_var 0) (da_cons (de_var 1) (da_cons (de_var 5) (da_cons (de_sub (de_var 3) de_int) da_nil)))) (hal := al_cons (al_cons (al_cons (al_cons al_nil))))))
    (dss_cons (ds_set cz.nd rfl (Or.inl rfl) (de_call cz P__law_deep_test (pt0__law_deep_test o) rfl o.g__law_deep_test o.F__law_deep_test.kp (da_cons (de_var 0) (da_cons (de_var 1) (da_cons (de_sub (de_sub (de_var 2) de_int) (de_var 5)) (da_cons (de_sub (de_var 3) de_int) da_nil)))) (hal := al_cons (al_cons (al_cons (al_cons al_nil))))))
    (dss_one (ds_ret (de_tup (da_cons (de_ix cz.K cz.rm (de_lst (da_cons de_str (da_cons de_str da_nil))) (de_mod (de_var 4) de_int) (fun _ _ => rfl)) (da_cons (de_var 6) (da_cons (de_var 7) da_nil))))))))) dss_nil)
    (dss_cons (ds_set cz.nd rfl (Or.inl rfl) (de_add cz.K de_int (de_call cz P__law_take (pt0__law_take o) rfl o.g__law_take o.F__law_take.kp (da_cons (de_var 0) (da_cons (de_sub (de_var 2) de_int) da_nil)) (hal := al_cons (al_cons al_nil)))))
    (dss_cons (ds_set cz.nd rfl (Or.inl rfl) (de_call cz P__law_deep_term (pt0__law_deep_term o) rfl o.g__law_deep_term o.F__law_deep_term.kp (da_cons (de_var 0) (da_cons (de_var 1) (da_cons (de_var 5) (da_cons (de_sub (de_var 3) de_int) da_nil)))) (hal := al_cons (al_cons (al_cons (al_cons al_nil))))))
    (dss_cons (ds_set cz.nd rfl (Or.inl rfl) (de_call cz P__law_deep_term (pt0__law_deep_term o) rfl o.g__law_deep_term o.F__law_deep_term.kp (da_cons (de_var 0) (da_cons (de_var 1) (da_cons (de_sub (de_sub (de_var 2) de_int) (de_var 5)) (da_cons (de_sub (de_var 3) de_int) da_nil)))) (hal := al_cons (al_cons (al_cons (al_cons al_nil))))))
    (dss_one (ds_ret (de_tup (da_cons (de_ix cz.K cz.rm (de_lst (da_cons de_str (da_cons de_str da_nil))) (de_mod (de_var 4) de_int) (fun _ _ => rfl)) (da_cons (de_var 6) (da_cons (de_var 7) da_nil)))))))))))
theorem sc__law_are_right : FnScope ["_law_bag_here", "_law_names_here", "_law_term", "_law_test", "_law_again", "_law_few", "_law_jars", "_law_number", "_law_said", "_law_due", "_law_name"] ["_law_bag_here", "_law_names_here", "_law_term", "_law_test"] (defScope s__law_are_right) := ⟨rfl, rfl, rfl, by decide +kernel, rfl, by decide +kernel, by decide +kernel⟩
noncomputable def d__law_are_right_E1 (Φ_holds : Den) (Φ__law_holds : Den) (Φ_worth : Den) (Φ__law_worth : Den) (Φ__law_take : Den) (Φ_expression_text : Den) (Φ__law_term_shown : Den) (Φ_test_text : Den) (Φ__law_test_shown : Den) : EF := eA pTup (aCons (eVar 10) (aCons (dCall ar0__law_take Φ__law_take (aCons (eVar 0) (aCons (eVar 5) aNil))) aNil))
noncomputable def d__law_are_right_L1 (Φ_holds : Den) (Φ__law_holds : Den) (Φ_worth : Den) (Φ__law_worth : Den) (Φ__law_take : Den) (Φ_expression_text : Den) (Φ__law_term_shown : Den) (Φ_test_text : Den) (Φ__law_test_shown : Den) : SF := sSeq (sSet 5 (e2 pIx (eA pLst (aCons (eCon (.int 3)) (aCons (eCon (.int 40)) (aCons (eCon (.int 1000)) aNil)))) (eVar 4)))
  (sSeq (sSet 6 (e1 bDct (eLc (iVal (eVar 1)) (gNm 10) tYesF (d__law_are_right_E1 Φ_holds Φ__law_holds Φ_worth Φ__law_worth Φ__law_take Φ_expression_text Φ__law_term_shown Φ_test_text Φ__law_test_shown) [10])))
  (sSeq (sPar 7 8 (aCons (dCall ar0__law_take Φ__law_take (aCons (eVar 0) (aCons (eVar 5) aNil))) (aCons (dCall ar0__law_take Φ__law_take (aCons (eVar 0) (aCons (eVar 5) aNil))) aNil)))
  (sSeq (sSet 9 (dCall ar0__law_worth Φ__law_worth (aCons (eVar 2) (aCons (eVar 6) (aCons (eVar 7) (aCons (eVar 8) aNil))))))
  (sSeq (sIf (tOrF (etoT (e2 opNe (dCall ar0_worth Φ_worth (aApp (aCons (eVar 2) (aCons (eVar 6) aNil)) (aCons (eVar 7) (aCons (eVar 8) aNil)))) (eVar 9))) (etoT (e2 opNe (dCall ar1_worth Φ_worth (aCons (eVar 2) (aCons (eVar 6) aNil))) (dCall ar0__law_worth Φ__law_worth (aCons (eVar 2) (aCons (eVar 6) (aCons (eCon (.int 0)) (aCons (eCon (.int 0)) aNil)))))))) (sRet (eCon (.bl false))) sNext)
  (sSeq (sIf (etoT (e2 opNe (e1 bRepr (dCall ar2_holds Φ_holds (aApp (aCons (eVar 3) (aCons (eVar 6) aNil)) (aCons (eVar 8) (aCons (eVar 7) aNil))))) (e1 bRepr (dCall ar0__law_holds Φ__law_holds (aCons (eVar 3) (aCons (eVar 6) (aCons (eVar 7) (aCons (eVar 8) aNil)))))))) (sRet (eCon (.bl false))) sNext)
  (sIf (etoT (e2 opNe (e1 bRepr (dCall ar1_holds Φ_holds (aApp (aCons (eVar 3) (aCons (eVar 6) aNil)) (aCons (eVar 8) aNil)))) (e1 bRepr (dCall ar0__law_holds Φ__law_holds (aCons (eVar 3) (aCons (eVar 6) (aCons (eCon (.int 0)) (aCons (eVar 8) aNil)))))))) (sRet (eCon (.bl false))) sNext))))))
noncomputable def d__law_are_right (Φ_holds : Den) (Φ__law_holds : Den) (Φ_worth : Den) (Φ__law_worth : Den) (Φ__law_take : Den) (Φ_expression_text : Den) (Φ__law_term_shown : Den) (Φ_test_text : Den) (Φ__law_test_shown : Den) : SF := sSeq (sIf (tOrF (etoT (e2 opNe (dCall ar0_expression_text Φ_expression_text (aCons (eVar 2) aNil)) (dCall ar0__law_term_shown Φ__law_term_shown (aCons (eVar 2) aNil)))) (etoT (e2 opNe (dCall ar0_test_text Φ_test_text (aCons (eVar 3) aNil)) (dCall ar0__law_test_shown Φ__law_test_shown (aCons (eVar 3) aNil))))) (sRet (eCon (.bl false))) sNext)
  (sSeq (sFor (iRg1 (eCon (.int 3))) (gNm 4) (d__law_are_right_L1 Φ_holds Φ__law_holds Φ_worth Φ__law_worth Φ__law_take Φ_expression_text Φ__law_term_shown Φ_test_text Φ__law_test_shown))
  (sRet (eCon (.bl true))))
theorem ok__law_are_right {W : Wd} {P : Program} {w : World} {mg : Str → Option Value} {base : Heap} {k : Nat} (o : Wo W w mg) {Φ_holds : Den} {Φ__law_holds : Den} {Φ_worth : Den} {Φ__law_worth : Den} {Φ__law_take : Den} {Φ_expression_text : Den} {Φ__law_term_shown : Den} {Φ_test_text : Den} {Φ__law_test_shown : Den} (P_holds : PFn W P w mg base k o.a_holds o.fd_holds ["test", "boxes", "asked", "told"] Φ_holds) (P__law_holds : PFn W P w mg base k o.a__law_holds o.fd__law_holds ["_law_test", "_law_jars", "_law_wanted", "_law_said"] Φ__law_holds) (P_worth : PFn W P w mg base k o.a_worth o.fd_worth ["expression", "boxes", "asked", "told"] Φ_worth) (P__law_worth : PFn W P w mg base k o.a__law_worth o.fd__law_worth ["_law_term", "_law_jars", "_law_wanted", "_law_said"] Φ__law_worth) (P__law_take : PFn W P w mg base k o.a__law_take o.fd__law_take ["_law_bag_here", "_law_often"] Φ__law_take) (P_expression_text : PFn W P w mg base k o.a_expression_text o.fd_expression_text ["expression"] Φ_expression_text) (P__law_term_shown : PFn W P w mg base k o.a__law_term_shown o.fd__law_term_shown ["_law_term"] Φ__law_term_shown) (P_test_text : PFn W P w mg base k o.a_test_text o.fd_test_text ["test"] Φ_test_text) (P__law_test_shown : PFn W P w mg base k o.a__law_test_shown o.fd__law_test_shown ["_law_test"] Φ__law_test_shown) : PFn W P w mg base (k + 1) o.a__law_are_right o.fd__law_are_right ["_law_bag_here", "_law_names_here", "_law_term", "_law_test"] (runD 11 (d__law_are_right Φ_holds Φ__law_holds Φ_worth Φ__law_worth Φ__law_take Φ_expression_text Φ__law_term_shown Φ_test_text Φ__law_test_shown)) := by
  refine PFn.mk' (N := ["_law_bag_here", "_law_names_here", "_law_term", "_law_test", "_law_again", "_law_few", "_law_jars", "_law_number", "_law_said", "_law_due", "_law_name"]) (txt_of o.F__law_are_right) sc__law_are_right fun cdv A outer s H E cz => ?_
  exact dss_cons (ds_if (dw_t (dw_or (dt_cmp (c_ne cz.K cz.rm) (de_call cz P_expression_text (pt0_expression_text o) rfl o.g_expression_text o.F_expression_text.kp (da_cons (de_var 2) da_nil) (hal := al_cons al_nil)) (de_call cz P__law_term_shown (pt0__law_term_shown o) rfl o.g__law_term_shown o.F__law_term_shown.kp (da_cons (de_var 2) da_nil) (hal := al_cons al_nil)) (nomark _)) (dw_or1 (dt_cmp (c_ne cz.K cz.rm) (de_call cz P_test_text (pt0_test_text o) rfl o.g_test_text o.F_test_text.kp (da_cons (de_var 3) da_nil) (hal := al_cons al_nil)) (de_call cz P__law_test_shown (pt0__law_test_shown o) rfl o.g__law_test_shown o.F__law_test_shown.kp (da_cons (de_var 3) da_nil) (hal := al_cons al_nil)) (nomark _))))) (dss_one (ds_ret de_bl)) dss_nil)
    (dss_cons (ds_for cz (di_rg1 rfl o.n_range de_int) (dg_name cz.nd) (dss_cons (ds_set cz.nd rfl (Or.inr rfl) (de_ix cz.K cz.rm (de_lst (da_cons de_int (da_cons de_int (da_cons de_int da_nil)))) (de_var 4) (fun _ _ => rfl)))
    (dss_cons (ds_set cz.nd rfl (Or.inl rfl) (de_dct cz.K cz.calm rfl o.n_dict (de_lc [("_law_name", 10)] cz (di_val cz.K (de_var 1)) (by kernel_rfl) (fun _ _ _ _ _ cz => dg_name cz.nd) (fun _ _ _ _ _ cz => dts_nil) (fun _ _ _ _ _ cz => de_tup (da_cons (de_var 10) (da_cons (de_call cz P__law_take (pt0__law_take o) rfl o.g__law_take o.F__law_take.kp (da_cons (de_var 0) (da_cons (de_var 5) da_nil)) (hal := al_cons (al_cons al_nil))) da_nil))))))
    (dss_cons (ds_par cz (da_cons (de_call cz P__law_take (pt0__law_take o) rfl o.g__law_take o.F__law_take.kp (da_cons (de_var 0) (da_cons (de_var 5) da_nil)) (hal := al_cons (al_cons al_nil))) (da_cons (de_call cz P__law_take (pt0__law_take o) rfl o.g__law_take o.F__law_take.kp (da_cons (de_var 0) (da_cons (de_var 5) da_nil)) (hal := al_cons (al_cons al_nil))) da_nil)))
    (dss_cons (ds_set cz.nd rfl (Or.inl rfl) (de_call cz P__law_worth (pt0__law_worth o) rfl o.g__law_worth o.F__law_worth.kp (da_cons (de_var 2) (da_cons (de_var 6) (da_cons (de_var 7) (da_cons (de_var 8) da_nil)))) (hal := al_cons (al_cons (al_cons (al_cons al_nil))))))
    (dss_cons (ds_if (dw_t (dw_or (dt_cmp (c_ne cz.K cz.rm) (de_callK cz P_worth (pt0_worth o) rfl o.g_worth o.F_worth.kp (da_cons (de_var 2) (da_cons (de_var 6) da_nil)) (dk_cons (de_var 7) (dk_cons (de_var 8) dk_nil)) (hal := al_cons (al_cons al_nil)) (hbl := al_cons (al_cons al_nil))) (de_var 9) (nomark _)) (dw_or1 (dt_cmp (c_ne cz.K cz.rm) (de_call cz P_worth (pt1_worth o) rfl o.g_worth o.F_worth.kp (da_cons (de_var 2) (da_cons (de_var 6) da_nil)) (hal := al_cons (al_cons al_nil))) (de_call cz P__law_worth (pt0__law_worth o) rfl o.g__law_worth o.F__law_worth.kp (da_cons (de_var 2) (da_cons (de_var 6) (da_cons de_int (da_cons de_int da_nil)))) (hal := al_cons (al_cons (al_cons (al_cons al_nil))))) (nomark _))))) (dss_one (ds_ret de_bl)) dss_nil)
    (dss_cons (ds_if (dt_cmp (c_ne cz.K cz.rm) (de_repr cz.K cz.rm cz.gd rfl o.n_repr (de_callK cz P_holds (pt2_holds o) rfl o.g_holds o.F_holds.kp (da_cons (de_var 3) (da_cons (de_var 6) da_nil)) (dk_cons (de_var 8) (dk_cons (de_var 7) dk_nil)) (hal := al_cons (al_cons al_nil)) (hbl := al_cons (al_cons al_nil)))) (de_repr cz.K cz.rm cz.gd rfl o.n_repr (de_call cz P__law_holds (pt0__law_holds o) rfl o.g__law_holds o.F__law_holds.kp (da_cons (de_var 3) (da_cons (de_var 6) (da_cons (de_var 7) (da_cons (de_var 8) da_nil)))) (hal := al_cons (al_cons (al_cons (al_cons al_nil)))))) (nomark _)) (dss_one (ds_ret de_bl)) dss_nil)
    (dss_one (ds_if (dt_cmp (c_ne cz.K cz.rm) (de_repr cz.K cz.rm cz.gd rfl o.n_repr (de_callK cz P_holds (pt1_holds o) rfl o.g_holds o.F_holds.kp (da_cons (de_var 3) (da_cons (de_var 6) da_nil)) (dk_cons (de_var 8) dk_nil) (hal := al_cons (al_cons al_nil)) (hbl := al_cons al_nil))) (de_repr cz.K cz.rm cz.gd rfl o.n_repr (de_call cz P__law_holds (pt0__law_holds o) rfl o.g__law_holds o.F__law_holds.kp (da_cons (de_var 3) (da_cons (de_var 6) (da_cons de_int (da_cons (de_var 8) da_nil)))) (hal := al_cons (al_cons (al_cons (al_cons al_nil)))))) (nomark _)) (dss_one (ds_ret de_bl)) dss_nil)))))))))
    (dss_one (ds_ret de_bl)))
theorem sc_law : FnScope ["_law_script", "_law_at", "_law_bag_here", "_law_names_here", "_law_met", "_law_turn", "_law_most", "_law_term", "_law_test", "_law_one", "_law_shown"] ["_law_script"] (defScope s_law) := ⟨rfl, rfl, rfl, by decide +kernel, rfl, by decide +kernel, by decide +kernel⟩
noncomputable def d_law_L1 (Φ_test_text : Den) (Φ_expression_text : Den) (Φ__law_are_right : Den) (Φ__law_deep_test : Den) (Φ__law_take : Den) (Φ__law_deep_term : Den) (Φ__law_names : Den) (Φ__law_bag : Den) : SF := sIf (etoT (e2 opNe (eSetd (eVar 4) (eVar 10) (eVar 9)) (eVar 9))) (sRet (eCon (.bl false))) sNext
noncomputable def d_law_L2 (Φ_test_text : Den) (Φ_expression_text : Den) (Φ__law_are_right : Den) (Φ__law_deep_test : Den) (Φ__law_take : Den) (Φ__law_deep_term : Den) (Φ__law_names : Den) (Φ__law_bag : Den) : SF := sSeq (sSet 6 (e2 opAdd (eCon (.int 1)) (dCall ar0__law_take Φ__law_take (aCons (eVar 2) (aCons (eCon (.int 16)) aNil)))))
  (sSeq (sSet 7 (dCall ar0__law_deep_term Φ__law_deep_term (aCons (eVar 2) (aCons (eVar 3) (aCons (eVar 6) (aCons (e2 opAdd (eCon (.int 1)) (dCall ar0__law_take Φ__law_take (aCons (eVar 2) (aCons (eCon (.int 5)) aNil)))) aNil))))))
  (sSeq (sSet 8 (dCall ar0__law_deep_test Φ__law_deep_test (aCons (eVar 2) (aCons (eVar 3) (aCons (e2 bMax (eCon (.int 3)) (eVar 6)) (aCons (e2 opAdd (eCon (.int 2)) (dCall ar0__law_take Φ__law_take (aCons (eVar 2) (aCons (eCon (.int 4)) aNil)))) aNil))))))
  (sSeq (sIf (tNotF (etru (dCall ar0__law_are_right Φ__law_are_right (aCons (eVar 2) (aCons (eVar 3) (aCons (eVar 7) (aCons (eVar 8) aNil))))))) (sRet (eCon (.bl false))) sNext)
  (sFor (iVal (eA pLst (aCons (eA pTup (aCons (eVar 7) (aCons (dCall ar0_expression_text Φ_expression_text (aCons (eVar 7) aNil)) aNil))) (aCons (eA pTup (aCons (eVar 8) (aCons (dCall ar0_test_text Φ_test_text (aCons (eVar 8) aNil)) aNil))) aNil)))) (gUnp 2 (gsCons (gNm 9) (gsCons (gNm 10) gsNil))) (d_law_L1 Φ_test_text Φ_expression_text Φ__law_are_right Φ__law_deep_test Φ__law_take Φ__law_deep_term Φ__law_names Φ__law_bag)))))
noncomputable def d_law_L3 (Φ_test_text : Den) (Φ_expression_text : Den) (Φ__law_are_right : Den) (Φ__law_deep_test : Den) (Φ__law_take : Den) (Φ__law_deep_term : Den) (Φ__law_names : Den) (Φ__law_bag : Den) : SF := sSeq (sSet 2 (dCall ar0__law_bag Φ__law_bag (aCons (eVar 0) (aCons (eVar 1) aNil))))
  (sSeq (sPar 3 4 (aCons (e2 opAdd (dCall ar0__law_names Φ__law_names (aCons (eVar 2) (aCons (eCon (.int 4)) aNil))) (eA pLst (aCons (eCon (.str "aske")) (aCons (eCon (.str "tolds")) (aCons (eCon (.str "nota")) (aCons (eCon (.str "ore")) aNil)))))) (aCons (eLay eD0) aNil)))
  (sFor (iRg1 (eCon (.int 20))) (gNm 5) (d_law_L2 Φ_test_text Φ_expression_text Φ__law_are_right Φ__law_deep_test Φ__law_take Φ__law_deep_term Φ__law_names Φ__law_bag)))
noncomputable def d_law (Φ_test_text : Den) (Φ_expression_text : Den) (Φ__law_are_right : Den) (Φ__law_deep_test : Den) (Φ__law_take : Den) (Φ__law_deep_term : Den) (Φ__law_names : Den) (Φ__law_bag : Den) : SF := sSeq (sFor (iRg1 (e2 bMax (eCon (.int 2)) (e2 bMin (eCon (.int 3)) (e1 bLen (eVar 0))))) (gNm 1) (d_law_L3 Φ_test_text Φ_expression_text Φ__law_are_right Φ__law_deep_test Φ__law_take Φ__law_deep_term Φ__law_names Φ__law_bag))
  (sRet (eCon (.bl true)))
theorem ok_law {W : Wd} {P : Program} {w : World} {mg : Str → Option Value} {base : Heap} {k : Nat} (o : Wo W w mg) {Φ_test_text : Den} {Φ_expression_text : Den} {Φ__law_are_right : Den} {Φ__law_deep_test : Den} {Φ__law_take : Den} {Φ__law_deep_term : Den} {Φ__law_names : Den} {Φ__law_bag : Den} (P_test_text : PFn W P w mg base k o.a_test_text o.fd_test_text ["test"] Φ_test_text) (P_expression_text : PFn W P w mg base k o.a_expression_text o.fd_expression_text ["expression"] Φ_expression_text) (P__law_are_right : PFn W P w mg base k o.a__law_are_right o.fd__law_are_right ["_law_bag_here", "_law_names_here", "_law_term", "_law_test"] Φ__law_are_right) (P__law_deep_test : PFn W P w mg base k o.a__law_deep_test o.fd__law_deep_test ["_law_bag_here", "_law_names_here", "_law_most", "_law_deep"] Φ__law_deep_test) (P__law_take : PFn W P w mg base k o.a__law_take o.fd__law_take ["_law_bag_here", "_law_often"] Φ__law_take) (P__law_deep_term : PFn W P w mg base k o.a__law_deep_term o.fd__law_deep_term ["_law_bag_here", "_law_names_here", "_law_most", "_law_deep"] Φ__law_deep_term) (P__law_names : PFn W P w mg base k o.a__law_names o.fd__law_names ["_law_bag_here", "_law_often"] Φ__law_names) (P__law_bag : PFn W P w mg base k o.a__law_bag o.fd__law_bag ["_law_script", "_law_at"] Φ__law_bag) : PFn W P w mg base (k + 1) o.a_law o.fd_law ["_law_script"] (runD 11 (d_law Φ_test_text Φ_expression_text Φ__law_are_right Φ__law_deep_test Φ__law_take Φ__law_deep_term Φ__law_names Φ__law_bag)) := by
  refine PFn.mk' (N := ["_law_script", "_law_at", "_law_bag_here", "_law_names_here", "_law_met", "_law_turn", "_law_most", "_law_term", "_law_test", "_law_one", "_law_shown"]) (txt_of o.F_law) sc_law fun cdv A outer s H E cz => ?_
  exact dss_cons (ds_for cz (di_rg1 rfl o.n_range (de_max cz.calm rfl o.n_max de_int (de_min cz.calm rfl o.n_min de_int (de_len cz.K rfl o.n_len (de_var 0))))) (dg_name cz.nd) (dss_cons (ds_set cz.nd rfl (Or.inl rfl) (de_call cz P__law_bag (pt0__law_bag o) rfl o.g__law_bag o.F__law_bag.kp (da_cons (de_var 0) (da_cons (de_var 1) da_nil)) (hal := al_cons (al_cons al_nil))))
    (dss_cons (ds_par cz (da_cons (de_add cz.K (de_call cz P__law_names (pt0__law_names o) rfl o.g__law_names o.F__law_names.kp (da_cons (de_var 2) (da_cons de_int da_nil)) (hal := al_cons (al_cons al_nil))) (de_lst (da_cons de_str (da_cons de_str (da_cons de_str (da_cons de_str da_nil)))))) (da_cons (de_lay de_dict0) da_nil)))
    (dss_one (ds_for cz (di_rg1 rfl o.n_range de_int) (dg_name cz.nd) (dss_cons (ds_set cz.nd rfl (Or.inl rfl) (de_add cz.K de_int (de_call cz P__law_take (pt0__law_take o) rfl o.g__law_take o.F__law_take.kp (da_cons (de_var 2) (da_cons de_int da_nil)) (hal := al_cons (al_cons al_nil)))))
    (dss_cons (ds_set cz.nd rfl (Or.inl rfl) (de_call cz P__law_deep_term (pt0__law_deep_term o) rfl o.g__law_deep_term o.F__law_deep_term.kp (da_cons (de_var 2) (da_cons (de_var 3) (da_cons (de_var 6) (da_cons (de_add cz.K de_int (de_call cz P__law_take (pt0__law_take o) rfl o.g__law_take o.F__law_take.kp (da_cons (de_var 2) (da_cons de_int da_nil)) (hal := al_cons (al_cons al_nil)))) da_nil)))) (hal := al_cons (al_cons (al_cons (al_cons al_nil))))))
    (dss_cons (ds_set cz.nd rfl (Or.inl rfl) (de_call cz P__law_deep_test (pt0__law_deep_test o) rfl o.g__law_deep_test o.F__law_deep_test.kp (da_cons (de_var 2) (da_cons (de_var 3) (da_cons (de_max cz.calm rfl o.n_max de_int (de_var 6)) (da_cons (de_add cz.K de_int (de_call cz P__law_take (pt0__law_take o) rfl o.g__law_take o.F__law_take.kp (da_cons (de_var 2) (da_cons de_int da_nil)) (hal := al_cons (al_cons al_nil)))) da_nil)))) (hal := al_cons (al_cons (al_cons (al_cons al_nil))))))
    (dss_cons (ds_if (dt_not (dt_truth cz.K (de_call cz P__law_are_right (pt0__law_are_right o) rfl o.g__law_are_right o.F__law_are_right.kp (da_cons (de_var 2) (da_cons (de_var 3) (da_cons (de_var 7) (da_cons (de_var 8) da_nil)))) (hal := al_cons (al_cons (al_cons (al_cons al_nil))))) (fun _ => rfl))) (dss_one (ds_ret de_bl)) dss_nil)
    (dss_one (ds_for cz (di_val cz.K (de_lst (da_cons (de_tup (da_cons (de_var 7) (da_cons (de_call cz P_expression_text (pt0_expression_text o) rfl o.g_expression_text o.F_expression_text.kp (da_cons (de_var 7) da_nil) (hal := al_cons al_nil)) da_nil))) (da_cons (de_tup (da_cons (de_var 8) (da_cons (de_call cz P_test_text (pt0_test_text o) rfl o.g_test_text o.F_test_text.kp (da_cons (de_var 8) da_nil) (hal := al_cons al_nil)) da_nil))) da_nil)))) (dg_tup cz (dgs_cons (dg_name cz.nd) (dgs_cons (dg_name cz.nd) dgs_nil))) (dss_one (ds_if (dt_cmp (c_ne cz.K cz.rm) (de_setd (de_var 4) (de_var 10) (de_var 9)) (de_var 9) (nomark _)) (dss_one (ds_ret de_bl)) dss_nil)))))))))))))
    (dss_one (ds_ret de_bl))
def tsD : List He.Tab := [((fun K => He.ga K "SIGNS"), ["plus", "less", "times", "over", "rest"]), ((fun K => He.ga K "TEST_SIGNS"), ["is", "below", "both", "either"])]
def fnD : List He.DefD := [
  ⟨("expression_text", none), "expression_text", "expression_text", defArgs s_expression_text, defBody s_expression_text, defScope s_expression_text, [], []⟩,
  ⟨("test_text", none), "test_text", "test_text", defArgs s_test_text, defBody s_test_text, defScope s_test_text, [], []⟩,
  ⟨("made", none), "made", "made", defArgs s_made, defBody s_made, defScope s_made, [], []⟩,
  ⟨("worth", none), "worth", "worth", defArgs s_worth, defBody s_worth, defScope s_worth, [], [("asked", .int 0), ("told", .int 0)]⟩,
  ⟨("holds", none), "holds", "holds", defArgs s_holds, defBody s_holds, defScope s_holds, [], [("asked", .int 0), ("told", .int 0)]⟩,
  ⟨("_law_bag", none), "_law_bag", "_law_bag", defArgs s__law_bag, defBody s__law_bag, defScope s__law_bag, [], []⟩,
  ⟨("_law_take", none), "_law_take", "_law_take", defArgs s__law_take, defBody s__law_take, defScope s__law_take, [], []⟩,
  ⟨("_law_of", none), "_law_of", "_law_of", defArgs s__law_of, defBody s__law_of, defScope s__law_of, [], []⟩,
  ⟨("_law_names", none), "_law_names", "_law_names", defArgs s__law_names, defBody s__law_names, defScope s__law_names, [], []⟩,
  ⟨("_law_worth", none), "_law_worth", "_law_worth", defArgs s__law_worth, defBody s__law_worth, defScope s__law_worth, [], []⟩,
  ⟨("_law_holds", none), "_law_holds", "_law_holds", defArgs s__law_holds, defBody s__law_holds, defScope s__law_holds, [], []⟩,
  ⟨("_law_term_shown", none), "_law_term_shown", "_law_term_shown", defArgs s__law_term_shown, defBody s__law_term_shown, defScope s__law_term_shown, [], []⟩,
  ⟨("_law_test_shown", none), "_law_test_shown", "_law_test_shown", defArgs s__law_test_shown, defBody s__law_test_shown, defScope s__law_test_shown, [], []⟩,
  ⟨("_law_deep_term", none), "_law_deep_term", "_law_deep_term", defArgs s__law_deep_term, defBody s__law_deep_term, defScope s__law_deep_term, [], []⟩,
  ⟨("_law_deep_test", none), "_law_deep_test", "_law_deep_test", defArgs s__law_deep_test, defBody s__law_deep_test, defScope s__law_deep_test, [], []⟩,
  ⟨("_law_are_right", none), "_law_are_right", "_law_are_right", defArgs s__law_are_right, defBody s__law_are_right, defScope s__law_are_right, [], []⟩,
  ⟨("law", none), "law", "law", defArgs s_law, defBody s_law, defScope s_law, [], []⟩]
def faD : List He.Fa := [.glo "expression_text", .glo "test_text", .glo "made", .glo "worth", .glo "holds", .glo "_law_bag", .glo "_law_take", .glo "_law_of", .glo "_law_names", .glo "_law_worth", .glo "_law_holds", .glo "_law_term_shown", .glo "_law_test_shown", .glo "_law_deep_term", .glo "_law_deep_test", .glo "_law_are_right", .glo "law", .free "abs", .free "all", .free "any", .free "dict", .free "int", .free "len", .free "max", .free "min", .free "range", .free "repr", .free "sorted", .free "str", .glo "SIGNS", .glo "TEST_SIGNS"]
def exL : List (PySem.W.Frag → Bool) := [fun K => glB K "JOINTS" gv_JOINTS, fun K => gdcB K "SIGNS" gdv_SIGNS, fun K => gdcB K "TEST_SIGNS" gdv_TEST_SIGNS]
def exD (K : PySem.W.Frag) : Bool := exL.all fun f => f K
theorem wo_of {K : PySem.W.Frag} {h h2 : Heap} {w : World} {mg : Str → Option Value} (X : K.In h) (G : h.Ns mainGlobals mg) (c2 : He.SaysX faD fnD tsD [] exD w h2 K) : Nonempty (Wo ⟨K, fun _ => 0, clsOf K⟩ w mg) := by
  have c := c2.t.d
  obtain ⟨fd0, F0⟩ := c.def_ 0 (d := ⟨("expression_text", none), "expression_text", "expression_text", defArgs s_expression_text, defBody s_expression_text, defScope s_expression_text, [], []⟩) rfl
  obtain ⟨fd1, F1⟩ := c.def_ 1 (d := ⟨("test_text", none), "test_text", "test_text", defArgs s_test_text, defBody s_test_text, defScope s_test_text, [], []⟩) rfl
  obtain ⟨fd2, F2⟩ := c.def_ 2 (d := ⟨("made", none), "made", "made", defArgs s_made, defBody s_made, defScope s_made, [], []⟩) rfl
  obtain ⟨fd3, F3⟩ := c.def_ 3 (d := ⟨("worth", none), "worth", "worth", defArgs s_worth, defBody s_worth, defScope s_worth, [], [("asked", .int 0), ("told", .int 0)]⟩) rfl
  obtain ⟨fd4, F4⟩ := c.def_ 4 (d := ⟨("holds", none), "holds", "holds", defArgs s_holds, defBody s_holds, defScope s_holds, [], [("asked", .int 0), ("told", .int 0)]⟩) rfl
  obtain ⟨fd5, F5⟩ := c.def_ 5 (d := ⟨("_law_bag", none), "_law_bag", "_law_bag", defArgs s__law_bag, defBody s__law_bag, defScope s__law_bag, [], []⟩) rfl
  obtain ⟨fd6, F6⟩ := c.def_ 6 (d := ⟨("_law_take", none), "_law_take", "_law_take", defArgs s__law_take, defBody s__law_take, defScope s__law_take, [], []⟩) rfl
  obtain ⟨fd7, F7⟩ := c.def_ 7 (d := ⟨("_law_of", none), "_law_of", "_law_of", defArgs s__law_of, defBody s__law_of, defScope s__law_of, [], []⟩) rfl
  obtain ⟨fd8, F8⟩ := c.def_ 8 (d := ⟨("_law_names", none), "_law_names", "_law_names", defArgs s__law_names, defBody s__law_names, defScope s__law_names, [], []⟩) rfl
  obtain ⟨fd9, F9⟩ := c.def_ 9 (d := ⟨("_law_worth", none), "_law_worth", "_law_worth", defArgs s__law_worth, defBody s__law_worth, defScope s__law_worth, [], []⟩) rfl
  obtain ⟨fd10, F10⟩ := c.def_ 10 (d := ⟨("_law_holds", none), "_law_holds", "_law_holds", defArgs s__law_holds, defBody s__law_holds, defScope s__law_holds, [], []⟩) rfl
  obtain ⟨fd11, F11⟩ := c.def_ 11 (d := ⟨("_law_term_shown", none), "_law_term_shown", "_law_term_shown", defArgs s__law_term_shown, defBody s__law_term_shown, defScope s__law_term_shown, [], []⟩) rfl
  obtain ⟨fd12, F12⟩ := c.def_ 12 (d := ⟨("_law_test_shown", none), "_law_test_shown", "_law_test_shown", defArgs s__law_test_shown, defBody s__law_test_shown, defScope s__law_test_shown, [], []⟩) rfl
  obtain ⟨fd13, F13⟩ := c.def_ 13 (d := ⟨("_law_deep_term", none), "_law_deep_term", "_law_deep_term", defArgs s__law_deep_term, defBody s__law_deep_term, defScope s__law_deep_term, [], []⟩) rfl
  obtain ⟨fd14, F14⟩ := c.def_ 14 (d := ⟨("_law_deep_test", none), "_law_deep_test", "_law_deep_test", defArgs s__law_deep_test, defBody s__law_deep_test, defScope s__law_deep_test, [], []⟩) rfl
  obtain ⟨fd15, F15⟩ := c.def_ 15 (d := ⟨("_law_are_right", none), "_law_are_right", "_law_are_right", defArgs s__law_are_right, defBody s__law_are_right, defScope s__law_are_right, [], []⟩) rfl
  obtain ⟨fd16, F16⟩ := c.def_ 16 (d := ⟨("law", none), "law", "law", defArgs s_law, defBody s_law, defScope s_law, [], []⟩) rfl
  exact ⟨{
    a_expression_text := _, fd_expression_text := fd0, F_expression_text := F0, g_expression_text := He.glo_ok X G (c.fact 0 (f := .glo "expression_text") rfl)
    a_test_text := _, fd_test_text := fd1, F_test_text := F1, g_test_text := He.glo_ok X G (c.fact 1 (f := .glo "test_text") rfl)
    a_made := _, fd_made := fd2, F_made := F2, g_made := He.glo_ok X G (c.fact 2 (f := .glo "made") rfl)
    a_worth := _, fd_worth := fd3, F_worth := F3, g_worth := He.glo_ok X G (c.fact 3 (f := .glo "worth") rfl)
    a_holds := _, fd_holds := fd4, F_holds := F4, g_holds := He.glo_ok X G (c.fact 4 (f := .glo "holds") rfl)
    a__law_bag := _, fd__law_bag := fd5, F__law_bag := F5, g__law_bag := He.glo_ok X G (c.fact 5 (f := .glo "_law_bag") rfl)
    a__law_take := _, fd__law_take := fd6, F__law_take := F6, g__law_take := He.glo_ok X G (c.fact 6 (f := .glo "_law_take") rfl)
    a__law_of := _, fd__law_of := fd7, F__law_of := F7, g__law_of := He.glo_ok X G (c.fact 7 (f := .glo "_law_of") rfl)
    a__law_names := _, fd__law_names := fd8, F__law_names := F8, g__law_names := He.glo_ok X G (c.fact 8 (f := .glo "_law_names") rfl)
    a__law_worth := _, fd__law_worth := fd9, F__law_worth := F9, g__law_worth := He.glo_ok X G (c.fact 9 (f := .glo "_law_worth") rfl)
    a__law_holds := _, fd__law_holds := fd10, F__law_holds := F10, g__law_holds := He.glo_ok X G (c.fact 10 (f := .glo "_law_holds") rfl)
    a__law_term_shown := _, fd__law_term_shown := fd11, F__law_term_shown := F11, g__law_term_shown := He.glo_ok X G (c.fact 11 (f := .glo "_law_term_shown") rfl)
    a__law_test_shown := _, fd__law_test_shown := fd12, F__law_test_shown := F12, g__law_test_shown := He.glo_ok X G (c.fact 12 (f := .glo "_law_test_shown") rfl)
    a__law_deep_term := _, fd__law_deep_term := fd13, F__law_deep_term := F13, g__law_deep_term := He.glo_ok X G (c.fact 13 (f := .glo "_law_deep_term") rfl)
    a__law_deep_test := _, fd__law_deep_test := fd14, F__law_deep_test := F14, g__law_deep_test := He.glo_ok X G (c.fact 14 (f := .glo "_law_deep_test") rfl)
    a__law_are_right := _, fd__law_are_right := fd15, F__law_are_right := F15, g__law_are_right := He.glo_ok X G (c.fact 15 (f := .glo "_law_are_right") rfl)
    a_law := _, fd_law := fd16, F_law := F16, g_law := He.glo_ok X G (c.fact 16 (f := .glo "law") rfl)
    flds := ⟨fun i f h => match i, h with | _, h => nomatch h⟩
    n_abs := He.free_ok X G (c.fact 17 (f := .free "abs") rfl)
    n_all := He.free_ok X G (c.fact 18 (f := .free "all") rfl)
    n_any := He.free_ok X G (c.fact 19 (f := .free "any") rfl)
    n_dict := He.free_ok X G (c.fact 20 (f := .free "dict") rfl)
    n_int := He.free_ok X G (c.fact 21 (f := .free "int") rfl)
    n_len := He.free_ok X G (c.fact 22 (f := .free "len") rfl)
    n_max := He.free_ok X G (c.fact 23 (f := .free "max") rfl)
    n_min := He.free_ok X G (c.fact 24 (f := .free "min") rfl)
    n_range := He.free_ok X G (c.fact 25 (f := .free "range") rfl)
    n_repr := He.free_ok X G (c.fact 26 (f := .free "repr") rfl)
    n_sorted := He.free_ok X G (c.fact 27 (f := .free "sorted") rfl)
    n_str := He.free_ok X G (c.fact 28 (f := .free "str") rfl)
    c_JOINTS := glV_of X G (ex_at c2.more 0 (f := fun K => glB K "JOINTS" gv_JOINTS) rfl)
    gd_SIGNS := glDc_of (He.glo_ok X G (c.fact 29 (f := .glo "SIGNS") rfl)) (ex_at c2.more 1 (f := fun K => gdcB K "SIGNS" gdv_SIGNS) rfl) (c2.t.tab 0)
    gd_TEST_SIGNS := glDc_of (He.glo_ok X G (c.fact 30 (f := .glo "TEST_SIGNS") rfl)) (ex_at c2.more 2 (f := fun K => gdcB K "TEST_SIGNS" gdv_TEST_SIGNS) rfl) (c2.t.tab 1)
  }⟩
end PM

namespace PM
open PySem L2
def BagAt (vh : VH) (n b : Nat) : Prop := ∃ x y z : Int, vh[n]? = some (.lst [.int x, .int y, .int z]) ∧ 0 ≤ x ∧ 0 ≤ y ∧ y < 2 ^ 70 ∧ 0 ≤ z ∧ z + b ≤ 2 ^ 40
/-- the bag at n has b draws left, all else is as in vh0 -/
def BG (vh0 : VH) (vh : VH) (n b : Nat) : Prop := BagAt vh n b ∧ vh.length = vh0.length ∧ ∀ k, k ≠ n → vh[k]? = vh0[k]?
theorem BagAt.mono {vh : VH} {n b c : Nat} (h : BagAt vh n c) (hb : b ≤ c) : BagAt vh n b := by
  obtain ⟨x, y, z, a1, a2, a3, a4, a5, a6⟩ := h
  exact ⟨x, y, z, a1, a2, a3, a4, a5, by omega⟩
theorem BagAt.app {vh : VH} {n b : Nat} {l : VH} (h : BagAt vh n b) : BagAt (vh ++ l) n b := by
  obtain ⟨x, y, z, e, r⟩ := h
  exact ⟨x, y, z, by rw [List.getElem?_append_left (List.getElem?_eq_some_iff.mp e).1]; exact e, r⟩
theorem BagAt.set {vh : VH} {n b i : Nat} {o : O} (h : BagAt vh n b) (hi : i ≠ n) : BagAt (vh.set i o) n b := by
  obtain ⟨x, y, z, e, r⟩ := h
  exact ⟨x, y, z, by rw [List.getElem?_set_ne hi]; exact e, r⟩
theorem BagAt.lt {vh : VH} {n b : Nat} (h : BagAt vh n b) : n < vh.length := by
  obtain ⟨x, y, z, e, r⟩ := h
  exact (List.getElem?_eq_some_iff.mp e).1
theorem BG.mono {vh0 vh : VH} {n b c : Nat} (h : BG vh0 vh n c) (hb : b ≤ c) : BG vh0 vh n b := ⟨h.1.mono hb, h.2⟩
theorem BG.of {vh : VH} {n b : Nat} (h : BagAt vh n b) : BG vh vh n b := ⟨h, rfl, fun _ _ => rfl⟩
abbrev primesD : List D := [.int 2147483647, .int 2147483629, .int 2147483587, .int 2147483579, .int 2147483563, .int 2147483549, .int 2147483543]
theorem prime_at (z : Int) : ∃ p : Int, atI primesD (z % 7) = some (D.int p) ∧ 2147483543 ≤ p ∧ p ≤ 2147483647 := by
  have : z % 7 = 0 ∨ z % 7 = 1 ∨ z % 7 = 2 ∨ z % 7 = 3 ∨ z % 7 = 4 ∨ z % 7 = 5 ∨ z % 7 = 6 := by omega
  rcases this with h | h | h | h | h | h | h <;> rw [h] <;> exact ⟨_, rfl, by decide, by decide⟩
noncomputable def Dtake : Den := runD 7 d__law_take
theorem take_ok {n b : Nat} {vh0 vh : VH} {m : Int} (h : BG vh0 vh n (b + 1)) (h0 : 0 < m) (h1 : m < 2 ^ 60) : ∃ r vh', Dtake [.ref n, .int m] vh = .ok (.int r) vh' ∧ 0 ≤ r ∧ r < m ∧ BG vh0 vh' n b := by
  obtain ⟨⟨x, y, z, hv, x0, y0, y1, z0, z1⟩, hlen, hfr⟩ := h
  have hl : n < vh.length := (List.getElem?_eq_some_iff.mp hv).1
  have hd : divOk m = true := divOk_of (k := 60) h0 (by omega) (by omega)
  by_cases hx : 0 < x
  · refine ⟨x % m, vh.set n (.lst [.int (x / m), .int y, .int z]), ?_, Int.emod_nonneg _ (by omega), Int.emod_lt_of_pos _ h0, ⟨x / m, y, z, ?_, Int.ediv_nonneg x0 (by omega), y0, y1, z0, by omega⟩, by simpa using hlen, fun k hk => by rw [List.getElem?_set_ne (Ne.symm hk)]; exact hfr k hk⟩
    · simp [Dtake, d__law_take, slots, vw_ref hv, atI, ixN, hx, o_mod h0, o_div hd, dstore, hv, ostore]
    · simp [hl]
  · have ex : x = 0 := by omega
    subst ex
    obtain ⟨p, hp, p0, p1⟩ := prime_at (z + 1)
    obtain ⟨q, hq, q0, q1⟩ := prime_at (z + 1 + 2)
    obtain ⟨vh2, ev⟩ : ∃ v, List.set vh n (O.lst [D.int 0, D.int y, D.int (z + 1)]) = v := ⟨_, rfl⟩
    have hv2 : vh2[n]? = some (.lst [.int 0, .int y, .int (z + 1)]) := by rw [← ev]; simp [hl]
    have hb : 0 ≤ y * (3 * (z + 1) + 2) + 7433 * (z + 1) * (z + 1) + 53 ∧ y * (3 * (z + 1) + 2) + 7433 * (z + 1) * (z + 1) + 53 < 2 ^ 200 := by
      have a1 : y * (3 * (z + 1) + 2) ≤ 2 ^ 70 * 2 ^ 44 := Int.mul_le_mul (by omega) (by omega) (by omega) (by decide)
      have a2 : 7433 * (z + 1) * (z + 1) ≤ 2 ^ 60 * 2 ^ 43 := Int.mul_le_mul (by omega) (by omega) (by omega) (by decide)
      have a3 : 0 ≤ y * (3 * (z + 1) + 2) := Int.mul_nonneg y0 (by omega)
      have a4 : 0 ≤ 7433 * (z + 1) * (z + 1) := Int.mul_nonneg (by omega) (by omega)
      omega
    obtain ⟨hb0, hb1⟩ := hb
    generalize hB : y * (3 * (z + 1) + 2) + 7433 * (z + 1) * (z + 1) + 53 = B at hb0 hb1
    have pw : powOk B 3 = true := powOk_of (k := 200) (by omega) (by omega) (by omega) (by omega)
    have m0 := Int.emod_nonneg (B ^ 3) (show p ≠ 0 by omega)
    have m1 := Int.emod_lt_of_pos (B ^ 3) (show 0 < p by omega)
    refine ⟨B ^ 3 % p * (B ^ 3 % p / 4099 + 17) % q / 16 % m, vh2, ?_, Int.emod_nonneg _ (by omega), Int.emod_lt_of_pos _ h0, ⟨0, y, z + 1, hv2, by omega, y0, y1, by omega, by omega⟩, by rw [← ev]; simpa using hlen, fun k hk => by rw [← ev, List.getElem?_set_ne (Ne.symm hk)]; exact hfr k hk⟩
    have k1 : mulOk y (3 * (z + 1) + 2) = true := mulOk_r (by omega)
    have k2 : mulOk 3 (z + 1) = true := mulOk_l (by decide)
    have k3 : mulOk 7433 (z + 1) = true := mulOk_l (by decide)
    have k4 : mulOk (7433 * (z + 1)) (z + 1) = true := mulOk_r (by omega)
    have k6 : mulOk (B ^ 3 % p) (B ^ 3 % p / 4099 + 17) = true := mulOk_l (by omega)
    have l7 : (7 : Nat) ≤ lim := le_lim (by decide)
    have e2 : view vh2 (.ref n) = .lst [.int 0, .int y, .int (z + 1)] := vw_ref hv2
    have a0 : ∀ a b c : D, atI [a, b, c] 0 = some a := fun _ _ _ => rfl
    have a1 : ∀ a b c : D, atI [a, b, c] 1 = some b := fun _ _ _ => rfl
    have a2 : ∀ a b c : D, atI [a, b, c] 2 = some c := fun _ _ _ => rfl
    have i2 : ixN 3 2 = some 2 := rfl
    have o7 : ∀ i : Int, opMod (.int i) (.int 7) = some (.v (.int (i % 7))) := fun i => o_mod (by decide)
    have o8 : ∀ i : Int, opDiv (.int i) (.int 16) = some (.v (.int (i / 16))) := fun i => o_div (divOk_of (k := 20) (by decide) (by decide) (by decide))
    have o9 : ∀ i : Int, opDiv (.int i) (.int 4099) = some (.v (.int (i / 4099))) := fun i => o_div (divOk_of (k := 20) (by decide) (by decide) (by decide))
    have op : ∀ i : Int, opMod (.int i) (.int p) = some (.v (.int (i % p))) := fun i => o_mod (by omega)
    have oq : ∀ i : Int, opMod (.int i) (.int q) = some (.v (.int (i % q))) := fun i => o_mod (by omega)
    simp [Dtake, d__law_take, slots, vw_ref hv, a0, a1, a2, i2, dstore, hv, ostore, pTup, l7, e2, ev, o_mul k1, o_mul k2, o_mul k3, o_mul k4, o_mul k6, hB, o_pow pw, hp, hq, o7, o8, o9, op, oq, o_mod h0]

end PM

namespace PM
open PySem L2
inductive Tm where
  | num (i : Int) | box (s : Str) | asked | told | op (k : Nat) (a b : Tm)
def opN : Nat → String
  | 0 => "plus" | 1 => "less" | 2 => "times" | 3 => "over" | _ => "rest"
def opV (k : Nat) (i j : Int) : Int := match k with
  | 0 => i + j | 1 => if j < i then i - j else 0 | 2 => i * j | 3 => if j = 0 then 0 else i / j | _ => if j = 0 then 0 else i % j
def Tm.enc : Tm → D
  | .num i => .tup [.str "number", .int i]
  | .box s => .tup [.str "box", .str s]
  | .asked => .tup [.str "asked"]
  | .told => .tup [.str "told"]
  | .op k a b => .tup [.str (opN k), a.enc, b.enc]
def bx (cr : List (D × D)) (s : Str) : Int := match dget cr (.inr s) with | some (.int v) => v | _ => 0
def Tm.val (cr : List (D × D)) (x y : Int) : Tm → Int
  | .num i => i
  | .box s => bx cr s
  | .asked => x
  | .told => y
  | .op k a b => opV k (a.val cr x y) (b.val cr x y)
def Tm.ok (cr : List (D × D)) : Tm → Prop
  | .num i => 0 ≤ i ∧ i < 1000
  | .box s => ∃ v : Int, dget cr (.inr s) = some (.int v) ∧ 0 ≤ v ∧ v < 1000
  | .asked => True
  | .told => True
  | .op k a b => k < 5 ∧ a.ok cr ∧ b.ok cr
def Tm.lv : Tm → Nat
  | .op _ a b => a.lv + b.lv
  | _ => 1
def Tm.dp : Tm → Nat
  | .op _ a b => max a.dp b.dp + 1
  | _ => 1
theorem opV_bd {k : Nat} {i j : Int} {m n : Nat} (i0 : 0 ≤ i) (j0 : 0 ≤ j) (im : i < 2 ^ m) (jn : j < 2 ^ n) (hm : 1 ≤ m) (hn : 1 ≤ n) : 0 ≤ opV k i j ∧ opV k i j < 2 ^ (m + n) := by
  have e : (2 : Int) ^ (m + n) = 2 ^ m * 2 ^ n := Int.pow_add 2 m n
  have pm : (2 : Int) ≤ 2 ^ m := by
    have : 2 ^ 1 ≤ 2 ^ m := Nat.pow_le_pow_right (by omega) hm
    exact_mod_cast this
  have pn : (2 : Int) ≤ 2 ^ n := by
    have : 2 ^ 1 ≤ 2 ^ n := Nat.pow_le_pow_right (by omega) hn
    exact_mod_cast this
  have p1 : (2 : Int) ^ m * 2 ≤ 2 ^ m * 2 ^ n := Int.mul_le_mul_of_nonneg_left pn (by omega)
  have p2 : (2 : Int) * 2 ^ n ≤ 2 ^ m * 2 ^ n := Int.mul_le_mul_of_nonneg_right pm (by omega)
  rw [e]
  unfold opV
  split
  · omega
  · split <;> omega
  · refine ⟨Int.mul_nonneg i0 j0, ?_⟩
    have a := Int.mul_le_mul (show i ≤ 2 ^ m - 1 by omega) (show j ≤ 2 ^ n by omega) j0 (by omega)
    have : (2 ^ m - 1) * (2 : Int) ^ n = 2 ^ m * 2 ^ n - 2 ^ n := by rw [Int.sub_mul, Int.one_mul]
    omega
  · split
    · omega
    · have a := Int.ediv_le_self j i0
      have b := Int.ediv_nonneg i0 j0
      omega
  · split
    · omega
    · have a := Int.emod_nonneg i (show j ≠ 0 by assumption)
      have b := Int.emod_lt_of_pos i (show 0 < j by omega)
      omega
theorem Tm.lv_pos : ∀ t : Tm, 1 ≤ t.lv
  | .op _ a b => by have := a.lv_pos; simp only [Tm.lv]; omega
  | .num _ => Nat.le_refl _
  | .box _ => Nat.le_refl _
  | .asked => Nat.le_refl _
  | .told => Nat.le_refl _
theorem Tm.bd {cr : List (D × D)} {x y : Int} (x0 : 0 ≤ x) (x1 : x < 1000) (y0 : 0 ≤ y) (y1 : y < 1000) : ∀ t : Tm, t.ok cr → 0 ≤ t.val cr x y ∧ t.val cr x y < 2 ^ (10 * t.lv)
  | .num i, h => by simp only [Tm.ok] at h; simp only [Tm.val, Tm.lv]; omega
  | .box s, h => by
    simp only [Tm.ok] at h
    obtain ⟨v, e, v0, v1⟩ := h
    simp only [Tm.val, Tm.lv, bx, e]
    omega
  | .asked, _ => by simp only [Tm.val, Tm.lv]; omega
  | .told, _ => by simp only [Tm.val, Tm.lv]; omega
  | .op k a b, h => by
    simp only [Tm.ok] at h
    obtain ⟨a0, a1⟩ := Tm.bd x0 x1 y0 y1 a h.2.1
    obtain ⟨b0, b1⟩ := Tm.bd x0 x1 y0 y1 b h.2.2
    have := a.lv_pos
    have := b.lv_pos
    simp only [Tm.val, Tm.lv, Nat.mul_add]
    exact opV_bd a0 b0 a1 b1 (by omega) (by omega)
noncomputable def Dmade : Den := runD 3 d_made
noncomputable def Dworth : Nat → Den
  | 0 => fun _ _ => .bad
  | n + 1 => runD 6 (d_worth Dmade (Dworth n))
noncomputable def Dlworth : Nat → Den
  | 0 => fun _ _ => .bad
  | n + 1 => runD 7 (d__law_worth (Dlworth n))
theorem nat_of_int {i : Int} {m : Nat} (h0 : 0 ≤ i) (h : i < 2 ^ m) : i.natAbs < 2 ^ m := by
  have : ((i.natAbs : Nat) : Int) < ((2 ^ m : Nat) : Int) := by
    rw [Int.natAbs_of_nonneg h0]
    exact_mod_cast h
  exact_mod_cast this
theorem made_ok {k : Nat} {i j : Int} {m n : Nat} {vh : VH} (hk : k < 5) (i0 : 0 ≤ i) (j0 : 0 ≤ j) (im : i < 2 ^ m) (jn : j < 2 ^ n) (hm : m ≤ 1000) (hn : n ≤ 1000) : Dmade [.str (opN k), .int i, .int j] vh = .ok (.int (opV k i j)) vh := by
  have hi := nat_of_int i0 im
  have hj := nat_of_int j0 jn
  have k1 : mulOk i j = true := mulOk_of hi hj (by omega) (by omega)
  have : k = 0 ∨ k = 1 ∨ k = 2 ∨ k = 3 ∨ k = 4 := by omega
  rcases this with h | h | h | h | h <;> subst h
  · simp [Dmade, d_made, slots, opN, opV]
  · simp [Dmade, d_made, slots, opN, opV]
  · simp [Dmade, d_made, slots, opN, opV, o_mul k1]
  · by_cases e : j = 0
    · simp [Dmade, d_made, slots, opN, opV, e]
    · have k2 : divOk j = true := divOk_of (by omega) hj (by omega)
      simp [Dmade, d_made, slots, opN, opV, e, o_div k2]
  · by_cases e : j = 0
    · simp [Dmade, d_made, slots, opN, opV, e]
    · simp [Dmade, d_made, slots, opN, opV, e, o_mod (show 0 < j by omega)]

theorem opN_ne (k : Nat) : opN k ≠ "number" ∧ opN k ≠ "box" ∧ "asked" ≠ opN k ∧ "told" ≠ opN k := by
  unfold opN
  split <;> simp
theorem two_le_lim : 2 ≤ lim := le_lim (by decide)
theorem worth_ok {cr : List (D × D)} {x y : Int} (x0 : 0 ≤ x) (x1 : x < 1000) (y0 : 0 ≤ y) (y1 : y < 1000) {vh : VH} : ∀ (n : Nat) (t : Tm), t.dp ≤ n → t.lv ≤ 50 → t.ok cr → Dworth n [t.enc, .dct cr, .int x, .int y] vh = .ok (.int (t.val cr x y)) vh := by
  intro n
  induction n with
  | zero => intro t h; cases t <;> simp [Tm.dp] at h
  | succ n ih =>
    intro t hd hl ho
    cases t with
    | num i => simp [Dworth, d_worth, slots, Tm.enc, Tm.val]
    | box s =>
      simp only [Tm.ok] at ho
      obtain ⟨v, e, _⟩ := ho
      simp [Dworth, d_worth, slots, Tm.enc, Tm.val, pIx, keyD, e, bx]
    | asked => simp [Dworth, d_worth, slots, Tm.enc, Tm.val, pTup, two_le_lim]
    | told => simp [Dworth, d_worth, slots, Tm.enc, Tm.val, pTup, two_le_lim]
    | op k a b =>
      simp only [Tm.ok] at ho
      simp only [Tm.dp] at hd
      simp only [Tm.lv] at hl
      obtain ⟨n1, n2, n3, n4⟩ := opN_ne k
      obtain ⟨a0, a1⟩ := Tm.bd x0 x1 y0 y1 a ho.2.1
      obtain ⟨b0, b1⟩ := Tm.bd x0 x1 y0 y1 b ho.2.2
      have ea := ih a (by omega) (by have := b.lv_pos; omega) ho.2.1
      have eb := ih b (by omega) (by have := a.lv_pos; omega) ho.2.2
      have em : Dmade [.str (opN k), .int (a.val cr x y), .int (b.val cr x y)] vh = _ := made_ok ho.1 a0 b0 a1 b1 (by omega) (by omega)
      simp [Dworth, d_worth, slots, Tm.enc, Tm.val, pTup, two_le_lim, n1, n2, n3, n4, arrOf, pickAt, ea, eb, em]
theorem lworth_ok {cr : List (D × D)} {x y : Int} (x0 : 0 ≤ x) (x1 : x < 1000) (y0 : 0 ≤ y) (y1 : y < 1000) {vh : VH} : ∀ (n : Nat) (t : Tm), t.dp ≤ n → t.lv ≤ 50 → t.ok cr → Dlworth n [t.enc, .dct cr, .int x, .int y] vh = .ok (.int (t.val cr x y)) vh := by
  intro n
  induction n with
  | zero => intro t h; cases t <;> simp [Tm.dp] at h
  | succ n ih =>
    intro t hd hl ho
    cases t with
    | num i => simp [Dlworth, d__law_worth, slots, Tm.enc, Tm.val, pTup, two_le_lim]
    | box s =>
      simp only [Tm.ok] at ho
      obtain ⟨v, e, _⟩ := ho
      simp [Dlworth, d__law_worth, slots, Tm.enc, Tm.val, pIx, keyD, e, bx, pTup, two_le_lim]
    | asked => simp [Dlworth, d__law_worth, slots, Tm.enc, Tm.val, pTup, two_le_lim]
    | told => simp [Dlworth, d__law_worth, slots, Tm.enc, Tm.val, pTup, two_le_lim]
    | op k a b =>
      simp only [Tm.ok] at ho
      simp only [Tm.dp] at hd
      simp only [Tm.lv] at hl
      obtain ⟨hk, oa, ob⟩ := ho
      obtain ⟨a0, a1⟩ := Tm.bd x0 x1 y0 y1 a oa
      obtain ⟨b0, b1⟩ := Tm.bd x0 x1 y0 y1 b ob
      have ea := ih a (by omega) (by have := b.lv_pos; omega) oa
      have eb := ih b (by omega) (by have := a.lv_pos; omega) ob
      have ha := nat_of_int a0 a1
      have hb := nat_of_int b0 b1
      have k1 : mulOk (a.val cr x y) (b.val cr x y) = true := mulOk_of ha hb (by omega) (by omega)
      have l3 : (3 : Nat) ≤ lim := le_lim (by decide)
      simp only [Tm.enc, Tm.val]
      generalize a.val cr x y = i at *
      generalize b.val cr x y = j at *
      have : k = 0 ∨ k = 1 ∨ k = 2 ∨ k = 3 ∨ k = 4 := by omega
      rcases this with h | h | h | h | h <;> subst h
      · simp [Dlworth, d__law_worth, slots, pTup, two_le_lim, ea, eb, opN, opV, pLst, l3, o_mul k1, mIndex, scV, scVs, tyVH, tyD, List.findIdx?_cons]
      · simp [Dlworth, d__law_worth, slots, pTup, two_le_lim, ea, eb, opN, opV, pLst, l3, o_mul k1, mIndex, scV, scVs, tyVH, tyD, List.findIdx?_cons]
        split <;> omega
      · simp [Dlworth, d__law_worth, slots, pTup, two_le_lim, ea, eb, opN, opV, pLst, l3, o_mul k1, mIndex, scV, scVs, tyVH, tyD, List.findIdx?_cons]
      · by_cases e : j = 0
        · simp [Dlworth, d__law_worth, slots, pTup, two_le_lim, ea, eb, opN, opV, e]
        · have k2 : divOk j = true := divOk_of (by omega) hb (by omega)
          simp [Dlworth, d__law_worth, slots, pTup, two_le_lim, ea, eb, opN, opV, e, o_div k2]
      · by_cases e : j = 0
        · simp [Dlworth, d__law_worth, slots, pTup, two_le_lim, ea, eb, opN, opV, e]
        · have k2 : divOk j = true := divOk_of (by omega) hb (by omega)
          have k3 : mulOk (i / j) j = true := mulOk_of (k := 500) (Nat.lt_of_le_of_lt (Int.natAbs_ediv_le_natAbs i j) (pow2_lt ha (by omega))) hb (by omega) (by omega)
          simp [Dlworth, d__law_worth, slots, pTup, two_le_lim, ea, eb, opN, opV, e, o_div k2, o_mul k3]
          rw [Int.emod_def]
          rw [Int.mul_comm]

def Tm.wf (nm : List Str) : Tm → Prop
  | .num i => 0 ≤ i ∧ i < 1000
  | .box s => s ∈ nm
  | .asked => True
  | .told => True
  | .op k a b => k < 5 ∧ a.wf nm ∧ b.wf nm
theorem word_at {j : Int} (j0 : 0 ≤ j) (j1 : j < 5) : ∃ k, k < 5 ∧ atI [D.str "plus", .str "less", .str "times", .str "over", .str "rest"] j = some (.str (opN k)) := by
  have : j = 0 ∨ j = 1 ∨ j = 2 ∨ j = 3 ∨ j = 4 := by omega
  rcases this with h | h | h | h | h <;> subst h
  · exact ⟨0, by omega, by simp [opN]⟩
  · exact ⟨1, by omega, by simp [opN]⟩
  · exact ⟨2, by omega, by simp [opN]⟩
  · exact ⟨3, by omega, by simp [opN]⟩
  · exact ⟨4, by omega, by simp [opN]⟩
theorem wf_ok {cr : List (D × D)} {nm : List Str} (h : ∀ s ∈ nm, ∃ v : Int, dget cr (.inr s) = some (.int v) ∧ 0 ≤ v ∧ v < 1000) : ∀ t : Tm, t.wf nm → t.ok cr
  | .num _, w => w
  | .box s, w => h s w
  | .asked, _ => trivial
  | .told, _ => trivial
  | .op k a b, w => ⟨w.1, wf_ok h a w.2.1, wf_ok h b w.2.2⟩

inductive Te where
  | no (a : Te) | jo (k : Nat) (a b : Te) | cm (k : Nat) (a b : Tm)
def joN (k : Nat) : String := if k = 0 then "both" else "either"
def cmN (k : Nat) : String := if k = 0 then "is" else "below"
def Te.enc : Te → D
  | .no a => .tup [.str "not", a.enc]
  | .jo k a b => .tup [.str (joN k), a.enc, b.enc]
  | .cm k a b => .tup [.str (cmN k), a.enc, b.enc]
def Te.val (cr : List (D × D)) (x y : Int) : Te → Bool
  | .no a => !a.val cr x y
  | .jo k a b => if k = 0 then (a.val cr x y && b.val cr x y) else (a.val cr x y || b.val cr x y)
  | .cm k a b => if k = 0 then decide (a.val cr x y = b.val cr x y) else decide (a.val cr x y < b.val cr x y)
def Te.wf (nm : List Str) : Te → Prop
  | .no a => a.wf nm
  | .jo _ a b => a.wf nm ∧ b.wf nm
  | .cm _ a b => a.wf nm ∧ b.wf nm
def Te.ok (cr : List (D × D)) : Te → Prop
  | .no a => a.ok cr
  | .jo _ a b => a.ok cr ∧ b.ok cr
  | .cm _ a b => a.ok cr ∧ b.ok cr
/-- its depth, terms within bounds -/
def Te.dp : Te → Nat
  | .no a => a.dp + 1
  | .jo _ a b => max a.dp b.dp + 1
  | .cm _ _ _ => 1
def Te.fit : Te → Prop
  | .no a => a.fit
  | .jo _ a b => a.fit ∧ b.fit
  | .cm _ a b => (a.dp ≤ 9 ∧ a.lv ≤ 50) ∧ (b.dp ≤ 9 ∧ b.lv ≤ 50)
theorem Te.wf_ok {cr : List (D × D)} {nm : List Str} (h : ∀ s ∈ nm, ∃ v : Int, dget cr (.inr s) = some (.int v) ∧ 0 ≤ v ∧ v < 1000) : ∀ t : Te, t.wf nm → t.ok cr
  | .no a, w => Te.wf_ok h a w
  | .jo _ a b, w => ⟨Te.wf_ok h a w.1, Te.wf_ok h b w.2⟩
  | .cm _ a b, w => ⟨PM.wf_ok h a w.1, PM.wf_ok h b w.2⟩
noncomputable def Dholds : Nat → Den
  | 0 => fun _ _ => .bad
  | n + 1 => runD 11 (d_holds (Dworth 9) (Dholds n))
noncomputable def Dlholds : Nat → Den
  | 0 => fun _ _ => .bad
  | n + 1 => runD 8 (d__law_holds (Dlworth 9) (Dlholds n))
theorem joN_ne (k : Nat) : joN k ≠ "not" ∧ (("both" = joN k ∨ "either" = joN k)) ∧ ((joN k = "both") ↔ k = 0) := by
  unfold joN
  split <;> simp [*]
theorem cmN_ne (k : Nat) : cmN k ≠ "not" ∧ ¬ ("both" = cmN k) ∧ ¬ ("either" = cmN k) ∧ ((cmN k = "is") ↔ k = 0) := by
  unfold cmN
  split <;> simp [*]
theorem holds_ok {cr : List (D × D)} {x y : Int} (x0 : 0 ≤ x) (x1 : x < 1000) (y0 : 0 ≤ y) (y1 : y < 1000) {vh : VH} : ∀ (n : Nat) (t : Te), t.dp ≤ n → t.fit → t.ok cr → Dholds n [t.enc, .dct cr, .int x, .int y] vh = .ok (.bl (t.val cr x y)) vh := by
  intro n
  induction n with
  | zero => intro t h; cases t <;> simp [Te.dp] at h
  | succ n ih =>
    intro t hd hf ho
    cases t with
    | no a =>
      simp only [Te.dp] at hd
      have ea := ih a (by omega) hf ho
      rw [Dholds]
      simp [d_holds, slots, Te.enc, Te.val, gStr, restL, lastL, arrOf, pickAt, ea, truD]
    | jo k a b =>
      simp only [Te.dp] at hd
      have ea := ih a (by omega) hf.1 ho.1
      have eb := ih b (by omega) hf.2 ho.2
      obtain ⟨n1, n2, n3⟩ := joN_ne k
      rw [Dholds]
      by_cases hk : k = 0
      · subst hk
        have n4 : joN 0 = "both" := rfl
        simp [d_holds, slots, Te.enc, Te.val, gStr, restL, lastL, arrOf, pickAt, ea, eb, n4, pLst, wipeS, lc0, lc1, d_holds_E2, gv_JOINTS, bAll, blsOf]
      · have n4 : joN k = "either" := by unfold joN; rw [if_neg hk]
        simp [d_holds, slots, Te.enc, Te.val, gStr, restL, lastL, arrOf, pickAt, ea, eb, n4, pLst, wipeS, lc0, lc1, d_holds_E2, gv_JOINTS, hk, bAny, blsOf]
    | cm k a b =>
      obtain ⟨⟨f1, f2⟩, f3, f4⟩ := hf
      have ea := worth_ok x0 x1 y0 y1 (vh := vh) 9 a f1 f2 ho.1
      have eb := worth_ok x0 x1 y0 y1 (vh := vh) 9 b f3 f4 ho.2
      rw [Dholds]
      by_cases hk : k = 0
      · subst hk
        have n4 : cmN 0 = "is" := rfl
        simp [d_holds, slots, Te.enc, Te.val, gStr, restL, lastL, arrOf, pickAt, ea, eb, n4, pLst, wipeS, lc0, lc1, d_holds_E1, gv_JOINTS, gUnp]
      · have n4 : cmN k = "below" := by unfold cmN; rw [if_neg hk]
        simp [d_holds, slots, Te.enc, Te.val, gStr, restL, lastL, arrOf, pickAt, ea, eb, n4, pLst, wipeS, lc0, lc1, d_holds_E1, gv_JOINTS, hk, gUnp]
end PM

namespace PM
open PySem L2
theorem lholds_ok {cr : List (D × D)} {x y : Int} (x0 : 0 ≤ x) (x1 : x < 1000) (y0 : 0 ≤ y) (y1 : y < 1000) {vh : VH} : ∀ (n : Nat) (t : Te), t.dp ≤ n → t.fit → t.ok cr → Dlholds n [t.enc, .dct cr, .int x, .int y] vh = .ok (.bl (t.val cr x y)) vh := by
  intro n
  induction n with
  | zero => intro t h; cases t <;> simp [Te.dp] at h
  | succ n ih =>
    intro t hd hf ho
    cases t with
    | no a =>
      simp only [Te.dp] at hd
      have ea := ih a (by omega) hf ho
      rw [Dlholds]
      simp [d__law_holds, slots, Te.enc, Te.val, ea, truD]
    | jo k a b =>
      simp only [Te.dp] at hd
      have ea := ih a (by omega) hf.1 ho.1
      have eb := ih b (by omega) hf.2 ho.2
      rw [Dlholds]
      by_cases hk : k = 0
      · subst hk
        have n4 : joN 0 = "both" := rfl
        simp [d__law_holds, slots, Te.enc, Te.val, ea, eb, n4, pLst, pTup, wipeS, lc0, lc1, d__law_holds_E2, truD, pCut, cutL, HT.sIx, mCount, scV, scVs, tyVH, tyD, eqV, List.countP_cons]
        cases a.val cr x y <;> cases b.val cr x y <;> decide
      · have n4 : joN k = "either" := by unfold joN; rw [if_neg hk]
        simp [d__law_holds, slots, Te.enc, Te.val, ea, eb, n4, pLst, pTup, wipeS, lc0, lc1, d__law_holds_E2, hk, truD, pCut, cutL, HT.sIx, mCount, scV, scVs, tyVH, tyD, eqV, List.countP_cons]
        cases a.val cr x y <;> cases b.val cr x y <;> decide
    | cm k a b =>
      obtain ⟨⟨f1, f2⟩, f3, f4⟩ := hf
      have ea := lworth_ok x0 x1 y0 y1 (vh := vh) 9 a f1 f2 ho.1
      have eb := lworth_ok x0 x1 y0 y1 (vh := vh) 9 b f3 f4 ho.2
      rw [Dlholds]
      by_cases hk : k = 0
      · subst hk
        have n4 : cmN 0 = "is" := rfl
        simp [d__law_holds, slots, Te.enc, Te.val, ea, eb, n4, pLst, pTup, wipeS, lc0, lc1, d__law_holds_E1, gUnp, pCut, cutL, HT.sIx]
      · have n4 : cmN k = "below" := by unfold cmN; rw [if_neg hk]
        simp [d__law_holds, slots, Te.enc, Te.val, ea, eb, n4, pLst, pTup, wipeS, lc0, lc1, d__law_holds_E1, hk, gUnp, pCut, cutL, HT.sIx]
end PM

namespace PM
open PySem L2
def mkS (l : List Nat) : Str := ⟨l.toArray⟩
theorem mkS_app (a b : List Nat) : mkS a ++ mkS b = mkS (a ++ b) := by
  show Str.mk (a.toArray ++ b.toArray) = Str.mk (a ++ b).toArray
  simp
theorem mkS_len (l : List Nat) : (mkS l).length = l.length := by
  show l.toArray.size = l.length
  simp
theorem mkS_inj {a b : List Nat} (h : mkS a = mkS b) : a = b := by
  have := congrArg (fun s : Str => s.cps.toList) h
  simpa [mkS] using this
theorem of_mkS (x : Str) : x = mkS x.cps.toList := by
  cases x; simp [mkS]
theorem mkS_nil : Str.empty = mkS [] := rfl
def sgL : Nat → List Nat
  | 0 => [43] | 1 => [45] | 2 => [42] | 3 => [47, 47] | _ => [114, 101, 115, 116]
def Tm.tx : Tm → List Nat
  | .num i => (Str.ofString (toString i)).cps.toList
  | .box s => s.cps.toList
  | .asked => [97, 115, 107, 101, 100]
  | .told => [116, 111, 108, 100]
  | .op k a b => 40 :: (a.tx ++ (32 :: (sgL k ++ (32 :: (b.tx ++ [41])))))
/-- its names are short -/
def Tm.shrt : Tm → Prop
  | .num i => 0 ≤ i ∧ i < 1000
  | .box s => s.cps.toList.length ≤ 16
  | .asked => True
  | .told => True
  | .op k a b => k < 5 ∧ a.shrt ∧ b.shrt
theorem sgL_len (k : Nat) : (sgL k).length ≤ 4 := by unfold sgL; split <;> decide
theorem s_lp : Str.ofString "(" = mkS [40] := by decide
theorem s_rp : Str.ofString ")" = mkS [41] := by decide
theorem s_sp : Str.ofString " " = mkS [32] := by decide
theorem s_not : Str.ofString "(not " = mkS [40, 110, 111, 116, 32] := by decide
theorem s_as : Str.ofString "asked" = mkS [97, 115, 107, 101, 100] := by decide
theorem s_to : Str.ofString "told" = mkS [116, 111, 108, 100] := by decide
theorem num_len {i : Int} (h0 : 0 ≤ i) (h1 : i < 1000) : (Str.ofString (toString i)).cps.toList.length ≤ 3 := by
  have h : ∀ n : Fin 1000, (Str.ofString (toString ((n.val : Nat) : Int))).cps.toList.length ≤ 3 := by decide +kernel
  have := h ⟨i.toNat, by omega⟩
  simpa [Int.toNat_of_nonneg h0] using this
theorem Tm.tx_len : ∀ t : Tm, t.shrt → t.tx.length ≤ 32 * t.lv - 8
  | .num i, h => by have := num_len h.1 h.2; simp only [Tm.tx, Tm.lv]; omega
  | .box s, h => by simp only [Tm.shrt] at h; simp only [Tm.tx, Tm.lv]; omega
  | .asked, _ => by decide
  | .told, _ => by decide
  | .op k a b, h => by
    have h1 := Tm.tx_len a h.2.1
    have h2 := Tm.tx_len b h.2.2
    have h3 := sgL_len k
    have := a.lv_pos
    have := b.lv_pos
    simp only [Tm.tx, Tm.lv, List.length_cons, List.length_append, List.length_nil]
    omega
end PM

namespace PM
open PySem L2
noncomputable def Dtxt : Nat → Den
  | 0 => fun _ _ => .bad
  | n + 1 => runD 6 (d_expression_text (Dtxt n))
noncomputable def Dshw : Nat → Den
  | 0 => fun _ _ => .bad
  | n + 1 => runD 3 (d__law_term_shown (Dshw n))
theorem len_ok {x : List Nat} (h : x.length ≤ 16000000) : (mkS x).length ≤ lim := by rw [mkS_len]; exact le_lim h
theorem join7 {a b c : List Nat} {φ ψ χ : EF} {sl : Sl} {vh : VH} (h : a.length + b.length + c.length ≤ 10000000) (e1 : φ sl vh = .ok (.v (.str (mkS a))) vh) (e2 : ψ sl vh = .ok (.v (.str (mkS c))) vh) (e3 : χ sl vh = .ok (.v (.str (mkS b))) vh) :
    eJoin Str.empty [eCon (.str "("), φ, eCon (.str " "), ψ, eCon (.str " "), χ, eCon (.str ")")] sl vh = .ok (.v (.str (mkS (40 :: (a ++ (32 :: (c ++ (32 :: (b ++ [41]))))))))) vh := by
  have L : ∀ x : List Nat, x.length ≤ 16000000 → (mkS x).length ≤ lim := fun x h => len_ok h
  simp only [eJoin, x_eb, x_con, x_v, s_lp, s_rp, s_sp, mkS_nil, mkS_app, e1, e2, e3]
  rw [if_pos (L _ (by simp)), if_pos (L _ (by simp; omega)), if_pos (L _ (by simp; omega)), if_pos (L _ (by simp; omega)), if_pos (L _ (by simp; omega)), if_pos (L _ (by simp; omega)), if_pos (L _ (by simp; omega))]
  simp
theorem sign_at {k : Nat} (hk : k < 5) : dget gdv_SIGNS (.inr (Str.ofString (opN k))) = some (.str (mkS (sgL k))) := by
  have : k = 0 ∨ k = 1 ∨ k = 2 ∨ k = 3 ∨ k = 4 := by omega
  rcases this with h | h | h | h | h <;> subst h <;> rfl
theorem fmt_ok {a : List Nat} (h : a.length ≤ 10000000) : pFmt (.str (mkS a)) = some (.v (.str (mkS a))) := by
  simp only [pFmt]
  rw [if_pos (len_ok (by omega))]
theorem opN_nin (k : Nat) : "asked" ≠ opN k ∧ "told" ≠ opN k := by
  unfold opN
  split <;> simp
theorem txt_ok {vh : VH} : ∀ (n : Nat) (t : Tm), t.dp ≤ n → t.lv ≤ 50 → t.shrt → Dtxt n [t.enc] vh = .ok (.str (mkS t.tx)) vh := by
  intro n
  induction n with
  | zero => intro t h; cases t <;> simp [Tm.dp] at h
  | succ n ih =>
    intro t hd hl ho
    cases t with
    | num i =>
      have hi : i.natAbs.log2 < 1920 := by
        have : i.natAbs < 1000 := by have := ho.1; have := ho.2; omega
        have h2 : i.natAbs.log2 ≤ i.natAbs := Nat.log2_le_self _
        omega
      simp [Dtxt, d_expression_text, slots, Tm.enc, Tm.tx, gStr, restL, lastL, pTup, two_le_lim, bStr, hi, vS]
      exact of_mkS _
    | box s =>
      simp [Dtxt, d_expression_text, slots, Tm.enc, Tm.tx, gStr, restL, lastL, pTup, two_le_lim, bStr, vS]
      exact of_mkS _
    | asked => simp [Dtxt, d_expression_text, slots, Tm.enc, Tm.tx, gStr, restL, lastL, pTup, two_le_lim, bStr, vS, s_as]
    | told => simp [Dtxt, d_expression_text, slots, Tm.enc, Tm.tx, gStr, restL, lastL, pTup, two_le_lim, bStr, vS, s_to]
    | op k a b =>
      simp only [Tm.dp] at hd
      simp only [Tm.lv] at hl
      have ap := a.lv_pos
      have bp := b.lv_pos
      have ea := ih a (by omega) (by omega) ho.2.1
      have eb := ih b (by omega) (by omega) ho.2.2
      have la := a.tx_len ho.2.1
      have lb := b.tx_len ho.2.2
      have lc := sgL_len k
      obtain ⟨n1, n2⟩ := opN_nin k
      have sg := sign_at ho.1
      have fa := fmt_ok (a := a.tx) (by omega)
      have fb := fmt_ok (a := b.tx) (by omega)
      have fc := fmt_ok (a := sgL k) (by omega)
      rw [Dtxt]
      simp only [Tm.enc, Tm.tx]
      simp [d_expression_text, slots, gStr, restL, lastL, pTup, two_le_lim, n1, n2, wipeS, lc0, lc1, d_expression_text_E1, ea, eb, gUnp]
      rw [join7 (a := a.tx) (b := b.tx) (c := sgL k) (by omega)]
      · simp
      · simp [fa]
      · simp [pGdc, sg, fc]
      · simp [fb]
theorem opN_in {k : Nat} (hk : k < 5) : (dget gdv_SIGNS (.inr (Str.ofString (opN k)))).isSome = true := by rw [sign_at hk]; rfl
theorem signsD {sl : Sl} {vh : VH} : eDisp [(eCon (.str "plus"), eCon (.str "+")), (eCon (.str "less"), eCon (.str "-")), (eCon (.str "times"), eCon (.str "*")), (eCon (.str "over"), eCon (.str "//")), (eCon (.str "rest"), eCon (.str "rest"))] sl vh = .ok (.f (.dct gdv_SIGNS)) vh := rfl
theorem add_ok {a b : List Nat} (h : a.length + b.length ≤ 16000000) : opAdd (.str (mkS a)) (.str (mkS b)) = some (.v (.str (mkS (a ++ b)))) := by
  simp only [opAdd, mkS_len]
  rw [if_pos (le_lim h), mkS_app]; rfl
theorem no_word {s : String} (h : dget gdv_SIGNS (.inr (Str.ofString s)) = none) : opIn (.str (Str.ofString s)) (.dct gdv_SIGNS) = some (.v (.bl false)) := by
  simp [opIn, pIn, keyD, h, vB]
theorem shw_ok {vh : VH} : ∀ (n : Nat) (t : Tm), t.dp ≤ n → t.lv ≤ 50 → t.shrt → Dshw n [t.enc] vh = .ok (.str (mkS t.tx)) vh := by
  intro n
  induction n with
  | zero => intro t h; cases t <;> simp [Tm.dp] at h
  | succ n ih =>
    intro t hd hl ho
    have n1 : opIn (.str (Str.ofString "number")) (.dct gdv_SIGNS) = _ := no_word rfl
    have n2 : opIn (.str (Str.ofString "box")) (.dct gdv_SIGNS) = _ := no_word rfl
    have n3 : opIn (.str (Str.ofString "asked")) (.dct gdv_SIGNS) = _ := no_word rfl
    have n4 : opIn (.str (Str.ofString "told")) (.dct gdv_SIGNS) = _ := no_word rfl
    have m2 : ∀ a b : D, atI [a, b] (-1) = some b := fun _ _ => rfl
    have m1 : ∀ a : D, atI [a] (-1) = some a := fun _ => rfl
    rw [Dshw]
    cases t with
    | num i =>
      have hi : i.natAbs.log2 < 1920 := by
        have : i.natAbs < 1000 := by have := ho.1; have := ho.2; omega
        have h2 : i.natAbs.log2 ≤ i.natAbs := Nat.log2_le_self _
        omega
      simp [d__law_term_shown, slots, Tm.enc, Tm.tx, signsD, n1, m2, bStr, hi, vS]
      exact of_mkS _
    | box s =>
      simp [d__law_term_shown, slots, Tm.enc, Tm.tx, signsD, n2, m2, bStr, vS]
      exact of_mkS _
    | asked =>
      simp [d__law_term_shown, slots, Tm.enc, Tm.tx, signsD, n3, m1, bStr, vS]
      exact s_as
    | told =>
      simp [d__law_term_shown, slots, Tm.enc, Tm.tx, signsD, n4, m1, bStr, vS]
      exact s_to
    | op k a b =>
      simp only [Tm.dp] at hd
      simp only [Tm.lv] at hl
      have ap := a.lv_pos
      have bp := b.lv_pos
      have ea := ih a (by omega) (by omega) ho.2.1
      have eb := ih b (by omega) (by omega) ho.2.2
      have la := a.tx_len ho.2.1
      have lb := b.tx_len ho.2.2
      have lc := sgL_len k
      have sg := sign_at ho.1
      have hin : opIn (.str (Str.ofString (opN k))) (.dct gdv_SIGNS) = some (.v (.bl true)) := by simp [opIn, pIn, keyD, sg, vB]
      have hix : pIx (.dct gdv_SIGNS) (.str (Str.ofString (opN k))) = some (.v (.str (mkS (sgL k)))) := by simp [pIx, keyD, sg]
      have k1 := add_ok (a := [32]) (b := sgL k) (by simp; omega)
      have k2 := add_ok (a := [32] ++ sgL k) (b := [32]) (by simp; omega)
      have k3 := add_ok (a := [40]) (b := a.tx) (by simp; omega)
      have k4 := add_ok (a := [40] ++ a.tx) (b := [32] ++ sgL k ++ [32]) (by simp; omega)
      have k5 := add_ok (a := [40] ++ a.tx ++ ([32] ++ sgL k ++ [32])) (b := b.tx) (by simp; omega)
      have k6 := add_ok (a := [40] ++ a.tx ++ ([32] ++ sgL k ++ [32]) ++ b.tx) (b := [41]) (by simp; omega)
      simp only [Tm.enc, Tm.tx]
      simp only [List.singleton_append, List.cons_append, List.append_assoc, List.nil_append] at k1 k2 k3 k4 k5 k6
      simp [d__law_term_shown, slots, signsD, hin, hix, s_lp, s_rp, s_sp, k1, k2, k3, k4, k5, k6, ea, eb]
end PM

namespace PM
open PySem L2
def joL (k : Nat) : List Nat := if k = 0 then [97, 110, 100] else [111, 114]
def cmL (k : Nat) : List Nat := if k = 0 then [61, 61] else [60]
def Te.tx : Te → List Nat
  | .no a => [40, 110, 111, 116, 32] ++ a.tx ++ [41]
  | .jo k a b => 40 :: (a.tx ++ (32 :: (joL k ++ (32 :: (b.tx ++ [41])))))
  | .cm k a b => 40 :: (a.tx ++ (32 :: (cmL k ++ (32 :: (b.tx ++ [41])))))
def Te.shrt : Te → Prop
  | .no a => a.shrt
  | .jo _ a b => a.shrt ∧ b.shrt
  | .cm _ a b => a.shrt ∧ b.shrt
theorem joL_len (k : Nat) : (joL k).length ≤ 4 := by unfold joL; split <;> decide
theorem cmL_len (k : Nat) : (cmL k).length ≤ 4 := by unfold cmL; split <;> decide
theorem Te.tx_len : ∀ t : Te, t.shrt → t.fit → t.tx.length + 20 ≤ 4000 * 2 ^ t.dp
  | .no a, h, f => by
    have := Te.tx_len a h f
    simp only [Te.tx, Te.dp, List.length_append, List.length_cons, List.length_nil, Nat.pow_succ]
    omega
  | .jo k a b, h, f => by
    have h1 := Te.tx_len a h.1 f.1
    have h2 := Te.tx_len b h.2 f.2
    have h3 := joL_len k
    have p1 : 2 ^ a.dp ≤ 2 ^ max a.dp b.dp := Nat.pow_le_pow_right (by omega) (by omega)
    have p2 : 2 ^ b.dp ≤ 2 ^ max a.dp b.dp := Nat.pow_le_pow_right (by omega) (by omega)
    simp only [Te.tx, Te.dp, List.length_append, List.length_cons, List.length_nil, Nat.pow_succ]
    omega
  | .cm k a b, h, f => by
    have h1 := a.tx_len h.1
    have h2 := b.tx_len h.2
    have h3 := cmL_len k
    have := f.1.2
    have := f.2.2
    simp only [Te.tx, Te.dp, List.length_append, List.length_cons, List.length_nil]
    omega
theorem Te.tx_lim {t : Te} (h : t.shrt) (f : t.fit) (hd : t.dp ≤ 8) : t.tx.length ≤ 2000000 := by
  have := t.tx_len h f
  have : 2 ^ t.dp ≤ 2 ^ 8 := Nat.pow_le_pow_right (by omega) hd
  omega
noncomputable def Dttx : Nat → Den
  | 0 => fun _ _ => .bad
  | n + 1 => runD 6 (d_test_text (Dttx n) (Dtxt 9))
noncomputable def Dtsh : Nat → Den
  | 0 => fun _ _ => .bad
  | n + 1 => runD 3 (d__law_test_shown (Dshw 9) (Dtsh n))
theorem jo_at (k : Nat) : dget gdv_TEST_SIGNS (.inr (Str.ofString (joN k))) = some (.str (mkS (joL k))) := by
  unfold joN joL; split <;> rfl
theorem cm_at (k : Nat) : dget gdv_TEST_SIGNS (.inr (Str.ofString (cmN k))) = some (.str (mkS (cmL k))) := by
  unfold cmN cmL; split <;> rfl
theorem join3 {a : List Nat} {φ : EF} {sl : Sl} {vh : VH} (h : a.length ≤ 10000000) (e1 : φ sl vh = .ok (.v (.str (mkS a))) vh) :
    eJoin Str.empty [eCon (.str "(not "), φ, eCon (.str ")")] sl vh = .ok (.v (.str (mkS ([40, 110, 111, 116, 32] ++ a ++ [41])))) vh := by
  have L : ∀ x : List Nat, x.length ≤ 16000000 → (mkS x).length ≤ lim := fun x h => len_ok h
  simp only [eJoin, x_eb, x_con, x_v, s_not, s_rp, mkS_nil, mkS_app, e1]
  rw [if_pos (L _ (by simp)), if_pos (L _ (by simp; omega)), if_pos (L _ (by simp; omega))]
  simp
theorem joN_in (k : Nat) : opIn (.str (Str.ofString (joN k))) (.tup [.str "both", .str "either"]) = some (.v (.bl true)) := by
  unfold joN; split <;> rfl
theorem cmN_in (k : Nat) : opIn (.str (Str.ofString (cmN k))) (.tup [.str "both", .str "either"]) = some (.v (.bl false)) := by
  unfold cmN; split <;> rfl
theorem ttx_ok {vh : VH} : ∀ (n : Nat) (t : Te), t.dp ≤ n → n ≤ 8 → t.fit → t.shrt → Dttx n [t.enc] vh = .ok (.str (mkS t.tx)) vh := by
  intro n
  induction n with
  | zero => intro t h; cases t <;> simp [Te.dp] at h
  | succ n ih =>
    intro t hd hn hf ho
    rw [Dttx]
    cases t with
    | no a =>
      simp only [Te.dp] at hd
      have ea := ih a (by omega) (by omega) hf ho
      have la := Te.tx_lim (t := a) ho hf (by omega)
      have fa := fmt_ok (a := a.tx) (by omega)
      simp only [Te.enc, Te.tx]
      simp [d_test_text, slots, gStr, restL, lastL]
      rw [join3 (a := a.tx) (by omega)]
      · simp
      · simp [ea, fa]
    | jo k a b =>
      simp only [Te.dp] at hd
      have ea := ih a (by omega) (by omega) hf.1 ho.1
      have eb := ih b (by omega) (by omega) hf.2 ho.2
      have la := Te.tx_lim ho.1 hf.1 (by omega)
      have lb := Te.tx_lim ho.2 hf.2 (by omega)
      have lc := joL_len k
      have fa := fmt_ok (a := a.tx) (by omega)
      have fb := fmt_ok (a := b.tx) (by omega)
      have fc := fmt_ok (a := joL k) (by omega)
      have n1 := (joN_ne k).1
      have sg := jo_at k
      have hin := joN_in k
      simp only [Te.enc, Te.tx]
      simp [d_test_text, slots, gStr, restL, lastL, n1, pTup, two_le_lim, hin, wipeS, lc0, lc1, d_test_text_E1, ea, eb, gUnp]
      rw [join7 (a := a.tx) (b := b.tx) (c := joL k) (by omega)]
      · simp
      · simp [fa]
      · simp [pGdc, sg, fc]
      · simp [fb]
    | cm k a b =>
      have ea := txt_ok (vh := vh) 9 a hf.1.1 hf.1.2 ho.1
      have eb := txt_ok (vh := vh) 9 b hf.2.1 hf.2.2 ho.2
      have la := a.tx_len ho.1
      have lb := b.tx_len ho.2
      have := hf.1.2
      have := hf.2.2
      have lc := cmL_len k
      have fa := fmt_ok (a := a.tx) (by omega)
      have fb := fmt_ok (a := b.tx) (by omega)
      have fc := fmt_ok (a := cmL k) (by omega)
      have n1 := (cmN_ne k).1
      have sg := cm_at k
      have hin := cmN_in k
      simp only [Te.enc, Te.tx]
      simp [d_test_text, slots, gStr, restL, lastL, n1, pTup, two_le_lim, hin, wipeS, lc0, lc1, d_test_text_E2, ea, eb, gUnp]
      rw [join7 (a := a.tx) (b := b.tx) (c := cmL k) (by omega)]
      · simp
      · simp [fa]
      · simp [pGdc, sg, fc]
      · simp [fb]
theorem signsT {sl : Sl} {vh : VH} : eDisp [(eCon (.str "is"), eCon (.str "==")), (eCon (.str "below"), eCon (.str "<")), (eCon (.str "both"), eCon (.str "and")), (eCon (.str "either"), eCon (.str "or"))] sl vh = .ok (.f (.dct gdv_TEST_SIGNS)) vh := rfl
theorem tsh_ok {vh : VH} : ∀ (n : Nat) (t : Te), t.dp ≤ n → n ≤ 8 → t.fit → t.shrt → Dtsh n [t.enc] vh = .ok (.str (mkS t.tx)) vh := by
  intro n
  induction n with
  | zero => intro t h; cases t <;> simp [Te.dp] at h
  | succ n ih =>
    intro t hd hn hf ho
    rw [Dtsh]
    cases t with
    | no a =>
      simp only [Te.dp] at hd
      have ea := ih a (by omega) (by omega) hf ho
      have la := Te.tx_lim (t := a) ho hf (by omega)
      have k1 := add_ok (a := [40, 110, 111, 116, 32]) (b := a.tx) (by simp; omega)
      have k2 := add_ok (a := [40, 110, 111, 116, 32] ++ a.tx) (b := [41]) (by simp; omega)
      simp only [Te.enc, Te.tx]
      simp only [List.cons_append, List.nil_append] at k1 k2
      simp [d__law_test_shown, slots, signsT, ea, s_not, s_rp, k1, k2]
    | jo k a b =>
      simp only [Te.dp] at hd
      have ea := ih a (by omega) (by omega) hf.1 ho.1
      have eb := ih b (by omega) (by omega) hf.2 ho.2
      have la := Te.tx_lim ho.1 hf.1 (by omega)
      have lb := Te.tx_lim ho.2 hf.2 (by omega)
      have lc := joL_len k
      have n1 := (joN_ne k).1
      have sg := jo_at k
      have hin := joN_in k
      have hix : pIx (.dct gdv_TEST_SIGNS) (.str (Str.ofString (joN k))) = some (.v (.str (mkS (joL k)))) := by simp [pIx, keyD, sg]
      have k1 := add_ok (a := [32]) (b := joL k) (by simp; omega)
      have k2 := add_ok (a := [32] ++ joL k) (b := [32]) (by simp; omega)
      have k3 := add_ok (a := [40]) (b := a.tx) (by simp; omega)
      have k4 := add_ok (a := [40] ++ a.tx) (b := [32] ++ joL k ++ [32]) (by simp; omega)
      have k5 := add_ok (a := [40] ++ a.tx ++ ([32] ++ joL k ++ [32])) (b := b.tx) (by simp; omega)
      have k6 := add_ok (a := [40] ++ a.tx ++ ([32] ++ joL k ++ [32]) ++ b.tx) (b := [41]) (by simp; omega)
      simp only [Te.enc, Te.tx]
      simp only [List.singleton_append, List.cons_append, List.append_assoc, List.nil_append] at k1 k2 k3 k4 k5 k6
      simp [d__law_test_shown, slots, signsT, n1, pTup, two_le_lim, hin, hix, s_lp, s_rp, s_sp, k1, k2, k3, k4, k5, k6, ea, eb]
    | cm k a b =>
      have ea := shw_ok (vh := vh) 9 a hf.1.1 hf.1.2 ho.1
      have eb := shw_ok (vh := vh) 9 b hf.2.1 hf.2.2 ho.2
      have la := a.tx_len ho.1
      have lb := b.tx_len ho.2
      have := hf.1.2
      have := hf.2.2
      have lc := cmL_len k
      have n1 := (cmN_ne k).1
      have sg := cm_at k
      have hin := cmN_in k
      have hix : pIx (.dct gdv_TEST_SIGNS) (.str (Str.ofString (cmN k))) = some (.v (.str (mkS (cmL k)))) := by simp [pIx, keyD, sg]
      have k1 := add_ok (a := [32]) (b := cmL k) (by simp; omega)
      have k2 := add_ok (a := [32] ++ cmL k) (b := [32]) (by simp; omega)
      have k3 := add_ok (a := [40]) (b := a.tx) (by simp; omega)
      have k4 := add_ok (a := [40] ++ a.tx) (b := [32] ++ cmL k ++ [32]) (by simp; omega)
      have k5 := add_ok (a := [40] ++ a.tx ++ ([32] ++ cmL k ++ [32])) (b := b.tx) (by simp; omega)
      have k6 := add_ok (a := [40] ++ a.tx ++ ([32] ++ cmL k ++ [32]) ++ b.tx) (b := [41]) (by simp; omega)
      simp only [Te.enc, Te.tx]
      simp only [List.singleton_append, List.cons_append, List.append_assoc, List.nil_append] at k1 k2 k3 k4 k5 k6
      simp [d__law_test_shown, slots, signsT, n1, pTup, two_le_lim, hin, hix, s_lp, s_rp, s_sp, k1, k2, k3, k4, k5, k6, ea, eb]
end PM

namespace PM
open PySem L2
def alN (c : Nat) : Prop := (97 ≤ c ∧ c ≤ 122) ∨ (48 ≤ c ∧ c ≤ 57)
def stopL : List Nat → Prop
  | [] => True
  | c :: _ => ¬ alN c
theorem word_split : ∀ {w w' r r' : List Nat}, (∀ c ∈ w, alN c) → (∀ c ∈ w', alN c) → stopL r → stopL r' → w ++ r = w' ++ r' → w = w' ∧ r = r'
  | [], [], r, r', _, _, _, _, e => ⟨rfl, by simpa using e⟩
  | [], c :: w', r, r', _, h', s, _, e => by
    simp only [List.nil_append, List.cons_append] at e
    subst e
    exact absurd (h' c (List.mem_cons_self ..)) s
  | c :: w, [], r, r', h, _, _, s', e => by
    simp only [List.nil_append, List.cons_append] at e
    subst e
    exact absurd (h c (List.mem_cons_self ..)) s'
  | c :: w, c' :: w', r, r', h, h', s, s', e => by
    simp only [List.cons_append, List.cons.injEq] at e
    obtain ⟨rfl, e⟩ := e
    obtain ⟨rfl, e2⟩ := word_split (fun x hx => h x (List.mem_cons_of_mem _ hx)) (fun x hx => h' x (List.mem_cons_of_mem _ hx)) s s' e
    exact ⟨rfl, e2⟩
structure GoodN (s : Str) : Prop where
  ne : s.cps.toList ≠ []
  az : ∀ c ∈ s.cps.toList, 97 ≤ c ∧ c ≤ 122
  na : s.cps.toList ≠ [97, 115, 107, 101, 100]
  nt : s.cps.toList ≠ [116, 111, 108, 100]
  nn : s.cps.toList ≠ [110, 111, 116]
  ln : s.cps.toList.length ≤ 16
def Tm.gd : Tm → Prop
  | .num i => 0 ≤ i ∧ i < 1000
  | .box s => GoodN s
  | .asked => True
  | .told => True
  | .op k a b => k < 5 ∧ a.gd ∧ b.gd
def Te.gd : Te → Prop
  | .no a => a.gd
  | .jo k a b => k < 2 ∧ a.gd ∧ b.gd
  | .cm k a b => k < 2 ∧ a.gd ∧ b.gd
theorem Tm.gd_shrt : ∀ t : Tm, t.gd → t.shrt
  | .num _, h => h
  | .box _, h => h.ln
  | .asked, _ => trivial
  | .told, _ => trivial
  | .op _ a b, h => ⟨h.1, a.gd_shrt h.2.1, b.gd_shrt h.2.2⟩
theorem Te.gd_shrt : ∀ t : Te, t.gd → t.shrt
  | .no a, h => a.gd_shrt h
  | .jo _ a b, h => ⟨a.gd_shrt h.2.1, b.gd_shrt h.2.2⟩
  | .cm _ a b, h => ⟨a.gd_shrt h.2.1, b.gd_shrt h.2.2⟩
def digs (i : Int) : List Nat := (Str.ofString (toString i)).cps.toList
def dec (l : List Nat) : Nat := l.foldl (fun a c => 10 * a + (c - 48)) 0
theorem digs_ok {i : Int} (h0 : 0 ≤ i) (h1 : i < 1000) : digs i ≠ [] ∧ (∀ c ∈ digs i, 48 ≤ c ∧ c ≤ 57) ∧ dec (digs i) = i.toNat := by
  have h : ∀ n : Fin 1000, digs ((n.val : Nat) : Int) ≠ [] ∧ (∀ c ∈ digs ((n.val : Nat) : Int), 48 ≤ c ∧ c ≤ 57) ∧ dec (digs ((n.val : Nat) : Int)) = n.val := by decide +kernel
  have := h ⟨i.toNat, by omega⟩
  simpa [Int.toNat_of_nonneg h0] using this
def Tm.leaf : Tm → Prop
  | .op _ _ _ => False
  | _ => True
theorem leaf_al : ∀ {t : Tm}, t.leaf → t.gd → (∀ c ∈ t.tx, alN c) ∧ t.tx ≠ [] ∧ t.tx ≠ [110, 111, 116]
  | .num i, _, h => by
    obtain ⟨a, b, _⟩ := digs_ok h.1 h.2
    refine ⟨fun c hc => .inr (b c hc), a, fun e => ?_⟩
    have := b 110 (by show 110 ∈ digs i; rw [show digs i = [110, 111, 116] from e]; simp)
    omega
  | .box s, _, h => ⟨fun c hc => .inl (h.az c hc), h.ne, h.nn⟩
  | .asked, _, _ => by refine ⟨?_, by decide, by decide⟩; intro c hc; simp [Tm.tx] at hc; unfold alN; omega
  | .told, _, _ => by refine ⟨?_, by decide, by decide⟩; intro c hc; simp [Tm.tx] at hc; unfold alN; omega
  | .op _ _ _, h, _ => h.elim
theorem dig_let {l : List Nat} (h : l ≠ []) (a : ∀ c ∈ l, 48 ≤ c ∧ c ≤ 57) (b : ∀ c ∈ l, 97 ≤ c ∧ c ≤ 122) : False := by
  cases l with
  | nil => exact h rfl
  | cons c l => have := a c (List.mem_cons_self ..); have := b c (List.mem_cons_self ..); omega
theorem leaf_inj : ∀ {t u : Tm}, t.leaf → u.leaf → t.gd → u.gd → t.tx = u.tx → t = u := by
  have ka : ∀ c ∈ ([97, 115, 107, 101, 100] : List Nat), 97 ≤ c ∧ c ≤ 122 := by decide
  have kt : ∀ c ∈ ([116, 111, 108, 100] : List Nat), 97 ≤ c ∧ c ≤ 122 := by decide
  intro t u lt lu gt gu e
  cases t with
  | op => exact lt.elim
  | num i =>
    obtain ⟨a, b, d⟩ := digs_ok gt.1 gt.2
    cases u with
    | op => exact lu.elim
    | num j =>
      obtain ⟨a', b', d'⟩ := digs_ok gu.1 gu.2
      have e2 : digs i = digs j := e
      rw [e2, d'] at d
      have : i = j := by have := gt.1; have := gu.1; omega
      rw [this]
    | box s => exact (dig_let a b (by rw [show digs i = s.cps.toList from e]; exact gu.az)).elim
    | asked => exact (dig_let a b (by rw [show digs i = _ from e]; exact ka)).elim
    | told => exact (dig_let a b (by rw [show digs i = _ from e]; exact kt)).elim
  | box s =>
    cases u with
    | op => exact lu.elim
    | num j =>
      obtain ⟨a', b', d'⟩ := digs_ok gu.1 gu.2
      exact (dig_let a' b' (by rw [show digs j = s.cps.toList from e.symm]; exact gt.az)).elim
    | box s' =>
      have e2 : s.cps.toList = s'.cps.toList := e
      rw [of_mkS s, of_mkS s', e2]
    | asked => exact (gt.na e).elim
    | told => exact (gt.nt e).elim
  | asked =>
    cases u with
    | op => exact lu.elim
    | num j =>
      obtain ⟨a', b', d'⟩ := digs_ok gu.1 gu.2
      exact (dig_let a' b' (by rw [show digs j = _ from e.symm]; exact ka)).elim
    | box s' => exact (gu.na e.symm).elim
    | asked => rfl
    | told => cases e
  | told =>
    cases u with
    | op => exact lu.elim
    | num j =>
      obtain ⟨a', b', d'⟩ := digs_ok gu.1 gu.2
      exact (dig_let a' b' (by rw [show digs j = _ from e.symm]; exact kt)).elim
    | box s' => exact (gu.nt e.symm).elim
    | asked => cases e
    | told => rfl
theorem leaf_or : ∀ t : Tm, t.leaf ∨ ∃ k a b, t = .op k a b
  | .num _ => .inl trivial
  | .box _ => .inl trivial
  | .asked => .inl trivial
  | .told => .inl trivial
  | .op k a b => .inr ⟨k, a, b, rfl⟩
theorem sg_split {k k' : Nat} (h : k < 5) (h' : k' < 5) {R R' : List Nat} (e : sgL k ++ 32 :: R = sgL k' ++ 32 :: R') : k = k' ∧ R = R' := by
  have a : k = 0 ∨ k = 1 ∨ k = 2 ∨ k = 3 ∨ k = 4 := by omega
  have b : k' = 0 ∨ k' = 1 ∨ k' = 2 ∨ k' = 3 ∨ k' = 4 := by omega
  rcases a with rfl | rfl | rfl | rfl | rfl <;> rcases b with rfl | rfl | rfl | rfl | rfl <;> simp [sgL] at e <;> first | exact ⟨rfl, e⟩ | exact e.elim
theorem cm_sg {k k' : Nat} (h : k' < 5) {R R' : List Nat} (e : cmL k ++ 32 :: R = sgL k' ++ 32 :: R') : False := by
  have b : k' = 0 ∨ k' = 1 ∨ k' = 2 ∨ k' = 3 ∨ k' = 4 := by omega
  unfold cmL at e
  split at e <;> rcases b with rfl | rfl | rfl | rfl | rfl <;> simp [sgL] at e
theorem cm_split {k k' : Nat} (h : k < 2) (h' : k' < 2) {R R' : List Nat} (e : cmL k ++ 32 :: R = cmL k' ++ 32 :: R') : k = k' ∧ R = R' := by
  have a : k = 0 ∨ k = 1 := by omega
  have b : k' = 0 ∨ k' = 1 := by omega
  rcases a with rfl | rfl <;> rcases b with rfl | rfl <;> simp [cmL] at e <;> first | exact ⟨rfl, e⟩ | exact e.elim
theorem jo_split {k k' : Nat} (h : k < 2) (h' : k' < 2) {R R' : List Nat} (e : joL k ++ 32 :: R = joL k' ++ 32 :: R') : k = k' ∧ R = R' := by
  have a : k = 0 ∨ k = 1 := by omega
  have b : k' = 0 ∨ k' = 1 := by omega
  rcases a with rfl | rfl <;> rcases b with rfl | rfl <;> simp [joL] at e <;> first | exact ⟨rfl, e⟩ | exact e.elim
theorem st32 (r : List Nat) : stopL (32 :: r) := by unfold stopL alN; omega
theorem st41 (r : List Nat) : stopL (41 :: r) := by unfold stopL alN; omega
theorem leaf_op {t : Tm} {r R : List Nat} (l : t.leaf) (g : t.gd) (e : t.tx ++ r = 40 :: R) : False := by
  obtain ⟨a, b, _⟩ := leaf_al l g
  cases h : t.tx with
  | nil => exact b h
  | cons c w =>
    rw [h] at e a
    simp only [List.cons_append, List.cons.injEq] at e
    have := a c (List.mem_cons_self ..)
    unfold alN at this
    omega
theorem leaf_case {t : Tm} (lt : t.leaf) (u : Tm) (r r' : List Nat) (g : t.gd) (g' : u.gd) (s : stopL r) (s' : stopL r') (e : t.tx ++ r = u.tx ++ r') : t = u ∧ r = r' := by
  rcases leaf_or u with l | ⟨k', a', b', rfl⟩
  · obtain ⟨e1, e2⟩ := word_split (leaf_al lt g).1 (leaf_al l g').1 s s' e
    exact ⟨leaf_inj lt l g g' e1, e2⟩
  · exact (leaf_op lt g (e.trans rfl)).elim
theorem tx_inj : ∀ (t u : Tm) (r r' : List Nat), t.gd → u.gd → stopL r → stopL r' → t.tx ++ r = u.tx ++ r' → t = u ∧ r = r' := by
  intro t
  induction t with
  | op k a b iha ihb =>
    intro u r r' g g' s s' e
    rcases leaf_or u with l | ⟨k', a', b', rfl⟩
    · exact (leaf_op l g' (by rw [← e]; rfl)).elim
    · simp only [Tm.tx, List.cons_append, List.append_assoc, List.cons.injEq, true_and, List.nil_append] at e
      obtain ⟨rfl, e2⟩ := iha a' _ _ g.2.1 g'.2.1 (st32 _) (st32 _) e
      rw [List.cons.injEq] at e2
      obtain ⟨rfl, e3⟩ := sg_split g.1 g'.1 e2.2
      obtain ⟨rfl, e4⟩ := ihb b' _ _ g.2.2 g'.2.2 (st41 _) (st41 _) e3
      rw [List.cons.injEq] at e4
      exact ⟨rfl, e4.2⟩
  | num i => exact fun u r r' g g' s s' e => leaf_case (t := .num i) trivial u r r' g g' s s' e
  | box i => exact fun u r r' g g' s s' e => leaf_case (t := .box i) trivial u r r' g g' s s' e
  | asked => exact fun u r r' g g' s s' e => leaf_case (t := .asked) trivial u r r' g g' s s' e
  | told => exact fun u r r' g g' s s' e => leaf_case (t := .told) trivial u r r' g g' s s' e
theorem te_head (t : Te) : ∃ R, t.tx = 40 :: R := by
  cases t <;> exact ⟨_, rfl⟩
theorem not_tm {a : Tm} {r r' : List Nat} (g : a.gd) (e : [110, 111, 116] ++ 32 :: r = a.tx ++ 32 :: r') : False := by
  rcases leaf_or a with l | ⟨k', a', b', rfl⟩
  · obtain ⟨h1, h2, h3⟩ := leaf_al l g
    obtain ⟨e1, _⟩ := word_split (w := [110, 111, 116]) (by intro c hc; simp at hc; unfold alN; omega) h1 (st32 _) (st32 _) e
    exact h3 e1.symm
  · simp [Tm.tx] at e
theorem tm_te : ∀ (t : Te) (a : Tm) (r r' : List Nat), t.gd → a.gd → t.tx ++ r = a.tx ++ r' → False
  | .no v, a, r, r', g, ga, e => by
    rcases leaf_or a with l | ⟨k', a', b', rfl⟩
    · exact leaf_op l ga (e.symm.trans rfl)
    · simp only [Te.tx, Tm.tx, List.cons_append, List.append_assoc, List.cons.injEq, true_and, List.nil_append] at e
      exact not_tm (a := a') ga.2.1 (by simpa using e)
  | .jo k v w, a, r, r', g, ga, e => by
    rcases leaf_or a with l | ⟨k', a', b', rfl⟩
    · exact leaf_op l ga (e.symm.trans rfl)
    · simp only [Te.tx, Tm.tx, List.cons_append, List.append_assoc, List.cons.injEq, true_and, List.nil_append] at e
      exact tm_te v a' _ _ g.2.1 ga.2.1 e
  | .cm k c d, a, r, r', g, ga, e => by
    rcases leaf_or a with l | ⟨k', a', b', rfl⟩
    · exact leaf_op l ga (e.symm.trans rfl)
    · simp only [Te.tx, Tm.tx, List.cons_append, List.append_assoc, List.cons.injEq, true_and, List.nil_append] at e
      obtain ⟨rfl, e2⟩ := tx_inj c a' _ _ g.2.1 ga.2.1 (st32 _) (st32 _) e
      rw [List.cons.injEq] at e2
      exact cm_sg ga.1 e2.2
theorem te_inj : ∀ (t u : Te) (r r' : List Nat), t.gd → u.gd → t.tx ++ r = u.tx ++ r' → t = u ∧ r = r'
  | .no v, .no v', r, r', g, g', e => by
    simp only [Te.tx, List.cons_append, List.append_assoc, List.cons.injEq, true_and, List.nil_append] at e
    obtain ⟨rfl, e2⟩ := te_inj v v' _ _ g g' e
    rw [List.cons.injEq] at e2
    exact ⟨rfl, e2.2⟩
  | .no v, .jo k a b, r, r', g, g', e => by
    obtain ⟨R, hR⟩ := te_head a
    simp [Te.tx, hR] at e
  | .no v, .cm k a b, r, r', g, g', e => by
    simp only [Te.tx, List.cons_append, List.append_assoc, List.cons.injEq, true_and, List.nil_append] at e
    exact (not_tm (a := a) g'.2.1 (by simpa using e)).elim
  | .jo k a b, .no v, r, r', g, g', e => by
    obtain ⟨R, hR⟩ := te_head a
    simp [Te.tx, hR] at e
  | .cm k a b, .no v, r, r', g, g', e => by
    simp only [Te.tx, List.cons_append, List.append_assoc, List.cons.injEq, true_and, List.nil_append] at e
    exact (not_tm (a := a) g.2.1 (by simpa using e.symm)).elim
  | .jo k a b, .jo k' a' b', r, r', g, g', e => by
    simp only [Te.tx, List.cons_append, List.append_assoc, List.cons.injEq, true_and, List.nil_append] at e
    obtain ⟨rfl, e2⟩ := te_inj a a' _ _ g.2.1 g'.2.1 e
    rw [List.cons.injEq] at e2
    obtain ⟨rfl, e3⟩ := jo_split g.1 g'.1 e2.2
    obtain ⟨rfl, e4⟩ := te_inj b b' _ _ g.2.2 g'.2.2 e3
    rw [List.cons.injEq] at e4
    exact ⟨rfl, e4.2⟩
  | .jo k a b, .cm k' a' b', r, r', g, g', e => by
    simp only [Te.tx, List.cons_append, List.append_assoc, List.cons.injEq, true_and, List.nil_append] at e
    exact (tm_te a a' _ _ g.2.1 g'.2.1 e).elim
  | .cm k' a' b', .jo k a b, r, r', g', g, e => by
    simp only [Te.tx, List.cons_append, List.append_assoc, List.cons.injEq, true_and, List.nil_append] at e
    exact (tm_te a a' _ _ g.2.1 g'.2.1 e.symm).elim
  | .cm k a b, .cm k' a' b', r, r', g, g', e => by
    simp only [Te.tx, List.cons_append, List.append_assoc, List.cons.injEq, true_and, List.nil_append] at e
    obtain ⟨rfl, e2⟩ := tx_inj a a' _ _ g.2.1 g'.2.1 (st32 _) (st32 _) e
    rw [List.cons.injEq] at e2
    obtain ⟨rfl, e3⟩ := cm_split g.1 g'.1 e2.2
    obtain ⟨rfl, e4⟩ := tx_inj b b' _ _ g.2.2 g'.2.2 (st41 _) (st41 _) e3
    rw [List.cons.injEq] at e4
    exact ⟨rfl, e4.2⟩
end PM

namespace PM
open PySem L2
noncomputable def Dof : Den := runD 2 (d__law_of Dtake)
theorem of_ok {n b : Nat} {vh0 vh : VH} {xs : List D} (h : BG vh0 vh n (b + 1)) (h0 : xs ≠ []) (h1 : xs.length < 2 ^ 60) : ∃ x vh', Dof [.ref n, .lst xs] vh = .ok x vh' ∧ x ∈ xs ∧ BG vh0 vh' n b := by
  have hl : 0 < xs.length := List.length_pos_iff.mpr h0
  obtain ⟨r, vh', e, r0, r1, hb⟩ := take_ok (m := xs.length) h (by omega) (by omega)
  obtain ⟨x, e2, hx⟩ := atI_get (xs := xs) r0 r1
  refine ⟨x, vh', ?_, hx, hb⟩
  simp [Dof, d__law_of, slots, e, e2]
def letters : List Nat := [97, 98, 99, 100, 101, 102, 103, 104, 105, 106, 107, 108, 109, 110, 111, 112, 113, 114, 115, 116, 117, 118, 119, 120, 121, 122]
theorem s_letters : Str.ofString "abcdefghijklmnopqrstuvwxyz" = mkS letters := by decide
theorem mkS_tl (l : List Nat) : (mkS l).cps.toList = l := by simp [mkS]
theorem letters_az : ∀ c ∈ letters, 97 ≤ c ∧ c ≤ 122 := by decide
theorem ofS_ok {n b : Nat} {vh0 vh : VH} (h : BG vh0 vh n (b + 1)) : ∃ c vh', Dof [.ref n, .str (mkS letters)] vh = .ok (.str (mkS [c])) vh' ∧ (97 ≤ c ∧ c ≤ 122) ∧ BG vh0 vh' n b := by
  obtain ⟨r, vh', e, r0, r1, hb⟩ := take_ok (m := 26) h (by omega) (by omega)
  obtain ⟨x, e2, hx⟩ := atI_get (xs := letters) (i := r) r0 (by simpa [letters] using r1)
  refine ⟨x, vh', ?_, letters_az x hx, hb⟩
  have l0 : (mkS letters).length = 26 := rfl
  have l1 : (26 : Nat) ≤ lim := le_lim (by decide)
  have e3 : pIx (.str (mkS letters)) (.int r) = some (.v (.str (mkS [x]))) := by
    simp only [pIx, l0, if_pos l1, mkS_tl, e2]; rfl
  simp [Dof, d__law_of, slots, bLen, l0, l1, vI, e, e3]
theorem join_one (ys : List Nat) : Txt.join Str.empty (ys.map fun c => mkS [c]) = mkS ys := by
  rw [TL.join_eq]
  induction ys with
  | nil => rfl
  | cons c r ih =>
    cases r with
    | nil => rfl
    | cons d r =>
      rw [List.map_cons, List.map_cons, Str.join]
      · rw [List.map_cons] at ih
        rw [ih, mkS_nil, mkS_app, mkS_app]; rfl
      · simp
theorem strsOf_map (ys : List Str) : strsOf (ys.map D.str) = some ys := by
  induction ys with
  | nil => rfl
  | cons y r ih => simp [strsOf, ih]
theorem letters_lc {n b k : Nat} {vh0 vh : VH} {E : EF} {sl : Sl} (hk : k ≤ 100) (h : BG vh0 vh n (b + k))
    (hE : ∀ (x : D) (vh vh' : VH) (c : Nat), Dof [.ref n, .str (mkS letters)] vh = .ok (.str (mkS [c])) vh' → E (sl.set 7 (some x)) vh = .ok (.v (.str (mkS [c]))) vh') :
    ∃ (ys : List Nat) (vh' : VH), lcLoop none (gNm 7) tYesF E sl (rngI 0 k) [] vh = .ok ((ys.map fun c => mkS [c]).map D.str) vh' ∧ ys.length = k ∧ (∀ c ∈ ys, 97 ≤ c ∧ c ≤ 122) ∧ BG vh0 vh' n b := by
  have hr : (rngI 0 k).length = k := by simp [rngI]
  obtain ⟨acc, vh', e, _, ys, e1, e2, e3, h'⟩ := lcLoop_inv (γ := gNm 7) (τ := tYesF) (φ := E) (items := rngI 0 k) (sl := sl) (vh := vh)
    (fun i acc v => ∃ ys : List Nat, acc = (ys.map fun c => mkS [c]).map D.str ∧ ys.length = i ∧ (∀ c ∈ ys, 97 ≤ c ∧ c ≤ 122) ∧ BG vh0 v n (b + (k - i)))
    ⟨[], rfl, rfl, by simp, by simpa using h⟩ (le_lim (by rw [hr]; omega)) (by
      rintro i hi acc vh1 _ ⟨ys, rfl, e2, e3, h1⟩
      rw [hr] at hi
      obtain ⟨c, vh2, t1, c0, h2⟩ := ofS_ok (b := b + (k - (i + 1))) (h1.mono (by omega))
      refine ⟨_, vh1, .v (.str (mkS [c])), vh2, rfl, rfl, hE _ _ _ _ t1, ys ++ [c], by simp, by simp [e2], ?_, h2⟩
      intro d hd
      rcases List.mem_append.mp hd with hd | hd
      · exact e3 d hd
      · rw [List.mem_singleton] at hd
        subst hd
        exact c0)
  rw [hr] at e2 h'
  exact ⟨ys, vh', by rw [e, e1], e2, e3, h'.mono (by omega)⟩
noncomputable def Dnames : Den := runD 9 (d__law_names Dtake Dof)
def kept (l : List Nat) : Bool := l == [97, 115, 107, 101, 100] || l == [116, 111, 108, 100] || l == [110, 111, 116] || l == [97, 110, 100] || l == [111, 114]
theorem beq_mkS (a b : List Nat) : (mkS a == mkS b) = (a == b) := by
  by_cases h : a = b
  · subst h; simp
  · have : mkS a ≠ mkS b := fun e => h (mkS_inj e)
    rw [beq_eq_false_iff_ne.mpr h, beq_eq_false_iff_ne.mpr this]
theorem s_no : Str.ofString "not" = mkS [110, 111, 116] := by decide
theorem s_an : Str.ofString "and" = mkS [97, 110, 100] := by decide
theorem s_or : Str.ofString "or" = mkS [111, 114] := by decide
theorem s_x : Str.ofString "x" = mkS [120] := by decide
theorem kept_in (l : List Nat) : opIn (.str (mkS l)) (.tup [.str "asked", .str "told", .str "not", .str "and", .str "or"]) = some (.v (.bl (kept l))) := by
  simp only [opIn, pIn, inD, scV, scVs, inV, List.any_cons, List.any_nil, eqV, s_as, s_to, s_no, s_an, s_or, beq_mkS, Option.bind_some, vB, Option.some.injEq, EV.v.injEq, D.bl.injEq]
  unfold kept
  have c : ∀ a b : List Nat, (a == b) = (b == a) := fun a b => by
    by_cases h : a = b
    · subst h; rfl
    · rw [beq_eq_false_iff_ne.mpr h, beq_eq_false_iff_ne.mpr (Ne.symm h)]
  simp only [c l, Bool.or_false, Bool.or_assoc]
def nmx (l : List Nat) : List Nat := l ++ if kept l = true then [120] else []
theorem nmx_good {l : List Nat} (h0 : l ≠ []) (h1 : ∀ c ∈ l, 97 ≤ c ∧ c ≤ 122) (h2 : l.length ≤ 10) : GoodN (mkS (nmx l)) := by
  by_cases hk : kept l = true
  · have e : nmx l = l ++ [120] := by unfold nmx; rw [if_pos hk]
    rw [e]
    unfold kept at hk
    simp only [Bool.or_eq_true, beq_iff_eq] at hk
    rcases hk with (((h | h) | h) | h) | h <;> subst h <;> exact ⟨by decide, by decide, by decide, by decide, by decide, by decide⟩
  · have e : nmx l = l := by unfold nmx; rw [if_neg hk]; simp
    rw [e]
    unfold kept at hk
    simp only [Bool.or_eq_true, beq_iff_eq, not_or] at hk
    obtain ⟨⟨⟨⟨k1, k2⟩, k3⟩, _⟩, _⟩ := hk
    refine ⟨?_, ?_, ?_, ?_, ?_, ?_⟩ <;> rw [mkS_tl] <;> first | assumption | omega
theorem mul_x (w : Bool) : opMul (.str "x") (.int (if w = true then 1 else 0)) = some (.v (.str (mkS (if w = true then [120] else [])))) := by
  have l1 : (Str.ofString "x").length * 1 ≤ lim := le_lim (by decide)
  have l0 : (Str.ofString "x").length * 0 ≤ lim := le_lim (by decide)
  cases w
  · have e : opMul (.str "x") (.int 0) = if ((0 : Int) < 1000000 ∧ -1000000 < (0 : Int)) ∧ (Str.ofString "x").length * (0 : Int).toNat ≤ lim then vS (strRep "x" 0) else none := rfl
    rw [if_pos ⟨by decide, l0⟩] at e
    exact e.trans rfl
  · have e : opMul (.str "x") (.int 1) = if ((1 : Int) < 1000000 ∧ -1000000 < (1 : Int)) ∧ (Str.ofString "x").length * (1 : Int).toNat ≤ lim then vS (strRep "x" 1) else none := rfl
    rw [if_pos ⟨by decide, l1⟩] at e
    exact e.trans (by rw [if_pos rfl, ← s_x]; rfl)
def lt26 (f k : Int) : Nat := letters.getD ((f + 7 * k) % 26).toNat 97
theorem lt26_ok {f k : Int} (f0 : 0 ≤ f) (k0 : 0 ≤ k) : pIx (.str (mkS letters)) (.int ((f + 7 * k) % 26)) = some (.v (.str (mkS [lt26 f k]))) ∧ 97 ≤ lt26 f k ∧ lt26 f k ≤ 122 := by
  have h0 := Int.emod_nonneg (f + 7 * k) (show (26 : Int) ≠ 0 by decide)
  have h1 := Int.emod_lt_of_pos (f + 7 * k) (show (0 : Int) < 26 by decide)
  obtain ⟨m, hm⟩ : ∃ m : Nat, (f + 7 * k) % 26 = m := ⟨((f + 7 * k) % 26).toNat, by omega⟩
  have hl : m < letters.length := by show m < 26; omega
  have l0 : (mkS letters).length = 26 := rfl
  have l1 : (26 : Nat) ≤ lim := le_lim (by decide)
  have ea : atI letters ((m : Nat) : Int) = some letters[m] := by rw [atI_nat rfl hl, List.getElem?_eq_getElem hl]
  have eg : lt26 f k = letters[m] := by
    unfold lt26
    rw [hm, Int.toNat_natCast, List.getD_eq_getElem?_getD, List.getElem?_eq_getElem hl]; rfl
  rw [eg, hm]
  refine ⟨?_, letters_az _ (List.getElem_mem hl)⟩
  simp only [pIx, l0, if_pos l1, mkS_tl, ea]; rfl
theorem names_ok {n b : Nat} {vh0 vh : VH} (h : BG vh0 vh n (b + 20)) : ∃ (nm : List Str) (vh' : VH), Dnames [.ref n, .int 4] vh = .ok (.lst (nm.map D.str)) vh' ∧ nm.length = 4 ∧ (∀ s ∈ nm, GoodN s) ∧ BG vh0 vh' n b := by
  obtain ⟨k1, vh1, e1, k10, k11, h1⟩ := take_ok (m := 4) (b := b + 15) (h.mono (by omega)) (by omega) (by omega)
  obtain ⟨m1, rfl⟩ : ∃ m : Nat, k1 = m := ⟨k1.toNat, by omega⟩
  have f4 : ∀ (x : D) (a0 a1 a3 a4 a5 a6 a8 : Option D) (vh vh' : VH) (c : Nat), a0 = some (.ref n) → Dof [.ref n, .str (mkS letters)] vh = .ok (.str (mkS [c])) vh' →
      d__law_names_E4 Dtake Dof ([a0, a1, some (.str (mkS letters)), a3, a4, a5, a6, none, a8].set 7 (some x)) vh = .ok (.v (.str (mkS [c]))) vh' := by
    intro x a0 a1 a3 a4 a5 a6 a8 vh vh' c ha e
    subst ha
    simp [d__law_names_E4, e]
  have f3 : ∀ (x : D) (a0 a1 a3 a4 a5 a6 a8 : Option D) (vh vh' : VH) (c : Nat), a0 = some (.ref n) → Dof [.ref n, .str (mkS letters)] vh = .ok (.str (mkS [c])) vh' →
      d__law_names_E3 Dtake Dof ([a0, a1, some (.str (mkS letters)), a3, a4, a5, a6, none, a8].set 7 (some x)) vh = .ok (.v (.str (mkS [c]))) vh' := by
    intro x a0 a1 a3 a4 a5 a6 a8 vh vh' c ha e
    subst ha
    simp [d__law_names_E3, e]
  obtain ⟨ys, vh2, e2, y1, y2, h2⟩ := letters_lc (k := m1) (b := b + 12) (sl := [some (.ref n), some (.int 4), some (.str (mkS letters)), none, none, none, none, none, none]) (E := d__law_names_E4 Dtake Dof) (by omega) (h1.mono (by omega))
    (fun x vh vh' c e => f4 x _ _ _ _ _ _ _ vh vh' c rfl e)
  obtain ⟨k2, vh3, e3, k20, k21, h3⟩ := take_ok (m := 4) (b := b + 8) (h2.mono (by omega)) (by omega) (by omega)
  obtain ⟨m2, rfl⟩ : ∃ m : Nat, k2 = m := ⟨k2.toNat, by omega⟩
  obtain ⟨zs, vh4, e4, z1, z2, h4⟩ := letters_lc (k := m2) (b := b + 4) (sl := [some (.ref n), some (.int 4), some (.str (mkS letters)), some (.str (mkS ys)), none, none, none, none, none]) (E := d__law_names_E3 Dtake Dof) (by omega) (h3.mono (by omega))
    (fun x vh vh' c e => f3 x _ _ _ _ _ _ _ vh vh' c rfl e)
  obtain ⟨f, vh5, e5, f0, f1, h5⟩ := take_ok (m := 26) (b := b) (h4.mono (by omega)) (by omega) (by omega)
  have j1 : ∀ ys : List Nat, ys.length ≤ 10 → ∀ vh, mJoin (.str "") [.lst ((ys.map fun c => mkS [c]).map D.str)] vh = some (.v (.str (mkS ys)), vh) := by
    intro ys hy vh
    have hs : sumL (ys.map fun c => mkS [c]) + (ys.map fun c => mkS [c]).length * Str.length "" ≤ lim := by
      have : sumL (ys.map fun c => mkS [c]) = ys.length := by
        unfold sumL
        rw [List.map_map]
        have : (Str.length ∘ fun c => mkS [c]) = fun _ => 1 := by funext c; rfl
        rw [this]
        clear hy
        induction ys with
        | nil => rfl
        | cons y r ih => simp only [List.map_cons, List.sum_cons, List.length_cons]; omega
      rw [this]
      refine le_lim ?_
      have : Str.length "" = 0 := rfl
      rw [this]
      omega
    simp only [mJoin, vw_lst, strsOf_map, Option.bind_some]
    rw [if_pos hs, show Txt.join (Str.ofString "") = Txt.join Str.empty from rfl, join_one]
  have ls0 : ∀ l ∈ (List.range 4).map (fun (i : Nat) => ys ++ ([lt26 f i] ++ zs)), l ≠ [] ∧ (∀ c ∈ l, 97 ≤ c ∧ c ≤ 122) ∧ l.length ≤ 10 := by
    intro l hl
    obtain ⟨i, hi, rfl⟩ := List.mem_map.mp hl
    have hi : i < 4 := by simpa using hi
    refine ⟨by simp, ?_, by simp; omega⟩
    intro c hc
    simp only [List.mem_append, List.mem_singleton] at hc
    rcases hc with hc | hc | hc
    · exact y2 c hc
    · subst hc; exact (lt26_ok f0 (by omega)).2
    · exact z2 c hc
  have q2 := lcLoop_map (γ := gNm 7) (φ := d__law_names_E2 Dtake Dof) (sl := [some (.ref n), some (.int 4), some (.str (mkS letters)), some (.str (mkS ys)), some (.str (mkS zs)), some (.int f), none, none, none]) (vh := vh5)
    (f := fun d => match d with | .int k => .str (mkS (ys ++ ([lt26 f k] ++ zs))) | d => d) (items := rngI 0 4) (acc := []) (le_lim (by decide)) (by
      intro d hd
      obtain ⟨i, hi, rfl⟩ := List.mem_map.mp hd
      have hi : i < 4 := by simpa using hi
      obtain ⟨p1, _⟩ := lt26_ok (f := f) (k := 0 + (i : Int)) f0 (by omega)
      have m7 : mulOk 7 (0 + (i : Int)) = true := mulOk_l (by decide)
      have a1 := add_ok (a := ys) (b := [lt26 f (0 + (i : Int))]) (by simp; omega)
      have a2 := add_ok (a := ys ++ [lt26 f (0 + (i : Int))]) (b := zs) (by simp; omega)
      simp only [Int.zero_add] at p1 m7 a1 a2
      refine ⟨_, .v (.str (mkS (ys ++ ([lt26 f (0 + (i : Int))] ++ zs)))), rfl, ?_, rfl⟩
      simp [d__law_names_E2, o_mul m7, o_mod (show (0 : Int) < 26 by decide), p1, a1, a2])
  have e6 : (rngI 0 4).map (fun d => match d with | .int k => .str (mkS (ys ++ ([lt26 f k] ++ zs))) | d => d) = ((List.range 4).map (fun (i : Nat) => ys ++ ([lt26 f i] ++ zs))).map (fun l => D.str (mkS l)) := by
    simp [rngI, List.map_map]
  rw [e6, List.nil_append] at q2
  have hln : ((List.range 4).map (fun (i : Nat) => ys ++ ([lt26 f i] ++ zs))).length = 4 := by simp
  generalize (List.range 4).map (fun (i : Nat) => ys ++ ([lt26 f i] ++ zs)) = ls at ls0 q2 hln
  have q3 := lcLoop_map (γ := gNm 8) (φ := d__law_names_E1 Dtake Dof) (sl := [some (.ref n), some (.int 4), some (.str (mkS letters)), some (.str (mkS ys)), some (.str (mkS zs)), some (.int f), some (.lst (ls.map fun l => D.str (mkS l))), none, none]) (vh := vh5)
    (f := fun d => match d with | .str s => .str (mkS (nmx s.cps.toList)) | d => d) (items := ls.map fun l => D.str (mkS l)) (acc := []) (le_lim (by simp; omega)) (by
      intro d hd
      obtain ⟨l, hl, rfl⟩ := List.mem_map.mp hd
      obtain ⟨l1, l2, l3⟩ := ls0 l hl
      have mx := mul_x (kept l)
      have ki := kept_in l
      have l5 : (5 : Nat) ≤ lim := le_lim (by decide)
      have ad := add_ok (a := l) (b := if kept l = true then [120] else []) (by split <;> simp <;> omega)
      refine ⟨_, .v (.str (mkS (nmx l))), rfl, ?_, by simp [mkS_tl]⟩
      simp [d__law_names_E1, pTup, l5, ki, mx, ad, nmx])
  have e7 : (ls.map fun l => D.str (mkS l)).map (fun d => match d with | .str s => .str (mkS (nmx s.cps.toList)) | d => d) = (ls.map fun l => mkS (nmx l)).map D.str := by
    simp [List.map_map, mkS_tl]
  rw [e7, List.nil_append] at q3
  have sr : bSrt (.lst ((ls.map fun l => mkS (nmx l)).map D.str)) = some (.f (.lst ((srtS (ls.map fun l => mkS (nmx l))).map D.str))) := by
    simp only [bSrt, strsOf_map, Option.bind_some]
    rw [if_pos (by simp; omega)]
  have pm : (srtS (ls.map fun l => mkS (nmx l))).Perm (ls.map fun l => mkS (nmx l)) := List.mergeSort_perm _ _
  refine ⟨srtS (ls.map fun l => mkS (nmx l)), vh5, ?_, by rw [pm.length_eq]; simp [hln], fun s hs => ?_, h5⟩
  · have c1 : ((m1 : Nat) : Int) < 4611686018427387904 ∧ -4611686018427387904 ≤ ((m1 : Nat) : Int) := by omega
    have c2 : ((m2 : Nat) : Int) < 4611686018427387904 ∧ -4611686018427387904 ≤ ((m2 : Nat) : Int) := by omega
    have g1 := j1 ys (by omega)
    have g2 := j1 zs (by omega)
    simp only [List.map_map] at e2 e4 g1 g2 q3 sr
    simp [Dnames, d__law_names, slots, e1, c1, s_letters, wipeS, e2, e3, c2, e4, e5, q2, q3, sr, tyVH, tyD, g1, g2]
  · obtain ⟨l, hl, rfl⟩ := List.mem_map.mp (pm.mem_iff.mp hs)
    obtain ⟨l1, l2, l3⟩ := ls0 l hl
    exact nmx_good l1 l2 l3
end PM

namespace PM
open PySem L2
noncomputable def Dterm : Nat → Den
  | 0 => fun _ _ => .bad
  | n + 1 => runD 10 (d__law_deep_term (Dterm n) Dof Dtake)
theorem wf_gd {nm : List Str} (h : ∀ s ∈ nm, GoodN s) : ∀ t : Tm, t.wf nm → t.gd
  | .num _, w => w
  | .box s, w => h s w
  | .asked, _ => trivial
  | .told, _ => trivial
  | .op k a b, w => ⟨w.1, wf_gd h a w.2.1, wf_gd h b w.2.2⟩
theorem lims : (1 : Nat) ≤ lim ∧ (2 : Nat) ≤ lim ∧ (3 : Nat) ≤ lim ∧ (4 : Nat) ≤ lim ∧ (5 : Nat) ≤ lim ∧ (6 : Nat) ≤ lim ∧ (7 : Nat) ≤ lim ∧ (8 : Nat) ≤ lim := by
  refine ⟨?_, ?_, ?_, ?_, ?_, ?_, ?_, ?_⟩ <;> exact le_lim (by decide)
theorem edge_at {i : Int} (i0 : 0 ≤ i) (i1 : i < 6) : ∃ v : Int, atI [D.int 0, .int 1, .int 9, .int 10, .int 99, .int 999] i = some (.int v) ∧ 0 ≤ v ∧ v < 1000 := by
  have : i = 0 ∨ i = 1 ∨ i = 2 ∨ i = 3 ∨ i = 4 ∨ i = 5 := by omega
  rcases this with h | h | h | h | h | h <;> subst h
  · exact ⟨0, rfl, by omega, by omega⟩
  · exact ⟨1, rfl, by omega, by omega⟩
  · exact ⟨9, rfl, by omega, by omega⟩
  · exact ⟨10, rfl, by omega, by omega⟩
  · exact ⟨99, rfl, by omega, by omega⟩
  · exact ⟨999, rfl, by omega, by omega⟩
theorem pick2 {α : Type} {a c : α} {q : Int} (q0 : 0 ≤ q) (q1 : q < 2) : atI [a, c] q = some a ∨ atI [a, c] q = some c := by
  have : q = 0 ∨ q = 1 := by omega
  rcases this with h | h <;> subst h
  · exact .inl (by simp)
  · exact .inr (by simp)
section
variable {nm : List Str} {vh0 : VH} {n : Nat}
/-- what stands behind the first if: a leaf -/
theorem leaf_ok {Φ : Den} (hn : nm ≠ []) (hl : nm.length ≤ 100) {b : Nat} {most deep : Int} {vh vh1 : VH} (h : BG vh0 vh1 n (b + 3))
    (hc : (tOrF (etoT (e2 opLt (eVar 3) (eCon (.int 2)))) (tOrF (etoT (e2 opLt (eVar 2) (eCon (.int 3)))) (etoT (e2 opEq (dCall ar0__law_take Dtake (aCons (eVar 0) (aCons (eCon (.int 4)) aNil))) (eCon (.int 0)))))) [some (.ref n), some (.lst (nm.map D.str)), some (.int most), some (.int deep), none, none, none, none, none, none] vh = .ok true vh1) :
    ∃ (t : Tm) (vh' : VH), runD 10 (d__law_deep_term Φ Dof Dtake) [.ref n, .lst (nm.map D.str), .int most, .int deep] vh = .ok t.enc vh' ∧ t.wf nm ∧ t.lv = 1 ∧ t.dp = 1 ∧ BG vh0 vh' n b := by
  obtain ⟨l1, l2, l3, l4, l5, l6, l7, l8⟩ := lims
  obtain ⟨q, vh2, e2, q0, q1, h2⟩ := take_ok (m := 8) (b := b + 2) h (by omega) (by omega)
  have hs : slots 10 [D.ref n, .lst (nm.map D.str), .int most, .int deep] = [some (.ref n), some (.lst (nm.map D.str)), some (.int most), some (.int deep), none, none, none, none, none, none] := rfl
  by_cases c1 : q < 4
  · obtain ⟨x, vh3, e3, hx, h3⟩ := of_ok (xs := nm.map D.str) (b := b + 1) h2 (by simpa using hn) (by simp; omega)
    obtain ⟨s, hs', rfl⟩ := List.mem_map.mp hx
    refine ⟨.box s, vh3, ?_, hs', rfl, rfl, h3.mono (by omega)⟩
    rw [x_run, d__law_deep_term, x_seq, x_sIf, hs, hc]
    simp [e2, c1, e3, pTup, l2, Tm.enc]
  · by_cases c2 : q < 6
    · have hq : q - 4 = 0 ∨ q - 4 = 1 := by omega
      rcases hq with hq | hq
      · refine ⟨.asked, vh2, ?_, trivial, rfl, rfl, h2.mono (by omega)⟩
        rw [x_run, d__law_deep_term, x_seq, x_sIf, hs, hc]
        simp [e2, c1, c2, pTup, pLst, l1, l2, Tm.enc, hq]
      · refine ⟨.told, vh2, ?_, trivial, rfl, rfl, h2.mono (by omega)⟩
        rw [x_run, d__law_deep_term, x_seq, x_sIf, hs, hc]
        simp [e2, c1, c2, pTup, pLst, l1, l2, Tm.enc, hq]
    · obtain ⟨i, vh3, e3, i0, i1, h3⟩ := take_ok (m := 6) (b := b + 1) h2 (by omega) (by omega)
      obtain ⟨v, ev, v0, v1⟩ := edge_at i0 i1
      obtain ⟨j, vh4, e4, j0, j1, h4⟩ := take_ok (m := 1000) (b := b) h3 (by omega) (by omega)
      have hq : 0 ≤ q - 6 ∧ q - 6 < 2 := by omega
      rcases pick2 (a := D.int j) (c := .int v) hq.1 hq.2 with hp | hp
      · refine ⟨.num j, vh4, ?_, ⟨j0, j1⟩, rfl, rfl, h4⟩
        rw [x_run, d__law_deep_term, x_seq, x_sIf, hs, hc]
        simp [e2, c1, c2, e3, ev, e4, pTup, pLst, l2, l6, Tm.enc, hp]
      · refine ⟨.num v, vh4, ?_, ⟨v0, v1⟩, rfl, rfl, h4⟩
        rw [x_run, d__law_deep_term, x_seq, x_sIf, hs, hc]
        simp [e2, c1, c2, e3, ev, e4, pTup, pLst, l2, l6, Tm.enc, hp]
theorem term_ok (hn : nm ≠ []) (hl : nm.length ≤ 100) : ∀ (f : Nat) (deep most : Int) (b : Nat) (vh : VH), deep ≤ f + 1 → 1 ≤ most → most ≤ 16 → BG vh0 vh n (b + 10 * most.toNat) →
    ∃ (t : Tm) (vh' : VH), Dterm (f + 1) [.ref n, .lst (nm.map D.str), .int most, .int deep] vh = .ok t.enc vh' ∧ t.wf nm ∧ (t.lv : Int) ≤ most ∧ t.dp ≤ f + 1 ∧ BG vh0 vh' n b := by
  intro f
  induction f with
  | zero =>
    intro deep most b vh hd h1 h16 hb
    obtain ⟨t, vh', e, t1, t2, t3, h'⟩ := leaf_ok (Φ := Dterm 0) (most := most) (deep := deep) hn hl (b := b) (hb.mono (by omega)) (vh := vh) (by simp [show deep < 2 by omega])
    exact ⟨t, vh', e, t1, by omega, by omega, h'⟩
  | succ f ih =>
    intro deep most b vh hd h1 h16 hb
    by_cases c1 : deep < 2
    · obtain ⟨t, vh', e, t1, t2, t3, h'⟩ := leaf_ok (Φ := Dterm (f + 1)) (most := most) (deep := deep) hn hl (b := b) (hb.mono (by omega)) (vh := vh) (by simp [c1])
      exact ⟨t, vh', e, t1, by omega, by omega, h'⟩
    by_cases c2 : most < 3
    · obtain ⟨t, vh', e, t1, t2, t3, h'⟩ := leaf_ok (Φ := Dterm (f + 1)) (most := most) (deep := deep) hn hl (b := b) (hb.mono (by omega)) (vh := vh) (by simp [c1, c2])
      exact ⟨t, vh', e, t1, by omega, by omega, h'⟩
    obtain ⟨q, vh1, e1, q0, q1, h1'⟩ := take_ok (m := 4) (b := b + 10 * most.toNat - 1) (hb.mono (by omega)) (by omega) (by omega)
    by_cases c3 : q = 0
    · obtain ⟨t, vh', e, t1, t2, t3, h'⟩ := leaf_ok (Φ := Dterm (f + 1)) (most := most) (deep := deep) hn hl (b := b) (h1'.mono (by omega)) (vh := vh) (by simp [c1, c2, e1, c3])
      exact ⟨t, vh', e, t1, by omega, by omega, h'⟩
    obtain ⟨l, vh2, e2, l0, l1', h2⟩ := take_ok (m := most - 2) (b := b + 10 * most.toNat - 2) (h1'.mono (by omega)) (by omega) (by omega)
    obtain ⟨w, vh3, e3, hw, h3⟩ := of_ok (xs := [D.str "plus", .str "less", .str "times", .str "over", .str "rest"]) (b := b + 10 * most.toNat - 3) (h2.mono (by omega)) (by simp) (by simp)
    obtain ⟨k, hk, rfl⟩ : ∃ k, k < 5 ∧ w = .str (opN k) := by
      simp only [List.mem_cons, List.not_mem_nil, or_false] at hw
      rcases hw with h | h | h | h | h
      · exact ⟨0, by omega, h⟩
      · exact ⟨1, by omega, h⟩
      · exact ⟨2, by omega, h⟩
      · exact ⟨3, by omega, h⟩
      · exact ⟨4, by omega, h⟩
    obtain ⟨a, vh4, e4, a1, a2, a3, h4⟩ := ih (deep - 1) (1 + l) (b + 10 * (most - 1 - (1 + l)).toNat) vh3 (by omega) (by omega) (by omega) (h3.mono (by omega))
    obtain ⟨c, vh5, e5, b1, b2, b3, h5⟩ := ih (deep - 1) (most - 1 - (1 + l)) b vh4 (by omega) (by omega) (by omega) h4
    obtain ⟨m1, m2, m3, m4, m5, m6, m7, m8⟩ := lims
    refine ⟨.op k a c, vh5, ?_, ⟨hk, a1, b1⟩, by simp only [Tm.lv]; omega, by simp only [Tm.dp]; omega, h5⟩
    rw [Dterm]
    simp [d__law_deep_term, slots, c1, c2, e1, c3, e2, pLst, m5, e3, e4, e5, pTup, m3, Tm.enc]
end
end PM

namespace PM
open PySem L2
noncomputable def Dtest : Nat → Den
  | 0 => fun _ _ => .bad
  | n + 1 => runD 8 (d__law_deep_test (Dterm 6) Dtake (Dtest n))
def Te.k2 : Te → Prop
  | .no a => a.k2
  | .jo k a b => k < 2 ∧ a.k2 ∧ b.k2
  | .cm k a b => k < 2
theorem twf_gd {nm : List Str} (h : ∀ s ∈ nm, GoodN s) : ∀ t : Te, t.wf nm → t.k2 → t.gd
  | .no a, w, k => twf_gd h a w k
  | .jo _ a b, w, k => ⟨k.1, twf_gd h a w.1 k.2.1, twf_gd h b w.2 k.2.2⟩
  | .cm _ a b, w, k => ⟨k, wf_gd h a w.1, wf_gd h b w.2⟩
theorem mod2 {q : Int} (q0 : 0 ≤ q) : q % 2 = 0 ∨ q % 2 = 1 := by omega
theorem joN_at {q : Int} (q0 : 0 ≤ q) : ∃ k, k < 2 ∧ atI [D.str "both", .str "either"] (q % 2) = some (.str (joN k)) := by
  rcases mod2 q0 with h | h <;> rw [h]
  · exact ⟨0, by omega, rfl⟩
  · exact ⟨1, by omega, rfl⟩
theorem cmN_at {q : Int} (q0 : 0 ≤ q) : ∃ k, k < 2 ∧ atI [D.str "is", .str "below"] (q % 2) = some (.str (cmN k)) := by
  rcases mod2 q0 with h | h <;> rw [h]
  · exact ⟨0, by omega, rfl⟩
  · exact ⟨1, by omega, rfl⟩
section
variable {nm : List Str} {vh0 : VH} {n : Nat}
theorem test_ok (hn : nm ≠ []) (hl : nm.length ≤ 100) : ∀ (f : Nat) (deep most : Int) (b : Nat) (vh : VH), deep ≤ f + 2 → deep ≤ 6 → 3 ≤ most → most ≤ 16 → BG vh0 vh n (b + 10 * most.toNat) →
    ∃ (t : Te) (vh' : VH), Dtest (f + 1) [.ref n, .lst (nm.map D.str), .int most, .int deep] vh = .ok t.enc vh' ∧ t.wf nm ∧ t.k2 ∧ t.fit ∧ t.dp ≤ f + 1 ∧ BG vh0 vh' n b := by
  intro f
  induction f with
  | zero =>
    intro deep most b vh hd hd6 h3 h16 hb
    obtain ⟨m1, m2, m3, m4, m5, m6, m7, m8⟩ := lims
    obtain ⟨q, vh1, e1, q0, q1, h1⟩ := take_ok (m := 6) (b := b + 10 * most.toNat - 1) (hb.mono (by omega)) (by omega) (by omega)
    obtain ⟨l, vh2, e2, l0, l1, h2⟩ := take_ok (m := most - 2) (b := b + 10 * most.toNat - 2) (h1.mono (by omega)) (by omega) (by omega)
    obtain ⟨a, vh3, e3, a1, a2, a3, h3'⟩ := term_ok hn hl 5 (deep - 1) (1 + l) (b + 10 * (most - 1 - (1 + l)).toNat) vh2 (by omega) (by omega) (by omega) (h2.mono (by omega))
    obtain ⟨c, vh4, e4, b1, b2, b3, h4⟩ := term_ok hn hl 5 (deep - 1) (most - 1 - (1 + l)) b vh3 (by omega) (by omega) (by omega) h3'
    obtain ⟨k, hk, ek⟩ := cmN_at q0
    refine ⟨.cm k a c, vh4, ?_, ⟨a1, b1⟩, hk, ⟨⟨by omega, by omega⟩, by omega, by omega⟩, by simp [Te.dp], h4⟩
    have d2 : ¬ 2 < deep := by omega
    rw [Dtest]
    by_cases c0 : q = 0
    · subst c0
      have z0 : "is" = cmN k := by
        have : some (D.str "is") = some (D.str (cmN k)) := ek
        simpa using this
      simp [d__law_deep_test, slots, e1, d2, e2, e3, e4, pLst, m2, ← z0, pTup, m3, Te.enc, o_mod (show (0 : Int) < 2 by decide)]
    · by_cases c3 : q < 3
      · simp [d__law_deep_test, slots, e1, c0, c3, d2, e2, e3, e4, pLst, m2, ek, pTup, m3, Te.enc, o_mod (show (0 : Int) < 2 by decide)]
      · simp [d__law_deep_test, slots, e1, c0, c3, d2, e2, e3, e4, pLst, m2, ek, pTup, m3, Te.enc, o_mod (show (0 : Int) < 2 by decide)]
  | succ f ih =>
    intro deep most b vh hd hd6 h3 h16 hb
    obtain ⟨m1, m2, m3, m4, m5, m6, m7, m8⟩ := lims
    obtain ⟨q, vh1, e1, q0, q1, h1⟩ := take_ok (m := 6) (b := b + 10 * most.toNat - 1) (hb.mono (by omega)) (by omega) (by omega)
    by_cases cn : q = 0 ∧ 2 < deep ∧ 3 < most
    · obtain ⟨c0, d2, g3⟩ := cn
      obtain ⟨t, vh2, e2, t1, t2, t3, t4, h2⟩ := ih (deep - 1) (most - 1) b vh1 (by omega) (by omega) (by omega) (by omega) (h1.mono (by omega))
      refine ⟨.no t, vh2, ?_, t1, t2, t3, by simp only [Te.dp]; omega, h2⟩
      rw [Dtest]
      simp [d__law_deep_test, slots, e1, c0, d2, g3, e2, pTup, m2, Te.enc]
    by_cases cj : q < 3 ∧ 2 < deep ∧ 6 < most
    · obtain ⟨c3, d2, g6⟩ := cj
      have c0 : ¬ q = 0 := fun h => cn ⟨h, d2, by omega⟩
      obtain ⟨l, vh2, e2, l0, l1, h2⟩ := take_ok (m := most - 6) (b := b + 10 * most.toNat - 2) (h1.mono (by omega)) (by omega) (by omega)
      obtain ⟨t, vh3, e3, t1, t2, t3, t4, h3'⟩ := ih (deep - 1) (3 + l) (b + 10 * (most - 1 - (3 + l)).toNat) vh2 (by omega) (by omega) (by omega) (by omega) (h2.mono (by omega))
      obtain ⟨u, vh4, e4, u1, u2, u3, u4, h4⟩ := ih (deep - 1) (most - 1 - (3 + l)) b vh3 (by omega) (by omega) (by omega) (by omega) h3'
      obtain ⟨k, hk, ek⟩ := joN_at q0
      refine ⟨.jo k t u, vh4, ?_, ⟨t1, u1⟩, ⟨hk, t2, u2⟩, ⟨t3, u3⟩, by simp only [Te.dp]; omega, h4⟩
      rw [Dtest]
      simp [d__law_deep_test, slots, e1, c0, c3, d2, g6, e2, e3, e4, pLst, m2, ek, pTup, m3, Te.enc, o_mod (show (0 : Int) < 2 by decide)]
    obtain ⟨l, vh2, e2, l0, l1, h2⟩ := take_ok (m := most - 2) (b := b + 10 * most.toNat - 2) (h1.mono (by omega)) (by omega) (by omega)
    obtain ⟨a, vh3, e3, a1, a2, a3, h3'⟩ := term_ok hn hl 5 (deep - 1) (1 + l) (b + 10 * (most - 1 - (1 + l)).toNat) vh2 (by omega) (by omega) (by omega) (h2.mono (by omega))
    obtain ⟨c, vh4, e4, b1, b2, b3, h4⟩ := term_ok hn hl 5 (deep - 1) (most - 1 - (1 + l)) b vh3 (by omega) (by omega) (by omega) h3'
    obtain ⟨k, hk, ek⟩ := cmN_at q0
    refine ⟨.cm k a c, vh4, ?_, ⟨a1, b1⟩, hk, ⟨⟨by omega, by omega⟩, by omega, by omega⟩, by simp [Te.dp], h4⟩
    rw [Dtest]
    have k0 : q = 0 → "is" = cmN k := by
      intro h
      subst h
      have : some (D.str "is") = some (D.str (cmN k)) := ek
      simpa using this
    by_cases z1 : q = 0
    · have z0 := k0 z1
      subst z1
      by_cases z2 : 2 < deep
      · have z3 : ¬ 3 < most := fun h => cn ⟨rfl, z2, h⟩
        have z5 : ¬ 6 < most := by omega
        simp [d__law_deep_test, slots, e1, z2, z3, z5, e2, e3, e4, pLst, m2, pTup, m3, Te.enc, o_mod (show (0 : Int) < 2 by decide), ← z0]
      · simp [d__law_deep_test, slots, e1, z2, e2, e3, e4, pLst, m2, pTup, m3, Te.enc, o_mod (show (0 : Int) < 2 by decide), ← z0]
    · by_cases z4 : q < 3
      · by_cases z2 : 2 < deep
        · have z5 : ¬ 6 < most := fun h => cj ⟨z4, z2, h⟩
          simp [d__law_deep_test, slots, e1, z1, z4, z2, z5, e2, e3, e4, pLst, m2, ek, pTup, m3, Te.enc, o_mod (show (0 : Int) < 2 by decide)]
        · simp [d__law_deep_test, slots, e1, z1, z4, z2, e2, e3, e4, pLst, m2, ek, pTup, m3, Te.enc, o_mod (show (0 : Int) < 2 by decide)]
      · simp [d__law_deep_test, slots, e1, z1, z4, e2, e3, e4, pLst, m2, ek, pTup, m3, Te.enc, o_mod (show (0 : Int) < 2 by decide)]
end
end PM

namespace PM
open PySem L2
def kvS (p : Str × Int) : D × D := (.str p.1, .int p.2)
theorem kvOf_S : ∀ l : List (Str × Int), kvOf (l.map fun p => D.tup [.str p.1, .int p.2]) = some (l.map kvS)
  | [] => rfl
  | p :: l => by
    rw [List.map_cons]
    unfold kvOf
    simp only [keyD, kvOf_S l]
    rfl
theorem dget_mergeS {s : Str} (P : Int → Prop) : ∀ (l : List (Str × Int)) (acc : List (D × D)), (∀ p ∈ l, P p.2) → (s ∈ l.map (·.1) ∨ ∃ v, dget acc (.inr s) = some (.int v) ∧ P v) → ∃ v, dget (dmerge acc (l.map kvS)) (.inr s) = some (.int v) ∧ P v
  | [], acc, _, h => by
    rcases h with h | h
    · cases h
    · exact h
  | p :: l, acc, hP, h => by
    show ∃ v, dget (dmerge (dput acc (.str p.1) (.int p.2)) (l.map kvS)) (.inr s) = some (.int v) ∧ P v
    refine dget_mergeS P l _ (fun q hq => hP q (List.mem_cons_of_mem _ hq)) ?_
    by_cases e : p.1 = s
    · subst e
      exact .inr ⟨p.2, by rw [dget_put (z := .inr p.1) rfl]; simp, hP p (List.mem_cons_self ..)⟩
    · rcases h with h | ⟨v, h1, h2⟩
      · rw [List.map_cons, List.mem_cons] at h
        rcases h with h | h
        · exact absurd h.symm e
        · exact .inl h
      · refine .inr ⟨v, ?_, h2⟩
        rw [dget_put (z := .inr p.1) rfl, if_neg (by simpa using e)]
        exact h1
theorem repr_b (b : Bool) : ∃ x : Str, bRepr (.bl b) = some (.v (.str x)) := by
  refine ⟨(PyData.bool b).shown, ?_⟩
  have c1 : (PyData.bool b).showable = true := by simp [PyData.showable]
  have c2 : (PyData.bool b).depth ≤ 64 := by simp [PyData.depth]
  have c3 : (PyData.bool b).shown.length ≤ lim := le_lim (by cases b <;> decide)
  unfold bRepr
  simp only [pyR, toPy, Option.bind_some]
  simp [c1, c2, c3, vS]
def crS (l : List (Str × Int)) : List D := l.map fun p => D.tup [.str p.1, .int p.2]
noncomputable abbrev F9 (φ : Den → Den → Den → Den → Den → Den → Den → Den → Den → α) : α := φ (Dholds 5) (Dlholds 5) (Dworth 9) (Dlworth 9) Dtake (Dtxt 9) (Dshw 9) (Dttx 5) (Dtsh 5)
section
variable {nm : List Str} {vh0 : VH} {n : Nat}
theorem jars_ok (hl : nm.length ≤ 100) {b : Nat} {c : Int} (c0 : 0 < c) (c1 : c ≤ 1000) {sl : Sl} {vh : VH} (h : BG vh0 vh n (b + nm.length)) (s1 : sl.length = 11) (s2 : sl[0]? = some (some (.ref n))) (s5 : sl[5]? = some (some (.int c))) :
    ∃ (l : List (Str × Int)) (vh' : VH), lcLoop none (gNm 10) tYesF (F9 d__law_are_right_E1) sl (nm.map D.str) [] vh = .ok (crS l) vh' ∧ l.map (·.1) = nm ∧ (∀ p ∈ l, 0 ≤ p.2 ∧ p.2 < 1000) ∧ BG vh0 vh' n b := by
  obtain ⟨acc, vh', e, _, l, e1, e2, e3, h'⟩ := lcLoop_inv (γ := gNm 10) (τ := tYesF) (φ := F9 d__law_are_right_E1) (items := nm.map D.str) (sl := sl) (vh := vh)
    (fun i acc vh => ∃ l : List (Str × Int), acc = crS l ∧ l.map (·.1) = nm.take i ∧ (∀ p ∈ l, 0 ≤ p.2 ∧ p.2 < 1000) ∧ BG vh0 vh n (b + (nm.length - i)))
    ⟨[], rfl, rfl, by simp, by simpa using h⟩ (le_lim (by simp; omega)) (by
      rintro i hi acc vh1 _ ⟨l, rfl, e2, e3, h1⟩
      simp only [List.length_map] at hi
      obtain ⟨r, vh2, t1, r0, r1, h2⟩ := take_ok (m := c) (b := b + (nm.length - (i + 1))) (h1.mono (by omega)) c0 (by omega)
      refine ⟨sl.set 10 (some (.str nm[i])), vh1, .v (.tup [.str nm[i], .int r]), vh2, by simp, rfl, ?_, l ++ [(nm[i], r)], by simp [crS], by simp [e2], ?_, h2⟩
      · have h11 : ∀ x, (sl.set 10 x)[10]? = some x := fun x => by simp [s1]
        simp [F9, d__law_are_right_E1, h11, s2, s5, t1, pTup, lims.2.1]
      · intro p hp
        rcases List.mem_append.mp hp with hp | hp
        · exact e3 p hp
        · rw [List.mem_singleton] at hp
          subst hp
          exact ⟨r0, by show r < 1000; omega⟩)
  subst e1
  simp only [List.length_map] at e2 h'
  exact ⟨l, vh', e, by simpa using e2, e3, h'.mono (by omega)⟩
theorem few_at {i : Nat} (hi : i < 3) : ∃ c : Int, atI [D.int 3, .int 40, .int 1000] (i : Int) = some (.int c) ∧ 0 < c ∧ c ≤ 1000 := by
  have : i = 0 ∨ i = 1 ∨ i = 2 := by omega
  rcases this with h | h | h <;> subst h
  · exact ⟨3, rfl, by omega, by omega⟩
  · exact ⟨40, rfl, by omega, by omega⟩
  · exact ⟨1000, rfl, by omega, by omega⟩
theorem again_ok (hl : nm.length ≤ 100) {t : Tm} {u : Te} (tw : t.wf nm) (tl : t.lv ≤ 50) (td : t.dp ≤ 9) (uw : u.wf nm) (uf : u.fit) (ud : u.dp ≤ 5) {i : Nat} (hi : i < 3) {b : Nat} {vh : VH} (h : BG vh0 vh n (b + 103))
    {a5 a6 a7 a8 a9 : Option D} : ∃ (b5 b6 b7 b8 b9 : Option D) (vh' : VH), F9 d__law_are_right_L1 [some (.ref n), some (.lst (nm.map D.str)), some t.enc, some u.enc, some (.int i), a5, a6, a7, a8, a9, none] vh =
      .nx [some (.ref n), some (.lst (nm.map D.str)), some t.enc, some u.enc, some (.int i), b5, b6, b7, b8, b9, none] vh' ∧ BG vh0 vh' n b := by
  obtain ⟨c, ec, c0, c1⟩ := few_at hi
  obtain ⟨l, vh1, e1, l1, l2, h1⟩ := jars_ok (nm := nm) hl c0 c1 (b := b + 2) (sl := [some (.ref n), some (.lst (nm.map D.str)), some t.enc, some u.enc, some (.int i), some (.int c), a6, a7, a8, a9, none]) (h.mono (by omega)) rfl rfl rfl
  obtain ⟨x, vh2, e2, x0, x1, h2⟩ := take_ok (m := c) (b := b + 1) h1 c0 (by omega)
  obtain ⟨y, vh3, e3, y0, y1, h3⟩ := take_ok (m := c) (b := b) h2 c0 (by omega)
  have kd : bDct (.lst (crS l)) = some (.f (.dct (dmerge [] (l.map kvS)))) := by simp only [bDct, crS, kvOf_S]; rfl
  have okc : ∀ s ∈ nm, ∃ v : Int, dget (dmerge [] (l.map kvS)) (.inr s) = some (.int v) ∧ 0 ≤ v ∧ v < 1000 := fun s hs => dget_mergeS (fun v => 0 ≤ v ∧ v < 1000) l [] l2 (.inl (by rw [l1]; exact hs))
  have tok : t.ok (dmerge [] (l.map kvS)) := wf_ok okc t tw
  have uok : u.ok (dmerge [] (l.map kvS)) := Te.wf_ok okc u uw
  generalize dmerge [] (l.map kvS) = cr at kd tok uok
  obtain ⟨Y, hY⟩ := repr_b (u.val cr x y)
  obtain ⟨Z, hZ⟩ := repr_b (u.val cr 0 y)
  have f1 : ∀ vh, Dworth 9 [t.enc, .dct cr, .int x, .int y] vh = .ok (.int (t.val cr x y)) vh := fun vh => worth_ok x0 (by omega) y0 (by omega) 9 t td tl tok
  have f2 : ∀ vh, Dlworth 9 [t.enc, .dct cr, .int x, .int y] vh = .ok (.int (t.val cr x y)) vh := fun vh => lworth_ok x0 (by omega) y0 (by omega) 9 t td tl tok
  have f3 : ∀ vh, Dworth 9 [t.enc, .dct cr, .int 0, .int 0] vh = .ok (.int (t.val cr 0 0)) vh := fun vh => worth_ok (by omega) (by omega) (by omega) (by omega) 9 t td tl tok
  have f4 : ∀ vh, Dlworth 9 [t.enc, .dct cr, .int 0, .int 0] vh = .ok (.int (t.val cr 0 0)) vh := fun vh => lworth_ok (by omega) (by omega) (by omega) (by omega) 9 t td tl tok
  have g1 : ∀ vh, Dholds 5 [u.enc, .dct cr, .int x, .int y] vh = .ok (.bl (u.val cr x y)) vh := fun vh => holds_ok x0 (by omega) y0 (by omega) 5 u ud uf uok
  have g2 : ∀ vh, Dlholds 5 [u.enc, .dct cr, .int x, .int y] vh = .ok (.bl (u.val cr x y)) vh := fun vh => lholds_ok x0 (by omega) y0 (by omega) 5 u ud uf uok
  have g3 : ∀ vh, Dholds 5 [u.enc, .dct cr, .int 0, .int y] vh = .ok (.bl (u.val cr 0 y)) vh := fun vh => holds_ok (by omega) (by omega) y0 (by omega) 5 u ud uf uok
  have g4 : ∀ vh, Dlholds 5 [u.enc, .dct cr, .int 0, .int y] vh = .ok (.bl (u.val cr 0 y)) vh := fun vh => lholds_ok (by omega) (by omega) y0 (by omega) 5 u ud uf uok
  refine ⟨some (.int c), some (.dct cr), some (.int x), some (.int y), some (.int (t.val cr x y)), vh3, ?_, h3⟩
  simp only [F9] at e1
  simp only [F9, d__law_are_right_L1]
  simp [pLst, lims.2.2.1, ec, wipeS, e1, kd, e2, e3, f1, f2, f3, f4, g1, g2, g3, g4, hY, hZ, arrOf, pickAt]
noncomputable def Dright : Den := runD 11 (F9 d__law_are_right)
theorem right_ok (hg : ∀ s ∈ nm, GoodN s) (hl : nm.length ≤ 100) {t : Tm} {u : Te} (tw : t.wf nm) (tl : t.lv ≤ 50) (td : t.dp ≤ 9) (uw : u.wf nm) (u2 : u.k2) (uf : u.fit) (ud : u.dp ≤ 5) {b : Nat} {vh : VH} (h : BG vh0 vh n (b + 400)) :
    ∃ vh', Dright [.ref n, .lst (nm.map D.str), t.enc, u.enc] vh = .ok (.bl true) vh' ∧ BG vh0 vh' n b := by
  have tg := wf_gd hg t tw
  have ug := twf_gd hg u uw u2
  have k1 : ∀ vh, Dtxt 9 [t.enc] vh = .ok (.str (mkS t.tx)) vh := fun vh => txt_ok 9 t td tl (t.gd_shrt tg)
  have k2 : ∀ vh, Dshw 9 [t.enc] vh = .ok (.str (mkS t.tx)) vh := fun vh => shw_ok 9 t td tl (t.gd_shrt tg)
  have k3 : ∀ vh, Dttx 5 [u.enc] vh = .ok (.str (mkS u.tx)) vh := fun vh => ttx_ok 5 u ud (by omega) uf (u.gd_shrt ug)
  have k4 : ∀ vh, Dtsh 5 [u.enc] vh = .ok (.str (mkS u.tx)) vh := fun vh => tsh_ok 5 u ud (by omega) uf (u.gd_shrt ug)
  obtain ⟨sl2, vh2, e, b5, b6, b7, b8, b9, b4, rfl, h2⟩ := sLoop_inv (γ := gNm 4) (δ := F9 d__law_are_right_L1) (sl := slots 11 [.ref n, .lst (nm.map D.str), t.enc, u.enc]) (vh := vh) (items := rngI 0 3)
    (fun i s v => ∃ b5 b6 b7 b8 b9 b4, s = [some (.ref n), some (.lst (nm.map D.str)), some t.enc, some u.enc, b4, b5, b6, b7, b8, b9, none] ∧ BG vh0 v n (b + 103 * (3 - i)))
    ⟨none, none, none, none, none, none, rfl, h.mono (by omega)⟩ (by
    rintro i hi s v ⟨b5, b6, b7, b8, b9, b4, rfl, hb⟩
    have hi : i < 3 := by simpa [rngI] using hi
    have ei : (rngI 0 3)[i]'(by simpa [rngI] using hi) = .int i := by simp [rngI]
    obtain ⟨c5, c6, c7, c8, c9, vh', e, h'⟩ := again_ok hl tw tl td uw uf ud hi (b := b + 103 * (3 - (i + 1))) (hb.mono (by omega)) (a5 := b5) (a6 := b6) (a7 := b7) (a8 := b8) (a9 := b9)
    exact ⟨_, v, _, vh', by rw [ei]; rfl, e, c5, c6, c7, c8, c9, _, rfl, h'⟩)
  refine ⟨vh2, ?_, h2.mono (by omega)⟩
  simp only [F9] at e
  simp only [slots] at e
  simp at e
  simp only [Dright, F9, d__law_are_right]
  simp [slots, k1, k2, k3, k4, e]
end
end PM

namespace PM
open PySem L2
theorem str_cp {s : String} (h : (Str.ofString s).cps.toList.all (fun c => decide (c < 0x110000)) = true) : ∀ c ∈ (Str.ofString s).cps.toList, c < 0x110000 := fun c hc => of_decide_eq_true (List.all_eq_true.mp h c hc)
theorem cpS {k : Nat} (s : String) : Cp k (.str s) := .str fun c hc => by
  rw [PyProof.Rows.signs_ofString] at hc
  obtain ⟨ch, _, rfl⟩ := List.mem_map.mp hc
  have := ch.valid
  have : ch.toNat = ch.val.toNat := rfl
  rcases ch.valid with h | h
  · have : ch.val.toNat < 0xd800 := h
    omega
  · have : ch.val.toNat < 0x110000 := h.2
    omega
theorem tm_cp : ∀ (t : Tm) (k : Nat), t.gd → t.dp ≤ k → Cp k t.enc
  | .num i, k + 1, h, hd => .tup (.cons (cpS _) (.cons (.int i) .nil))
  | .box s, k + 1, h, hd => .tup (.cons (cpS _) (.cons (.str fun c hc => by have := h.az c hc; omega) .nil))
  | .asked, k + 1, h, hd => .tup (.cons (cpS _) .nil)
  | .told, k + 1, h, hd => .tup (.cons (cpS _) .nil)
  | .op n a b, k + 1, h, hd => by
    simp only [Tm.dp] at hd
    exact .tup (.cons (cpS _) (.cons (tm_cp a k h.2.1 (by omega)) (.cons (tm_cp b k h.2.2 (by omega)) .nil)))
  | t, 0, h, hd => by cases t <;> simp [Tm.dp] at hd
theorem te_cp : ∀ (t : Te) (k : Nat), t.gd → t.fit → t.dp ≤ k → Cp (k + 10) t.enc
  | .no a, k + 1, h, f, hd => by
    simp only [Te.dp] at hd
    have := te_cp a k h f (by omega)
    exact Cp.tup (k := k + 10) (.cons (cpS _) (.cons this .nil))
  | .jo n a b, k + 1, h, f, hd => by
    simp only [Te.dp] at hd
    have h1 := te_cp a k h.2.1 f.1 (by omega)
    have h2 := te_cp b k h.2.2 f.2 (by omega)
    exact Cp.tup (k := k + 10) (.cons (cpS _) (.cons h1 (.cons h2 .nil)))
  | .cm n a b, k + 1, h, f, hd => by
    have h1 := (tm_cp a 9 h.2.1 f.1.1).mono (l := k + 10) (by omega)
    have h2 := (tm_cp b 9 h.2.2 f.2.1).mono (l := k + 10) (by omega)
    exact Cp.tup (k := k + 10) (.cons (cpS _) (.cons h1 (.cons h2 .nil)))
  | t, 0, h, f, hd => by cases t <;> simp [Te.dp] at hd
/-- what the met ones are: each by its text -/
def Met (kvs : List (D × D)) : Prop := ∀ k d, dget kvs (.inr k) = some d → (∃ t : Tm, t.gd ∧ d = t.enc ∧ k = mkS t.tx) ∨ ∃ t : Te, t.gd ∧ d = t.enc ∧ k = mkS t.tx
theorem met_put {kvs : List (D × D)} (h : Met kvs) {x : Str} {d : D} (hd : (∃ t : Tm, t.gd ∧ d = t.enc ∧ x = mkS t.tx) ∨ ∃ t : Te, t.gd ∧ d = t.enc ∧ x = mkS t.tx) : Met (dput kvs (.str x) d) := by
  intro k e he
  rw [dget_put (z := .inr x) rfl] at he
  by_cases hk : x = k
  · subst hk
    simp at he
    subst he
    exact hd
  · rw [if_neg (by simpa using hk)] at he
    exact h k e he
theorem met_tm {kvs : List (D × D)} (h : Met kvs) {t : Tm} (g : t.gd) {d : D} (e : dget kvs (.inr (mkS t.tx)) = some d) : d = t.enc := by
  rcases h _ _ e with ⟨u, gu, rfl, hx⟩ | ⟨u, gu, rfl, hx⟩
  · rw [(tx_inj t u [] [] g gu trivial trivial (by rw [mkS_inj hx])).1]
  · exact (tm_te u t [] [] gu g (by rw [mkS_inj hx])).elim
theorem met_te {kvs : List (D × D)} (h : Met kvs) {t : Te} (g : t.gd) {d : D} (e : dget kvs (.inr (mkS t.tx)) = some d) : d = t.enc := by
  rcases h _ _ e with ⟨u, gu, rfl, hx⟩ | ⟨u, gu, rfl, hx⟩
  · exact (tm_te t u [] [] g gu (by rw [mkS_inj hx])).elim
  · rw [(te_inj t u [] [] g gu (by rw [mkS_inj hx])).1]
/-- a setdefault of a text and its data: told is these data -/
theorem setd_ok {vh : VH} {m : Nat} {kvs : List (D × D)} {x : Str} {d : D} (hm : vh[m]? = some (.dct kvs)) (hl : kvs.length < 1000000) (hu : ∀ e, dget kvs (.inr x) = some e → e = d) :
    ∃ kvs', dSetd (.ref m) (.str x) d vh = .ok (.v d) (vh.set m (.dct kvs')) ∧ (kvs' = kvs ∨ kvs' = dput kvs (.str x) d) := by
  have h1 : kvs.length < lim := lt_lim (by omega)
  simp only [dSetd, hm, keyD, if_pos h1]
  cases e : dget kvs (.inr x) with
  | none => exact ⟨_, rfl, .inr rfl⟩
  | some v =>
    rw [hu v e]
    refine ⟨kvs, ?_, .inl rfl⟩
    have : vh.set m (.dct kvs) = vh := by
      apply List.ext_getElem?
      intro i
      by_cases hi : m = i
      · subst hi
        have hlt := (List.getElem?_eq_some_iff.mp hm).1
        rw [List.getElem?_set_self hlt, hm]
      · rw [List.getElem?_set_ne hi]
    rw [this]
noncomputable abbrev F8 (φ : Den → Den → Den → Den → Den → Den → Den → Den → α) : α := φ (Dttx 5) (Dtxt 9) Dright (Dtest 5) Dtake (Dterm 6) Dnames (runD 5 d__law_bag)
end PM

namespace PM
open PySem L2
theorem tm_tup (t : Tm) : ∃ xs, t.enc = .tup xs := by cases t <;> exact ⟨_, rfl⟩
theorem te_tup (t : Te) : ∃ xs, t.enc = .tup xs := by cases t <;> exact ⟨_, rfl⟩
theorem one_ok {vh : VH} {m : Nat} {kvs : List (D × D)} {x : Str} {xs : List D} (hm : vh[m]? = some (.dct kvs)) (hl : kvs.length < 1000000) (hu : ∀ e, dget kvs (.inr x) = some e → e = .tup xs) (hc : Cp 64 (.tup xs))
    (hp : Met kvs) (hp2 : Met (dput kvs (.str x) (.tup xs))) {a0 a1 a2 a3 a5 a6 a7 a8 : Option D} :
    ∃ kvs', F8 d_law_L1 [a0, a1, a2, a3, some (.ref m), a5, a6, a7, a8, some (.tup xs), some (.str x)] vh = .nx [a0, a1, a2, a3, some (.ref m), a5, a6, a7, a8, some (.tup xs), some (.str x)] (vh.set m (.dct kvs')) ∧ Met kvs' ∧ kvs'.length ≤ kvs.length + 1 := by
  obtain ⟨kvs', e, h'⟩ := setd_ok (d := .tup xs) hm hl hu
  refine ⟨kvs', ?_, ?_, ?_⟩
  · have hd : isDctR vh (.ref m) = true := by simp [isDctR, hm]
    simp only [F8, d_law_L1]
    simp [eSetd, hd, e, ne_tup hc]
  · rcases h' with rfl | rfl
    · exact hp
    · exact hp2
  · rcases h' with rfl | rfl
    · omega
    · exact dput_len _ _ _
theorem bset {vh : VH} {n m b : Nat} {o : O} (h : BagAt vh n b) (hi : m ≠ n) : BagAt (vh.set m o) n b := h.set hi
theorem turn_ok {nm : List Str} (hg : ∀ s ∈ nm, GoodN s) (hn : nm ≠ []) (hl : nm.length ≤ 100) {n m b : Nat} (hnm : m ≠ n) {vh : VH} {kvs : List (D × D)} (h : BagAt vh n (b + 1000)) (hm : vh[m]? = some (.dct kvs)) (hp : Met kvs) (hk : kvs.length < 100000)
    {a0 a1 a5 a6 a7 a8 a9 a10 : Option D} : ∃ (b6 b7 b8 b9 b10 : Option D) (vh' : VH) (kvs' : List (D × D)), F8 d_law_L2 [a0, a1, some (.ref n), some (.lst (nm.map D.str)), some (.ref m), a5, a6, a7, a8, a9, a10] vh =
      .nx [a0, a1, some (.ref n), some (.lst (nm.map D.str)), some (.ref m), a5, b6, b7, b8, b9, b10] vh' ∧ BagAt vh' n b ∧ vh'[m]? = some (.dct kvs') ∧ Met kvs' ∧ kvs'.length ≤ kvs.length + 2 := by
  have hb := BG.of h
  obtain ⟨q, vh1, e1, q0, q1, h1⟩ := take_ok (m := 16) (b := b + 900) (hb.mono (by omega)) (by omega) (by omega)
  obtain ⟨r, vh2, e2, r0, r1, h2⟩ := take_ok (m := 5) (b := b + 899) (h1.mono (by omega)) (by omega) (by omega)
  obtain ⟨t, vh3, e3, t1, t2, t3, h3⟩ := term_ok hn hl 5 (1 + r) (1 + q) (b + 700) vh2 (by omega) (by omega) (by omega) (h2.mono (by omega))
  obtain ⟨r', vh4, e4, r0', r1', h4⟩ := take_ok (m := 4) (b := b + 699) (h3.mono (by omega)) (by omega) (by omega)
  obtain ⟨w, hw, w0, w1⟩ : ∃ w : Int, (if 1 + q > 3 then 1 + q else 3) = w ∧ 3 ≤ w ∧ w ≤ 16 := ⟨_, rfl, by split <;> omega, by split <;> omega⟩
  obtain ⟨u, vh5, e5, u1, u2, u3, u4, h5⟩ := test_ok hn hl 4 (2 + r') w (b + 400) vh4 (by omega) (by omega) w0 w1 (h4.mono (by omega))
  obtain ⟨vh6, e6, h6⟩ := right_ok hg hl t1 (by omega) (by omega) u1 u2 u3 u4 (b := b) h5
  have tg := wf_gd hg t t1
  have ug := twf_gd hg u u1 u2
  have k1 : ∀ vh, Dtxt 9 [t.enc] vh = .ok (.str (mkS t.tx)) vh := fun vh => txt_ok 9 t (by omega) (by omega) (t.gd_shrt tg)
  have k3 : ∀ vh, Dttx 5 [u.enc] vh = .ok (.str (mkS u.tx)) vh := fun vh => ttx_ok 5 u u4 (by omega) u3 (u.gd_shrt ug)
  have hm6 : vh6[m]? = some (.dct kvs) := (h6.2.2 m hnm).trans hm
  obtain ⟨xs, ex⟩ := tm_tup t
  obtain ⟨ys, ey⟩ := te_tup u
  have ct : Cp 64 (.tup xs) := by rw [← ex]; exact (tm_cp t 9 tg (by omega)).mono (by omega)
  have cu : Cp 64 (.tup ys) := by rw [← ey]; exact (te_cp u 9 ug u3 (by omega)).mono (by omega)
  obtain ⟨kv1, f1, p1, l1⟩ := one_ok (a0 := a0) (a1 := a1) (a2 := some (.ref n)) (a3 := some (.lst (nm.map D.str))) (a5 := a5) (a6 := some (.int (1 + q))) (a7 := some t.enc) (a8 := some u.enc) (x := mkS t.tx) hm6 (by omega) (fun e he => by rw [← ex]; exact met_tm hp tg he) ct hp (by rw [← ex]; exact met_put hp (.inl ⟨t, tg, rfl, rfl⟩))
  have hlt : m < vh6.length := (List.getElem?_eq_some_iff.mp hm6).1
  have hm7 : (vh6.set m (.dct kv1))[m]? = some (.dct kv1) := List.getElem?_set_self hlt
  obtain ⟨kv2, f2, p2, l2⟩ := one_ok (a0 := a0) (a1 := a1) (a2 := some (.ref n)) (a3 := some (.lst (nm.map D.str))) (a5 := a5) (a6 := some (.int (1 + q))) (a7 := some t.enc) (a8 := some u.enc) (x := mkS u.tx) hm7 (by omega) (fun e he => by rw [← ey]; exact met_te p1 ug he) cu p1 (by rw [← ey]; exact met_put p1 (.inr ⟨u, ug, rfl, rfl⟩))
  refine ⟨some (.int (1 + q)), some t.enc, some u.enc, some (.tup ys), some (.str (mkS u.tx)), (vh6.set m (.dct kv1)).set m (.dct kv2), kv2, ?_, (h6.1.set hnm).set hnm, List.getElem?_set_self (by simpa using hlt), p2, by omega⟩
  simp only [F8] at f1 f2
  rw [← ex] at f1
  rw [← ey] at f2
  simp only [F8, d_law_L2]
  have hw' : bMax (.int 3) (.int (1 + q)) = some (.v (.int w)) := by rw [b_max, hw]
  simp [e1, e2, e3, hw', e4, e5, e6, truD, k1, k3, pTup, pLst, lims.2.1, sLoop, f1, f2, gUnp]
  exact ey
end PM

namespace PM
open PySem L2
theorem bag_key (c : Int) {i : Nat} (hi : i < 100) : 0 ≤ (if c < 0 then -c else c) * (if 1000000000000000000 ≤ (if c < 0 then -c else c) then 1 else 0) ∧
    0 ≤ c % 1000000000000000003 + 7727 * i * i + 31 * i ∧ c % 1000000000000000003 + 7727 * i * i + 31 * i < 2 ^ 70 := by
  refine ⟨?_, ?_, ?_⟩
  · refine Int.mul_nonneg (by split <;> omega) (by split <;> omega)
  · have a := Int.emod_nonneg c (show (1000000000000000003 : Int) ≠ 0 by decide)
    have b : (0 : Int) ≤ 7727 * i * i := Int.mul_nonneg (by omega) (by omega)
    omega
  · have a := Int.emod_lt_of_pos c (show (0 : Int) < 1000000000000000003 by decide)
    have b : (7727 : Int) * i * i ≤ 1000000 * 100 := Int.mul_le_mul (by omega) (by omega) (by omega) (by omega)
    omega
noncomputable def Dbag : Den := runD 4 d__law_bag
theorem bag_ok {ns : List Int} {i : Nat} {vh : VH} (hi : i < 100) : ∃ o, Dbag [.scr ns, .int i] vh = .ok (.ref vh.length) (vh ++ [o]) ∧ BagAt (vh ++ [o]) vh.length (2 ^ 40) := by
  have fin : ∀ c : Int, BagAt (vh ++ [O.lst [.int ((if c < 0 then -c else c) * (if 1000000000000000000 ≤ (if c < 0 then -c else c) then 1 else 0)), .int (c % 1000000000000000003 + 7727 * i * i + 31 * i), .int 0]]) vh.length (2 ^ 40) := by
    intro c
    obtain ⟨a, b, d⟩ := bag_key c hi
    exact ⟨_, _, 0, by simp, a, b, d, by omega, by omega⟩
  have k1 : ∀ c : Int, mulOk (if c < 0 then -c else c) (if 1000000000000000000 ≤ (if c < 0 then -c else c) then 1 else 0) = true := fun c => mulOk_r (by generalize (if c < 0 then -c else c) = z; split <;> decide)
  have k2 : mulOk 7727 i = true := mulOk_l (by decide)
  have k3 : mulOk (7727 * i) i = true := mulOk_r (by omega)
  have k4 : mulOk 31 i = true := mulOk_l (by decide)
  have k0 : mulOk 4409 i = true := mulOk_l (by decide)
  have k5 : powOk 10 18 = true := powOk_of (k := 10) (by decide) (by decide) (by decide) (by decide)
  have k6 : ∀ c : Int, opMod (.int c) (.int 1000000000000000003) = some (.v (.int (c % 1000000000000000003))) := fun c => o_mod (by decide)
  have l3 : (3 : Nat) ≤ lim := le_lim (by decide)
  by_cases h : i < ns.length
  · refine ⟨_, ?_, fin ns[i]⟩
    have e : pIx (.scr ns) (.int i) = some (.v (.int ns[i])) := by simp [pIx, atI_nat (i := (i : Int)) rfl h, h]
    simp [Dbag, d__law_bag, slots, h, e, o_mul k0, o_mul (k1 _), o_mul k2, o_mul k3, o_mul k4, o_pow k5, k6, pLst, l3]
  · refine ⟨_, ?_, fin (4409 * i + 23)⟩
    have k1 := k1 (4409 * i + 23)
    simp [Dbag, d__law_bag, slots, h, o_mul k0, o_mul k1, o_mul k2, o_mul k3, o_mul k4, o_pow k5, k6, pLst, l3]
noncomputable abbrev F8' (φ : Den → Den → Den → Den → Den → Den → Den → Den → α) : α := φ (Dttx 5) (Dtxt 9) Dright (Dtest 5) Dtake (Dterm 6) Dnames Dbag
theorem turn_ok' {nm : List Str} (hg : ∀ s ∈ nm, GoodN s) (hn : nm ≠ []) (hl : nm.length ≤ 100) {n m b : Nat} (hnm : m ≠ n) {vh : VH} {kvs : List (D × D)} (h : BagAt vh n (b + 1000)) (hm : vh[m]? = some (.dct kvs)) (hp : Met kvs) (hk : kvs.length < 100000)
    {a0 a1 a5 a6 a7 a8 a9 a10 : Option D} : ∃ (b6 b7 b8 b9 b10 : Option D) (vh' : VH) (kvs' : List (D × D)), F8' d_law_L2 [a0, a1, some (.ref n), some (.lst (nm.map D.str)), some (.ref m), a5, a6, a7, a8, a9, a10] vh =
      .nx [a0, a1, some (.ref n), some (.lst (nm.map D.str)), some (.ref m), a5, b6, b7, b8, b9, b10] vh' ∧ BagAt vh' n b ∧ vh'[m]? = some (.dct kvs') ∧ Met kvs' ∧ kvs'.length ≤ kvs.length + 2 :=
  turn_ok hg hn hl hnm h hm hp hk
theorem good4 : ∀ s ∈ ([Str.ofString "aske", Str.ofString "tolds", Str.ofString "nota", Str.ofString "ore"] : List Str), GoodN s := by
  intro s hs
  simp only [List.mem_cons, List.not_mem_nil, or_false] at hs
  rcases hs with rfl | rfl | rfl | rfl <;> exact ⟨by decide, by decide, by decide, by decide, by decide, by decide⟩
theorem met_nil : Met [] := fun k d h => by cases h
theorem outer_ok {ns : List Int} {i : Nat} (hi : i < 100) {vh : VH} {a1 a2 a3 a4 a5 a6 a7 a8 a9 a10 : Option D} :
    ∃ (sl' : Sl) (vh' : VH), F8' d_law_L3 [some (.scr ns), some (.int i), a2, a3, a4, a5, a6, a7, a8, a9, a10] vh = .nx sl' vh' ∧ ∃ b1 b2 b3 b4 b5 b6 b7 b8 b9 b10, sl' = [some (.scr ns), b1, b2, b3, b4, b5, b6, b7, b8, b9, b10] := by
  obtain ⟨o, e1, hb⟩ := bag_ok (ns := ns) (vh := vh) hi
  obtain ⟨nm, vh1, e2, n1, n2, h1⟩ := names_ok (b := 30000) ((BG.of hb).mono (by decide))
  have hadd : opAdd (.lst (nm.map D.str)) (.lst [.str "aske", .str "tolds", .str "nota", .str "ore"]) = some (.f (.lst ((nm ++ [Str.ofString "aske", Str.ofString "tolds", Str.ofString "nota", Str.ofString "ore"]).map D.str))) := by
    rw [o_addL, if_pos (le_lim (by simp; omega)), List.map_append]; rfl
  have hlen : vh1.length = vh.length + 1 := by rw [h1.2.1]; simp
  have hB : BagAt (vh1 ++ [.dct []]) vh.length (20 * 1000) := (h1.1.mono (by omega)).app
  obtain ⟨sl2, vh2, e, b5, b6, b7, b8, b9, b10, kvs, rfl, _⟩ := sLoop_inv (γ := gNm 5) (δ := F8' d_law_L2) (sl := [some (.scr ns), some (.int i), some (.ref vh.length), some (.lst ((nm ++ [Str.ofString "aske", Str.ofString "tolds", Str.ofString "nota", Str.ofString "ore"]).map D.str)), some (.ref vh1.length), a5, a6, a7, a8, a9, a10]) (vh := vh1 ++ [.dct []]) (items := rngI 0 20)
    (fun j s v => ∃ b5 b6 b7 b8 b9 b10 kvs, s = [some (.scr ns), some (.int i), some (.ref vh.length), some (.lst ((nm ++ [Str.ofString "aske", Str.ofString "tolds", Str.ofString "nota", Str.ofString "ore"]).map D.str)), some (.ref vh1.length), b5, b6, b7, b8, b9, b10] ∧
      BagAt v vh.length ((20 - j) * 1000) ∧ v[vh1.length]? = some (.dct kvs) ∧ Met kvs ∧ kvs.length ≤ 2 * j)
    ⟨a5, a6, a7, a8, a9, a10, [], rfl, hB, by simp, met_nil, by simp⟩ (by
    rintro j hj s v ⟨b5, b6, b7, b8, b9, b10, kvs, rfl, hb, hm, hp, hk⟩
    have hj : j < 20 := by simpa [rngI] using hj
    obtain ⟨c6, c7, c8, c9, c10, vh', kvs', e, h1', h2, h3, h4⟩ := turn_ok' (nm := nm ++ [Str.ofString "aske", Str.ofString "tolds", Str.ofString "nota", Str.ofString "ore"]) (by
        intro s hs
        rcases List.mem_append.mp hs with hs | hs
        · exact n2 s hs
        · exact good4 s hs) (by simp) (by simp; omega) (m := vh1.length) (n := vh.length) (by omega) (b := (20 - (j + 1)) * 1000) (hb.mono (by omega)) hm hp (by omega)
        (a0 := some (.scr ns)) (a1 := some (.int i)) (a5 := some ((rngI 0 20)[j])) (a6 := b6) (a7 := b7) (a8 := b8) (a9 := b9) (a10 := b10)
    exact ⟨_, v, _, vh', rfl, e, _, c6, c7, c8, c9, c10, kvs', rfl, h1', h2, h3, by omega⟩)
  refine ⟨[some (.scr ns), some (.int i), some (.ref vh.length), some (.lst ((nm ++ [Str.ofString "aske", Str.ofString "tolds", Str.ofString "nota", Str.ofString "ore"]).map D.str)), some (.ref vh1.length), b5, b6, b7, b8, b9, b10], vh2, ?_, _, _, _, _, _, _, _, _, _, _, rfl⟩
  simp only [F8'] at e
  simp only [F8', d_law_L3]
  simp [e1, e2, pLst, lims.2.2.2.1, hadd]
  simpa using e
noncomputable def Dlaw : Den := runD 11 (F8' d_law)
theorem law_ok (ns : List Int) (hl : ns.length ≤ 63) : ∃ vh', Dlaw [.scr ns] [] = .ok (.bl true) vh' := by
  obtain ⟨w, hw⟩ : ∃ w : Int, (if (ns.length : Int) < 3 then (ns.length : Int) else 3) = w := ⟨_, rfl⟩
  obtain ⟨m, hm, hm0, hm1⟩ : ∃ m : Int, (if w > 2 then w else 2) = m ∧ 0 ≤ m ∧ m ≤ 3 := ⟨_, rfl, by split <;> omega, by split <;> (split at hw <;> omega)⟩
  obtain ⟨sl2, vh2, e, _⟩ := sLoop_inv (γ := gNm 1) (δ := F8' d_law_L3) (sl := slots 11 [.scr ns]) (vh := []) (items := rngI 0 m.toNat) (fun _ s v => ∃ b1 b2 b3 b4 b5 b6 b7 b8 b9 b10, s = [some (.scr ns), b1, b2, b3, b4, b5, b6, b7, b8, b9, b10]) ⟨none, none, none, none, none, none, none, none, none, none, rfl⟩ (by
    rintro i hi s v ⟨b1, b2, b3, b4, b5, b6, b7, b8, b9, b10, rfl⟩
    have hi : i < m.toNat := by simpa [rngI] using hi
    have ei : (rngI 0 m.toNat)[i]'(by simpa [rngI] using hi) = .int i := by simp [rngI]
    obtain ⟨sl', vh', e, h'⟩ := outer_ok (ns := ns) (i := i) (by omega) (vh := v) (a1 := none) (a2 := b2) (a3 := b3) (a4 := b4) (a5 := b5) (a6 := b6) (a7 := b7) (a8 := b8) (a9 := b9) (a10 := b10)
    exact ⟨_, v, sl', vh', by rw [ei]; rfl, e, h'⟩)
  refine ⟨vh2, ?_⟩
  have b1 : m < 4611686018427387904 ∧ -4611686018427387904 ≤ m := by omega
  have es : slots 11 [.scr ns] = [some (.scr ns), none, none, none, none, none, none, none, none, none, none] := rfl
  rw [es] at e
  simp only [F8'] at e
  simp only [Dlaw, F8', d_law]
  have hmin : bMin (.int 3) (.int ns.length) = some (.v (.int w)) := by rw [b_min, hw]
  have hmax : bMax (.int 2) (.int w) = some (.v (.int m)) := by rw [b_max, hm]
  simp only [x_run, es, x_seq, x_for, x_rg1, x_e2, x_e1, x_con, x_v, x_var, vw_int, vw_scr, b_lenC, x_lift, List.getElem?_cons_zero, hmin, hmax]
  simp [b1, e]
end PM

namespace PM
open PySem L2
section
variable {W : Wd} {P : Program} {w : World} {mg : Str → Option Value} {base : Heap}
theorem fn_worth (o : Wo W w mg) : ∀ n, PFn W P w mg base (n + 2) o.a_worth o.fd_worth ["expression", "boxes", "asked", "told"] (Dworth n)
  | 0 => PFn.none
  | n + 1 => ok_worth o ((ok_made (k := 0) o).mono (by omega)) (fn_worth o n)
theorem fn_lworth (o : Wo W w mg) : ∀ n, PFn W P w mg base (n + 2) o.a__law_worth o.fd__law_worth ["_law_term", "_law_jars", "_law_wanted", "_law_said"] (Dlworth n)
  | 0 => PFn.none
  | n + 1 => ok__law_worth o (fn_lworth o n)
theorem fn_take (o : Wo W w mg) : PFn W P w mg base 1 o.a__law_take o.fd__law_take ["_law_bag_here", "_law_often"] Dtake := ok__law_take (k := 0) o
theorem fn_of (o : Wo W w mg) : PFn W P w mg base 2 o.a__law_of o.fd__law_of ["_law_bag_here", "_law_some"] Dof := ok__law_of o (fn_take o)
theorem fn_names (o : Wo W w mg) : PFn W P w mg base 3 o.a__law_names o.fd__law_names ["_law_bag_here", "_law_often"] Dnames := ok__law_names (k := 2) o ((fn_take o).mono (by omega)) (fn_of o)
theorem fn_holds (o : Wo W w mg) : ∀ n, PFn W P w mg base (n + 11) o.a_holds o.fd_holds ["test", "boxes", "asked", "told"] (Dholds n)
  | 0 => PFn.none
  | n + 1 => ok_holds o ((fn_worth o 9).mono (by omega)) (fn_holds o n)
theorem fn_lholds (o : Wo W w mg) : ∀ n, PFn W P w mg base (n + 11) o.a__law_holds o.fd__law_holds ["_law_test", "_law_jars", "_law_wanted", "_law_said"] (Dlholds n)
  | 0 => PFn.none
  | n + 1 => ok__law_holds o ((fn_lworth o 9).mono (by omega)) (fn_lholds o n)
theorem fn_txt (o : Wo W w mg) : ∀ n, PFn W P w mg base (n + 1) o.a_expression_text o.fd_expression_text ["expression"] (Dtxt n)
  | 0 => PFn.none
  | n + 1 => ok_expression_text o (fn_txt o n)
theorem fn_shw (o : Wo W w mg) : ∀ n, PFn W P w mg base (n + 1) o.a__law_term_shown o.fd__law_term_shown ["_law_term"] (Dshw n)
  | 0 => PFn.none
  | n + 1 => ok__law_term_shown o (fn_shw o n)
theorem fn_ttx (o : Wo W w mg) : ∀ n, PFn W P w mg base (n + 11) o.a_test_text o.fd_test_text ["test"] (Dttx n)
  | 0 => PFn.none
  | n + 1 => ok_test_text o (fn_ttx o n) ((fn_txt o 9).mono (by omega))
theorem fn_tsh (o : Wo W w mg) : ∀ n, PFn W P w mg base (n + 11) o.a__law_test_shown o.fd__law_test_shown ["_law_test"] (Dtsh n)
  | 0 => PFn.none
  | n + 1 => ok__law_test_shown o ((fn_shw o 9).mono (by omega)) (fn_tsh o n)
theorem fn_term (o : Wo W w mg) : ∀ n, PFn W P w mg base (n + 3) o.a__law_deep_term o.fd__law_deep_term ["_law_bag_here", "_law_names_here", "_law_most", "_law_deep"] (Dterm n)
  | 0 => PFn.none
  | n + 1 => ok__law_deep_term o (fn_term o n) ((fn_of o).mono (by omega)) ((fn_take o).mono (by omega))
theorem fn_test (o : Wo W w mg) : ∀ n, PFn W P w mg base (n + 10) o.a__law_deep_test o.fd__law_deep_test ["_law_bag_here", "_law_names_here", "_law_most", "_law_deep"] (Dtest n)
  | 0 => PFn.none
  | n + 1 => ok__law_deep_test o ((fn_term o 6).mono (by omega)) ((fn_take o).mono (by omega)) (fn_test o n)
theorem fn_right (o : Wo W w mg) : PFn W P w mg base 17 o.a__law_are_right o.fd__law_are_right ["_law_bag_here", "_law_names_here", "_law_term", "_law_test"] Dright :=
  ok__law_are_right (k := 16) o (fn_holds o 5) (fn_lholds o 5) ((fn_worth o 9).mono (by omega)) ((fn_lworth o 9).mono (by omega)) ((fn_take o).mono (by omega)) ((fn_txt o 9).mono (by omega)) ((fn_shw o 9).mono (by omega)) (fn_ttx o 5) (fn_tsh o 5)
theorem fn_law (o : Wo W w mg) : PFn W P w mg base 18 o.a_law o.fd_law ["_law_script"] Dlaw :=
  ok_law (k := 17) o ((fn_ttx o 5).mono (by omega)) ((fn_txt o 9).mono (by omega)) (fn_right o) ((fn_test o 5).mono (by omega)) ((fn_take o).mono (by omega)) ((fn_term o 6).mono (by omega)) ((fn_names o).mono (by omega)) ((ok__law_bag (k := 0) o).mono (by omega))
end
end PM

namespace PM
open PySem L2
def loose : List PySem.Str := ((["__name__", "SIGNS", "TEST_SIGNS", "expression_text", "test_text", "JOINTS", "made", "worth", "holds", "_law_bag", "_law_take", "_law_of", "_law_mixed", "_law_names", "_law_worth", "_law_holds", "_law_term_shown", "_law_test_shown", "_law_deep_term", "_law_deep_test", "_law_are_right"] : List PySem.Str))
abbrev Rw : PySem.W.OpenRow := PySem.W.OpenLaw.row PySem.Challenge.rw_anystore_k31_expressions_written
abbrev hk : PySem.W.Hook := He.hookX 4 faD fnD tsD [] exD
def obH (s : PySem.W.SharedT) : He.AlX := He.obsX 4 faD fnD tsD [] exD (HandSHeadRun.getT s)
theorem obH_eq (s : PySem.W.SharedT) : obH s = hk.obs s.abs := He.obsX_eq (HandSHeadRun.getT_eq s)
theorem run (w : World) : HandSHeadRun.RunEq Rw (PySem.W.view Rw.prog [23]) hk obH 8000 loose w := by
  refine PySem.W.byRow2 "special-get-raises" (P := fun w => HandSHeadRun.RunEq Rw (PySem.W.view Rw.prog [23]) hk obH 8000 loose w) (fun w => ?_) (fun w => ?_) w <;> intro os <;> kernel_rfl
end PM
open PySem PySem.W PySem.Calls PyProof.Rows
theorem PySem.Challenge.cw_anystore_k31_expressions_written_holds : PySem.Challenge.rw_anystore_k31_expressions_written.Holds := by
  w_on; o_law
  refine HandSHeadRun.head_any (r := OpenLaw.row PySem.Challenge.rw_anystore_k31_expressions_written) (q := view (OpenLaw.row PySem.Challenge.rw_anystore_k31_expressions_written).prog [23]) (H := PM.hk) (ob := PM.obH) (M := 8000)
    (loose := PM.loose) (d := HandSHeadRun.topDef (OpenLaw.row PySem.Challenge.rw_anystore_k31_expressions_written).prog 23) (kwd := []) PM.obH_eq
    (by kernel_rfl) (fun s => by kernel_rfl) PM.run (by kernel_rfl) (by kernel_rfl) (by kernel_rfl) (by rfl) (by first | assumption | decide +kernel) (by decide +kernel) ⟨rfl, rfl, rfl, rfl, rfl, by decide +kernel⟩ ?hw ?hc
  case hw => w_witness2
  case hc =>
    refine PM.law_walk (l := PySem.Challenge.rw_anystore_k31_expressions_written) (n := 63) (k := 18) (x := "_law_script") rfl (by decide) (by kernel_rfl) ⟨rfl, by decide, by decide⟩ ?F
    intro w mg fa h Y G hmg0
    obtain ⟨K, KX, c⟩ := Y
    obtain ⟨o⟩ := PM.wo_of KX G c
    have hmg : mg ("law" : PySem.Str) = some (.ref fa) := by
      have e : (HandSHeadRun.topDef (OpenLaw.row PySem.Challenge.rw_anystore_k31_expressions_written).prog 23).name = ("law" : PySem.Str) := by kernel_rfl
      rw [← e]
      exact hmg0
    have e := hmg.symm.trans o.g_law
    cases e
    have b := L2.FunD.bindsA (ps := ["_law_script"]) o.F_law fun _ _ _ _ _ _ us hl => match us, hl with | [_], _ => rfl
    exact ⟨⟨K, fun _ => 0, PM.clsOf K⟩, o.fd_law, _, KX, fun s u => b s [u] rfl, fun ns hl => PM.law_ok ns hl, fun base _ _ => PM.fn_law (W := ⟨K, fun _ => 0, PM.clsOf K⟩) o⟩
