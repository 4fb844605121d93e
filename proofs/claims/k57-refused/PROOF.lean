import PyProof.Rows.All
import Wide.All
import OpenK.AllK
import Wide.FinOn
import HandS.ForMost
import HandS.ForExc
import HandS.Lambda
import HandS.Wide
import HandS.Flow
import HandS.RaiseMore
import HandS.TupMul
import HandS.TupAny
import HandS.IsInst
import HandS.NoneIn
import HandS.Small
import HandS.Iter
import HandS.Style
import HandS.Defaults
import HandS.Ends
import HandS.HeadEnd
import PyProof.ReprLen
import KE.KUnpackStar
import HandS.FStr
import HandS.Zip
import HandS.SetKeys
import HandS.Text
import HandS.HeadHook1
import HandS.HeadHook2
import HandS.HeadHook3
import KE.DataEq
import HandS.OwnEq
import HandS.WordsExc
import HandS.SetBool
import HandS.Strs
import PyProof.InstNe
import HandS.ExcInit
import HandS.ExcField
import HandS.ExcIs
import HandS.TryMany
import KE.KExcInit
import KE.KExcIs
import KE.GoesEnum
import HandS.DictComp
import KE.DatumOrd
import HandS.SortKw
import HandS.Head0
import HandS.Head1
import HandS.Head2
import HandS.HeadHook4
import HandS.EndTab
import PySem.Challenge.RW_anystore_k57_ways_refused
set_option Elab.async false
set_option linter.all false
set_option maxRecDepth 100000
set_option maxHeartbeats 0
/-! PM1: structural values, virtual heap, the relation to HandS's heap. -/
namespace PM
open PySem L2

/-- what is frozen, where the objects of the virtual heap stand, how many they are -/
structure Gh where
  F : Addr → Prop
  m : Nat → Addr
  n : Nat
/-- values by structure; `ref n`: the n-th object of the virtual heap -/
inductive D where
  | non | bl (b : Bool) | int (i : Int) | str (x : Str)
  | tup (xs : List D) | lst (xs : List D) | dct (kvs : List (D × D)) | st (xs : List D)
  | ins (c : Nat) (fs : List (Str × D)) | ref (n : Nat) | fn (i : Nat) | cls (i : Nat) | ty (n : String)
  | scr (ns : List Int)
  | exc (a : Addr) (od : Option Addr) (c : Nat) (fs : List (Str × D))
  | obj | lam (f : Addr) (g : Gh) (H : Hp)
  deriving Inhabited
/-- mutable objects -/
inductive O where
  | lst (xs : List D) | dct (kvs : List (D × D)) | st (xs : List D) | ins (c : Nat) (fs : List (Str × D)) | tbl (P : Addr) (q : Str)
abbrev VH := List O
def O.toD : O → D
  | .lst xs => .lst xs | .dct kvs => .dct kvs | .st xs => .st xs | .ins c fs => .ins c fs | .tbl _ _ => .obj
/-- a reference is looked through -/
def view (vh : VH) : D → D
  | .ref n => match vh[n]? with | some o => o.toD | none => .ref n
  | d => d
def keyD : D → Option Key
  | .int i => some (.inl i) | .str x => some (.inr x) | _ => none

/-- what the law's text leaves: addresses of defs, classes -/
structure Wd where
  K : PySem.W.Frag
  fn : Nat → Addr
  cls : Nat → Addr
abbrev noH : Hp := fun _ => none
/-- what a lock does not touch -/
def stab : HO → Prop
  | .dK _ => False
  | .dT _ => False
  | .frz _ (.dK _) => False
  | .frz _ (.dT _) => False
  | _ => True
def TupF (W : Wd) (g : Gh) (H : Hp) (a : Addr) (vs : List V) : Prop := (g.F a ∧ H a = some (.tup vs)) ∨ SqT W.K noH a vs

structure Ext (g : Gh) (H : Hp) (g' : Gh) (H' : Hp) : Prop where
  F : ∀ a, g.F a → g'.F a
  m : ∀ i, i < g.n → g'.m i = g.m i
  n : g.n ≤ g'.n
  keep : ∀ a u, g.F a → stab u → H a = some u → H' a = some u
  dk : ∀ a ws, g.F a → Rd H a (.dK ws) → Rd H' a (.dK ws)
  dt : ∀ a ws, g.F a → Rd H a (.dT ws) → Rd H' a (.dT ws)
  ex : ∀ a q, H a = some (LamX.CodeO a q) → H' a = some (LamX.CodeO a q)
theorem Ext.refl (g : Gh) (H : Hp) : Ext g H g H := ⟨fun _ h => h, fun _ _ => rfl, Nat.le_refl _, fun _ _ _ _ h => h, fun _ _ _ h => h, fun _ _ _ h => h, fun _ _ h => h⟩
theorem Ext.trans {g H g1 H1 g2 H2} (a : Ext g H g1 H1) (b : Ext g1 H1 g2 H2) : Ext g H g2 H2 :=
  ⟨fun x h => b.F x (a.F x h), fun i h => (b.m i (Nat.lt_of_lt_of_le h a.n)).trans (a.m i h), Nat.le_trans a.n b.n,
   fun x u h p r => b.keep x u (a.F x h) p (a.keep x u h p r), fun x ws h e => b.dk x ws (a.F x h) (a.dk x ws h e), fun x ws h e => b.dt x ws (a.F x h) (a.dt x ws h e), fun x p e => b.ex x p (a.ex x p e)⟩

mutual
def Rep (W : Wd) (g : Gh) (H : Hp) : D → V → Prop
  | .non, v => v = .non
  | .bl b, v => v = .bl b
  | .int i, v => v = .int i
  | .str x, v => v = .str x
  | .ref n, v => n < g.n ∧ v = .ref (g.m n)
  | .fn i, v => v = .ref (W.fn i)
  | .cls i, v => v = .ref (W.cls i)
  | .ty n, v => v = .ty n
  | .tup xs, v => ∃ a vs, v = .ref a ∧ TupF W g H a vs ∧ Reps W g H xs vs
  | .lst xs, v => ∃ a vs, v = .ref a ∧ g.F a ∧ H a = some (.lst vs) ∧ Reps W g H xs vs
  | .scr ns, v => ∃ a, v = .ref a ∧ ((g.F a ∧ ∃ o, H a = some (.frz o (.lst (ns.map V.int)))) ∨ SqL W.K noH a (ns.map V.int))
  | .dct kvs, v => ∃ a ws, v = .ref a ∧ g.F a ∧ Rd H a (.dK ws) ∧ RepKV W g H kvs ws
  | .st xs, v => ∃ a S n, v = .ref a ∧ g.F a ∧ H a = some (.set S n) ∧ n = xs.length ∧ ∀ i, S i = xs.any (fun d => match d with | .int j => j == i | _ => false)
  | .ins c fs, v => ∃ a dx gs, v = .ref a ∧ g.F a ∧ H a = some (.ins (W.cls c) dx gs) ∧ RepFs W g H fs gs
  | .exc a od _ fs, v => v = .ref a ∧ (od = none → fs = []) ∧ ∀ d, od = some d → ∃ gs, g.F d ∧ H d = some (.xd gs) ∧ RepFs W g H fs gs
  | .obj, v => ∃ a, v = .ref a
  | .lam f g0 H0, v => v = .ref f ∧ Ext g0 H0 g H
def Reps (W : Wd) (g : Gh) (H : Hp) : List D → List V → Prop
  | [], vs => vs = []
  | x :: xs, vs => ∃ v r, vs = v :: r ∧ Rep W g H x v ∧ Reps W g H xs r
def RepKV (W : Wd) (g : Gh) (H : Hp) : List (D × D) → List (Key × V) → Prop
  | [], ws => ws = []
  | (k, d) :: r, ws => ∃ k' v s, ws = (k', v) :: s ∧ keyD k = some k' ∧ Rep W g H d v ∧ RepKV W g H r s
def RepFs (W : Wd) (g : Gh) (H : Hp) : List (Str × D) → List (Str × V) → Prop
  | [], ws => ws = []
  | (f, d) :: r, ws => ∃ v s, ws = (f, v) :: s ∧ Rep W g H d v ∧ RepFs W g H r s
end

section
variable {W : Wd} {g g' : Gh} {H H' : Hp}
mutual
theorem Rep.mono (e : Ext g H g' H') : ∀ (d : D) (v : V), Rep W g H d v → Rep W g' H' d v
  | .non, v, h => by simpa only [Rep] using h
  | .bl b, v, h => by simpa only [Rep] using h
  | .int i, v, h => by simpa only [Rep] using h
  | .str x, v, h => by simpa only [Rep] using h
  | .fn i, v, h => by simpa only [Rep] using h
  | .cls i, v, h => by simpa only [Rep] using h
  | .ty n, v, h => by simpa only [Rep] using h
  | .obj, v, h => by simpa only [Rep] using h
  | .lam f g0 H0, v, h => by
    simp only [Rep] at h ⊢
    exact ⟨h.1, h.2.trans e⟩
  | .ref n, v, h => by
    simp only [Rep] at h ⊢
    exact ⟨Nat.lt_of_lt_of_le h.1 e.n, by rw [e.m n h.1]; exact h.2⟩
  | .tup xs, v, h => by
    simp only [Rep] at h ⊢
    obtain ⟨a, vs, rfl, t, r⟩ := h
    refine ⟨a, vs, rfl, ?_, Reps.mono e xs vs r⟩
    rcases t with ⟨f, t⟩ | t
    · exact .inl ⟨e.F a f, e.keep a _ f trivial t⟩
    · exact .inr t
  | .lst xs, v, h => by
    simp only [Rep] at h ⊢
    obtain ⟨a, vs, rfl, f, t, r⟩ := h
    exact ⟨a, vs, rfl, e.F a f, e.keep a _ f trivial t, Reps.mono e xs vs r⟩
  | .scr ns, v, h => by
    simp only [Rep] at h ⊢
    obtain ⟨a, rfl, t⟩ := h
    refine ⟨a, rfl, ?_⟩
    rcases t with ⟨f, o, t⟩ | t
    · exact .inl ⟨e.F a f, o, e.keep a _ f trivial t⟩
    · exact .inr t
  | .dct kvs, v, h => by
    simp only [Rep] at h ⊢
    obtain ⟨a, ws, rfl, f, t, r⟩ := h
    exact ⟨a, ws, rfl, e.F a f, e.dk a _ f t, RepKV.mono e kvs ws r⟩
  | .st xs, v, h => by
    simp only [Rep] at h ⊢
    obtain ⟨a, S, n, rfl, f, t, r⟩ := h
    exact ⟨a, S, n, rfl, e.F a f, e.keep a _ f trivial t, r⟩
  | .ins c fs, v, h => by
    simp only [Rep] at h ⊢
    obtain ⟨a, dx, gs, rfl, f, t, r⟩ := h
    exact ⟨a, dx, gs, rfl, e.F a f, e.keep a _ f trivial t, RepFs.mono e fs gs r⟩
  | .exc a od c fs, v, h => by
    simp only [Rep] at h ⊢
    obtain ⟨h1, h2, h3⟩ := h
    refine ⟨h1, h2, fun d hd => ?_⟩
    obtain ⟨gs, f, t, r⟩ := h3 d hd
    exact ⟨gs, e.F d f, e.keep d _ f trivial t, RepFs.mono e fs gs r⟩
theorem Reps.mono (e : Ext g H g' H') : ∀ (ds : List D) (vs : List V), Reps W g H ds vs → Reps W g' H' ds vs
  | [], vs, h => by simpa only [Reps] using h
  | x :: xs, vs, h => by
    simp only [Reps] at h ⊢
    obtain ⟨v, r, rfl, h1, h2⟩ := h
    exact ⟨v, r, rfl, Rep.mono e x v h1, Reps.mono e xs r h2⟩
theorem RepKV.mono (e : Ext g H g' H') : ∀ (ds : List (D × D)) (vs : List (Key × V)), RepKV W g H ds vs → RepKV W g' H' ds vs
  | [], vs, h => by simpa only [RepKV] using h
  | (k, x) :: xs, vs, h => by
    simp only [RepKV] at h ⊢
    obtain ⟨k', v, r, rfl, h0, h1, h2⟩ := h
    exact ⟨k', v, r, rfl, h0, Rep.mono e x v h1, RepKV.mono e xs r h2⟩
theorem RepFs.mono (e : Ext g H g' H') : ∀ (ds : List (Str × D)) (vs : List (Str × V)), RepFs W g H ds vs → RepFs W g' H' ds vs
  | [], vs, h => by simpa only [RepFs] using h
  | (k, x) :: xs, vs, h => by
    simp only [RepFs] at h ⊢
    obtain ⟨v, r, rfl, h1, h2⟩ := h
    exact ⟨v, r, rfl, Rep.mono e x v h1, RepFs.mono e xs r h2⟩
end
end

/-- an object of the virtual heap stands at a -/
def ObjAt (W : Wd) (g : Gh) (H : Hp) (a : Addr) : O → Prop
  | .lst xs => ∃ vs, H a = some (.lst vs) ∧ Reps W g H xs vs
  | .dct kvs => ∃ ws, H a = some (.dK ws) ∧ RepKV W g H kvs ws
  | .st xs => ∃ S n, H a = some (.set S n) ∧ n = xs.length ∧ ∀ i, S i = xs.any (fun d => match d with | .int j => j == i | _ => false)
  | .ins c fs => ∃ dx gs, H a = some (.ins (W.cls c) dx gs) ∧ RepFs W g H fs gs
  | .tbl P q => a = P ∧ LamX.TabS H P q
theorem ObjAt.mono {W g H g' H' a o} (e : Ext g H g' H') (s : H' a = H a) (h : ObjAt W g H a o) : ObjAt W g' H' a o := by
  cases o with
  | lst xs => obtain ⟨vs, h1, h2⟩ := h; exact ⟨vs, s.trans h1, Reps.mono e _ _ h2⟩
  | dct kvs => obtain ⟨vs, h1, h2⟩ := h; exact ⟨vs, s.trans h1, RepKV.mono e _ _ h2⟩
  | st xs => obtain ⟨S, n, h1, h2⟩ := h; exact ⟨S, n, s.trans h1, h2⟩
  | ins c fs => obtain ⟨dx, gs, h1, h2⟩ := h; exact ⟨dx, gs, s.trans h1, RepFs.mono e _ _ h2⟩
  | tbl P q =>
    obtain ⟨rfl, ps, h1, h2, h3⟩ := h
    refine ⟨rfl, ps, s.trans h1, h2, fun pos cv hc => ?_⟩
    obtain ⟨c, e1, e2⟩ := h3 pos cv hc
    exact ⟨c, e1, e.ex _ _ e2⟩
theorem ObjAt.some {W g H a o} (h : ObjAt W g H a o) : H a ≠ none := by
  cases o with
  | lst xs => obtain ⟨vs, h1, h2⟩ := h; rw [h1]; exact fun e => by cases e
  | dct kvs => obtain ⟨vs, h1, h2⟩ := h; rw [h1]; exact fun e => by cases e
  | st xs => obtain ⟨S, n, h1, h2⟩ := h; rw [h1]; exact fun e => by cases e
  | ins c fs => obtain ⟨dx, gs, h1, h2⟩ := h; rw [h1]; exact fun e => by cases e
  | tbl P q => obtain ⟨rfl, ps, h1, h2, h3⟩ := h; rw [h1]; exact fun e => by cases e
theorem codeO_ne {u : HO} {a : Addr} {q : Str} (h : ∀ p, u ≠ .ext p) : u ≠ LamX.CodeO a q := fun z => h _ z
/-- nor is it a code object -/
theorem ObjAt.nx {W : Wd} {g : Gh} {H : Hp} {a : Addr} {o : O} (h : ObjAt W g H a o) : ∀ q, H a ≠ Option.some (LamX.CodeO a q) := by
  intro q e
  have key : ∀ u, H a = Option.some u → (∀ p, u ≠ .ext p) → False := fun u eu n => n _ (Option.some.inj (eu.symm.trans e))
  cases o with
  | lst xs => obtain ⟨vs, h1, h2⟩ := h; exact key _ h1 fun p e => by cases e
  | dct kvs => obtain ⟨vs, h1, h2⟩ := h; exact key _ h1 fun p e => by cases e
  | st xs => obtain ⟨S, n, h1, h2⟩ := h; exact key _ h1 fun p e => by cases e
  | ins c fs => obtain ⟨dx, gs, h1, h2⟩ := h; exact key _ h1 fun p e => by cases e
  | tbl P q => obtain ⟨rfl, ps, h1, h2, h3⟩ := h; exact key _ h1 fun p e => by cases e

/-- what the body has to leave as it was -/
structure Con where
  H0 : Hp
  Fr : Addr → Prop
  Pd : Addr → Prop
structure RelH (W : Wd) (C : Con) (g : Gh) (vh : VH) (H : Hp) : Prop where
  len : vh.length = g.n
  vh : ∀ (i : Nat) o, vh[i]? = some o → ObjAt W g H (g.m i) o
  inj : ∀ i j, i < g.n → j < g.n → g.m i = g.m j → i = j
  nf : ∀ i, i < g.n → ¬ g.F (g.m i)
  ff : ∀ a, g.F a → H a ≠ none
  fr : ∀ a, C.Fr a → H a = C.H0 a ∧ H a ≠ none
  nfr : ∀ i, i < g.n → ¬ C.Fr (g.m i)
  pd : ∀ a, C.Pd a → C.Fr a ∧ ¬ g.F a
def RelS (W : Wd) (g : Gh) (H : Hp) (sl : List (Option D)) (σ : St) : Prop :=
  sl.length = σ.length ∧ ∀ (i : Nat) d, sl[i]? = some (some d) → ∃ v, σ[i]? = some (some v) ∧ Rep W g H d v
theorem RelS.mono {W g H g' H' sl σ} (e : Ext g H g' H') (h : RelS W g H sl σ) : RelS W g' H' sl σ :=
  ⟨h.1, fun i d x => let ⟨v, a, b⟩ := h.2 i d x; ⟨v, a, Rep.mono e d v b⟩⟩
theorem RelS.set {W g H sl σ} {i : Nat} {d : D} {v : V} (h : RelS W g H sl σ) (r : Rep W g H d v) : RelS W g H (sl.set i (some d)) (σ.set i (some v)) := by
  refine ⟨by simpa using h.1, fun j e x => ?_⟩
  by_cases hj : i = j
  · subst hj
    have hl : i < sl.length := by
      have := (List.getElem?_eq_some_iff.mp x).1
      simpa using this
    rw [List.getElem?_set_self hl] at x
    cases x
    exact ⟨v, by rw [List.getElem?_set_self (by rw [← h.1]; exact hl)], r⟩
  · rw [List.getElem?_set_ne hj] at x
    obtain ⟨w, a, b⟩ := h.2 j e x
    exact ⟨w, by rw [List.getElem?_set_ne hj]; exact a, b⟩
/-- slots are forgotten -/
theorem RelS.weak {W g H sl sl' σ} (h : RelS W g H sl σ) (hl : sl'.length = sl.length) (w : ∀ (i : Nat) d, sl'[i]? = some (some d) → sl[i]? = some (some d)) : RelS W g H sl' σ :=
  ⟨hl.trans h.1, fun i d x => h.2 i d (w i d x)⟩

/-! ### results -/
/-- an exception: its class, its own fields -/
structure XV where
  cls : Nat
  fs : List (Str × D)
inductive R (α : Type) where
  | ok (a : α) (vh : VH)
  | exc (x : XV) (vh : VH)
  | bad
inductive EV where
  | v (d : D)
  | f (o : O)
def EV.d : EV → D
  | .v d => d
  | .f o => o.toD
abbrev Sl := List (Option D)
abbrev EF := Sl → VH → R EV
abbrev TF := Sl → VH → R Bool
abbrev Den := List D → VH → R D

def RepE (W : Wd) (C : Con) (g : Gh) (H : Hp) : EV → V → Prop
  | .v d, v => Rep W g H d v
  | .f o, v => ∃ p, v = .ref p ∧ ObjAt W g H p o ∧ ¬ g.F p ∧ (∀ i, i < g.n → g.m i ≠ p) ∧ ¬ C.Fr p
def XRep (W : Wd) (g : Gh) (H : Hp) (x : XV) (c : Value) (od : Option Addr) : Prop :=
  c = .ref (W.cls x.cls) ∧ match od with
    | none => x.fs = []
    | some d => ∃ gs, g.F d ∧ H d = some (.xd gs) ∧ RepFs W g H x.fs gs

def Gh.add (g : Gh) (p : Addr) : Gh := ⟨fun a => g.F a ∨ a = p, g.m, g.n⟩
def Gh.put (g : Gh) (p : Addr) : Gh := ⟨g.F, fun i => if i = g.n then p else g.m i, g.n + 1⟩
theorem Ext.add (g : Gh) (H : Hp) (p : Addr) : Ext g H (g.add p) H := ⟨fun _ h => .inl h, fun _ _ => rfl, Nat.le_refl _, fun _ _ _ _ h => h, fun _ _ _ h => h, fun _ _ _ h => h, fun _ _ h => h⟩
theorem Ext.putG (g : Gh) (H : Hp) (p : Addr) : Ext g H (g.put p) H :=
  ⟨fun _ h => h, fun i h => if_neg (Nat.ne_of_lt h), Nat.le_succ _, fun _ _ _ _ h => h, fun _ _ _ h => h, fun _ _ _ h => h, fun _ _ h => h⟩
section
variable {W : Wd} {C : Con} {g g' : Gh} {vh : VH} {H H' : Hp}
theorem RelH.add {p : Addr} {o : O} (h : RelH W C g vh H) (ho : ObjAt W g H p o) (np : ∀ i, i < g.n → g.m i ≠ p) (nfr : ¬ C.Fr p) : RelH W C (g.add p) vh H where
  len := h.len
  vh := fun i o e => (h.vh i o e).mono (Ext.add g H p) rfl
  inj := h.inj
  nf := fun i hi hh => hh.elim (h.nf i hi) (np i hi)
  ff := fun a ha => ha.elim (h.ff a) fun e => by rw [e]; exact ho.some
  fr := h.fr
  nfr := h.nfr
  pd := fun a ha => ⟨(h.pd a ha).1, fun f => f.elim (h.pd a ha).2 fun e => nfr (by rw [← e]; exact (h.pd a ha).1)⟩
theorem ObjAt.rep {p : Addr} {o : O} (ho : ObjAt W g H p o) (f : g.F p) : Rep W g H o.toD (.ref p) := by
  cases o with
  | lst xs => obtain ⟨vs, h1, h2⟩ := ho; simp only [O.toD, Rep]; exact ⟨p, vs, rfl, f, h1, h2⟩
  | dct kvs => obtain ⟨vs, h1, h2⟩ := ho; simp only [O.toD, Rep]; exact ⟨p, vs, rfl, f, .inl h1, h2⟩
  | st xs => obtain ⟨S, n, h1, h2⟩ := ho; simp only [O.toD, Rep]; exact ⟨p, S, n, rfl, f, h1, h2⟩
  | ins c fs => obtain ⟨dx, gs, h1, h2⟩ := ho; simp only [O.toD, Rep]; exact ⟨p, dx, gs, rfl, f, h1, h2⟩
  | tbl P q => simp only [O.toD, Rep]; exact ⟨p, rfl⟩
/-- what has come is frozen -/
theorem RepE.freeze {ev : EV} {v : V} (h : RelH W C g vh H) (r : RepE W C g H ev v) : ∃ g', RelH W C g' vh H ∧ Ext g H g' H ∧ Rep W g' H ev.d v := by
  cases ev with
  | v d => exact ⟨g, h, Ext.refl g H, r⟩
  | f o =>
    obtain ⟨p, rfl, ho, nf, np, nfr⟩ := r
    exact ⟨g.add p, h.add ho np nfr, Ext.add g H p, (ho.mono (Ext.add g H p) rfl).rep (.inr rfl)⟩
/-- .. or laid onto the virtual heap -/
theorem RelH.put {p : Addr} {o : O} (h : RelH W C g vh H) (ho : ObjAt W g H p o) (nf : ¬ g.F p) (np : ∀ i, i < g.n → g.m i ≠ p) (nfr : ¬ C.Fr p) : RelH W C (g.put p) (vh ++ [o]) H where
  len := by simp [Gh.put, h.len]
  vh := fun i q e => by
    by_cases hi : i < vh.length
    · rw [List.getElem?_append_left hi] at e
      have hi' : i ≠ g.n := by rw [← h.len]; omega
      show ObjAt W (g.put p) H (if i = g.n then p else g.m i) q
      rw [if_neg hi']
      exact (h.vh i q e).mono (Ext.putG g H p) rfl
    · rw [List.getElem?_append_right (by omega)] at e
      have h0 : i - vh.length = 0 := by
        have := (List.getElem?_eq_some_iff.mp e).1
        simpa using this
      rw [h0] at e
      cases e
      have hi' : i = g.n := by rw [← h.len]; omega
      show ObjAt W (g.put p) H (if i = g.n then p else g.m i) o
      rw [if_pos hi']
      exact ho.mono (Ext.putG g H p) rfl
  inj := fun i j hi hj e => by
    have hi : i < g.n + 1 := hi
    have hj : j < g.n + 1 := hj
    have e : (if i = g.n then p else g.m i) = (if j = g.n then p else g.m j) := e
    by_cases h1 : i = g.n
    · by_cases h2 : j = g.n
      · omega
      · rw [if_pos h1, if_neg h2] at e
        exact absurd e.symm (np j (by omega))
    · by_cases h2 : j = g.n
      · rw [if_neg h1, if_pos h2] at e
        exact absurd e (np i (by omega))
      · rw [if_neg h1, if_neg h2] at e
        exact h.inj i j (by omega) (by omega) e
  nf := fun i hi => by
    have hi : i < g.n + 1 := hi
    show ¬ g.F (if i = g.n then p else g.m i)
    by_cases h1 : i = g.n
    · rw [if_pos h1]; exact nf
    · rw [if_neg h1]; exact h.nf i (by omega)
  ff := h.ff
  fr := h.fr
  nfr := fun i hi => by
    have hi : i < g.n + 1 := hi
    show ¬ C.Fr (if i = g.n then p else g.m i)
    by_cases h1 : i = g.n
    · rw [if_pos h1]; exact nfr
    · rw [if_neg h1]; exact h.nfr i (by omega)
  pd := h.pd
/-- a new object stands at p (as yet nobody's) -/
theorem Ext.new {p : Addr} {u : HO} (h : RelH W C g vh H) (np : H p = none) : Ext g H g (upd H p u) := by
  have ne : ∀ a, g.F a → a ≠ p := fun a f e => h.ff a f (by rw [e]; exact np)
  exact ⟨fun _ x => x, fun _ _ => rfl, Nat.le_refl _, fun a w f _ r => by rw [upd_ne (ne a f)]; exact r, fun a w f r => by unfold Rd at r ⊢; rw [upd_ne (ne a f)]; exact r,
    fun a w f r => by unfold Rd at r ⊢; rw [upd_ne (ne a f)]; exact r, fun a q r => by rw [upd_ne fun z => by rw [z, np] at r; cases r]; exact r⟩
theorem RelH.mp (h : RelH W C g vh H) {i : Nat} (hi : i < g.n) : H (g.m i) ≠ none := by
  have : i < vh.length := by rw [h.len]; exact hi
  exact (h.vh i _ (List.getElem?_eq_getElem this)).some
theorem RelH.new {p : Addr} {u : HO} (h : RelH W C g vh H) (np : H p = none) : RelH W C g vh (upd H p u) where
  len := h.len
  vh := fun i o e => by
    have hi : i < g.n := by rw [← h.len]; exact (List.getElem?_eq_some_iff.mp e).1
    exact (h.vh i o e).mono (Ext.new h np) (upd_ne fun z => h.mp hi (by rw [z]; exact np))
  inj := h.inj
  nf := h.nf
  ff := fun a ha => by rw [upd_ne fun z => h.ff a ha (by rw [z]; exact np)]; exact h.ff a ha
  fr := fun a ha => by
    have h0 := h.fr a ha
    rw [upd_ne fun z => h0.2 (by rw [z]; exact np)]
    exact h0
  nfr := h.nfr
  pd := h.pd
theorem RelH.free {p : Addr} (h : RelH W C g vh H) (np : H p = none) : ¬ g.F p ∧ (∀ i, i < g.n → g.m i ≠ p) ∧ ¬ C.Fr p :=
  ⟨fun f => h.ff p f np, fun i hi e => h.mp hi (by rw [e]; exact np), fun f => (h.fr p f).2 np⟩
/-- the i-th object is written -/
theorem Ext.write {i : Nat} {u : HO} (h : RelH W C g vh H) (hi : i < g.n) : Ext g H g (upd H (g.m i) u) := by
  have ne : ∀ a, g.F a → a ≠ g.m i := fun a f e => h.nf i hi (by rw [← e]; exact f)
  exact ⟨fun _ x => x, fun _ _ => rfl, Nat.le_refl _, fun a w f _ r => by rw [upd_ne (ne a f)]; exact r, fun a w f r => by unfold Rd at r ⊢; rw [upd_ne (ne a f)]; exact r,
    fun a w f r => by unfold Rd at r ⊢; rw [upd_ne (ne a f)]; exact r, fun a q r => by
      have hv : i < vh.length := by rw [h.len]; exact hi
      rw [upd_ne fun z => (h.vh i _ (List.getElem?_eq_getElem hv)).nx q (by rw [← z]; exact r)]
      exact r⟩
theorem RelH.write {i : Nat} {u : HO} {o : O} (h : RelH W C g vh H) (hi : i < g.n) (ho : ObjAt W g (upd H (g.m i) u) (g.m i) o) : RelH W C g (vh.set i o) (upd H (g.m i) u) where
  len := by simpa using h.len
  vh := fun j q e => by
    by_cases hj : i = j
    · subst hj
      rw [List.getElem?_set_self (by rw [h.len]; exact hi)] at e
      cases e
      exact ho
    · rw [List.getElem?_set_ne hj] at e
      have hj' : j < g.n := by rw [← h.len]; exact (List.getElem?_eq_some_iff.mp e).1
      exact (h.vh j q e).mono (Ext.write h hi) (upd_ne fun z => hj (h.inj i j hi hj' z.symm))
  inj := h.inj
  nf := h.nf
  ff := fun a ha => by rw [upd_ne fun z => h.nf i hi (by rw [← z]; exact ha)]; exact h.ff a ha
  fr := fun a ha => by
    rw [upd_ne fun z => h.nfr i hi (by rw [← z]; exact ha)]
    exact h.fr a ha
  nfr := h.nfr
  pd := h.pd
end
end PM

/-! PM2: the judgements; expressions, tests, statements without loops and calls. -/
namespace PM
open PySem L2

structure Cz (W : Wd) (Wx : WX) (k : Nat) (X : Cx) : Prop where
  K : X.K = W.K
  calm : X.calm = true
  tk : Takes X Wx
  rm : Room k X.A
  gd : X.A.guards = some []
  own : PassesOwn (model X.prog X.w) X.A X.env X.xe
  nd : X.N.Nodup

def PostE (W : Wd) (C : Con) (Wx : WX) (g0 : Gh) (H0 : Hp) (σ : St) (sl : Sl) (r : R EV) (Q : VK) : Prop :=
  match r with
  | .bad => False
  | .ok e vh => ∀ g H v, RelH W C g vh H → RelS W g H sl σ → Ext g0 H0 g H → RepE W C g H e v → Q v H
  | .exc x vh => ∀ g H c od, RelH W C g vh H → RelS W g H sl σ → Ext g0 H0 g H → XRep W g H x c od → Wx c od σ H
def TDE (W : Wd) (C : Con) (Wx : WX) (φ : EF) : TE := fun σ H Q => ∃ g sl vh, RelH W C g vh H ∧ RelS W g H sl σ ∧ PostE W C Wx g H σ sl (φ sl vh) Q
def DE (W : Wd) (Wx : WX) (X : Cx) (e : Expr) (φ : EF) : Prop := ∀ C, PE X e (TDE W C Wx φ)

def PostT (W : Wd) (C : Con) (Wx : WX) (g0 : Gh) (H0 : Hp) (σ : St) (sl : Sl) (r : R Bool) (Q : Bool → Hp → Prop) : Prop :=
  match r with
  | .bad => False
  | .ok b vh => ∀ g H, RelH W C g vh H → RelS W g H sl σ → Ext g0 H0 g H → Q b H
  | .exc x vh => ∀ g H c od, RelH W C g vh H → RelS W g H sl σ → Ext g0 H0 g H → XRep W g H x c od → Wx c od σ H
def TDT (W : Wd) (C : Con) (Wx : WX) (φ : TF) : TT := fun σ H Q => ∃ g sl vh, RelH W C g vh H ∧ RelS W g H sl σ ∧ PostT W C Wx g H σ sl (φ sl vh) Q
def DT (W : Wd) (Wx : WX) (X : Cx) (e : Expr) (φ : TF) : Prop := ∀ C, PT X e (TDT W C Wx φ)

/-! ### combinators -/
def eb (φ : EF) (k : D → EF) : EF := fun sl vh => match φ sl vh with
  | .ok e vh' => k e.d sl vh'
  | .exc x vh' => .exc x vh'
  | .bad => .bad
def tb (φ : TF) (k : Bool → EF) : EF := fun sl vh => match φ sl vh with
  | .ok b vh' => k b sl vh'
  | .exc x vh' => .exc x vh'
  | .bad => .bad
def tbb (φ : TF) (k : Bool → TF) : TF := fun sl vh => match φ sl vh with
  | .ok b vh' => k b sl vh'
  | .exc x vh' => .exc x vh'
  | .bad => .bad
def ebt (φ : EF) (k : D → TF) : TF := fun sl vh => match φ sl vh with
  | .ok e vh' => k e.d sl vh'
  | .exc x vh' => .exc x vh'
  | .bad => .bad
def lift : Option EV → VH → R EV
  | some e, vh => .ok e vh
  | none, _ => .bad
def e1 (p : D → Option EV) (a : EF) : EF := eb a fun x _ vh => lift (p (view vh x)) vh
def e2 (p : D → D → Option EV) (a b : EF) : EF := eb a fun x => eb b fun y _ vh => lift (p (view vh x) (view vh y)) vh
def e3 (p : D → D → D → Option EV) (a b c : EF) : EF := eb a fun x => eb b fun y => eb c fun z _ vh => lift (p (view vh x) (view vh y) (view vh z)) vh
def eVar (i : Nat) : EF := fun sl vh => match sl[i]? with | some (some d) => .ok (.v d) vh | _ => .bad
def eCon (d : D) : EF := fun _ vh => .ok (.v d) vh

section
variable {W : Wd} {C : Con} {Wx : WX} {X : Cx} {g g0 : Gh} {H H0 : Hp} {σ : St} {sl : Sl} {vh : VH}

theorem TDE.bind {φ : EF} {k : D → EF} {Q : VK} (h : RelH W C g vh H) (hs : RelS W g H sl σ) (e0 : Ext g0 H0 g H) (q : PostE W C Wx g0 H0 σ sl (eb φ k sl vh) Q) :
    TDE W C Wx φ σ H (fun v1 H1 => ∃ g1 vh1 d1, RelH W C g1 vh1 H1 ∧ RelS W g1 H1 sl σ ∧ Ext g0 H0 g1 H1 ∧ Ext g H g1 H1 ∧ Rep W g1 H1 d1 v1 ∧ PostE W C Wx g0 H0 σ sl (k d1 sl vh1) Q) := by
  refine ⟨g, sl, vh, h, hs, ?_⟩
  unfold eb at q
  cases r : φ sl vh with
  | bad => rw [r] at q; exact q
  | ok e vh1 =>
    rw [r] at q
    intro g1 H1 v1 h1 s1 x1 r1
    obtain ⟨g2, h2, x2, r2⟩ := r1.freeze h1
    exact ⟨g2, vh1, e.d, h2, s1.mono x2, (e0.trans x1).trans x2, x1.trans x2, r2, q⟩
  | exc x vh1 =>
    rw [r] at q
    exact fun g1 H1 c od h1 s1 x1 r1 => q g1 H1 c od h1 s1 (e0.trans x1) r1
theorem TDE.bindT {φ : EF} {k : D → TF} {Q : Bool → Hp → Prop} (h : RelH W C g vh H) (hs : RelS W g H sl σ) (e0 : Ext g0 H0 g H) (q : PostT W C Wx g0 H0 σ sl (ebt φ k sl vh) Q) :
    TDE W C Wx φ σ H (fun v1 H1 => ∃ g1 vh1 d1, RelH W C g1 vh1 H1 ∧ RelS W g1 H1 sl σ ∧ Ext g0 H0 g1 H1 ∧ Ext g H g1 H1 ∧ Rep W g1 H1 d1 v1 ∧ PostT W C Wx g0 H0 σ sl (k d1 sl vh1) Q) := by
  refine ⟨g, sl, vh, h, hs, ?_⟩
  unfold ebt at q
  cases r : φ sl vh with
  | bad => rw [r] at q; exact q
  | ok e vh1 =>
    rw [r] at q
    intro g1 H1 v1 h1 s1 x1 r1
    obtain ⟨g2, h2, x2, r2⟩ := r1.freeze h1
    exact ⟨g2, vh1, e.d, h2, s1.mono x2, (e0.trans x1).trans x2, x1.trans x2, r2, q⟩
  | exc x vh1 =>
    rw [r] at q
    exact fun g1 H1 c od h1 s1 x1 r1 => q g1 H1 c od h1 s1 (e0.trans x1) r1
theorem TDT.bind {φ : TF} {k : Bool → EF} {Q : VK} (h : RelH W C g vh H) (hs : RelS W g H sl σ) (e0 : Ext g0 H0 g H) (q : PostE W C Wx g0 H0 σ sl (tb φ k sl vh) Q) :
    TDT W C Wx φ σ H (fun b H1 => ∃ g1 vh1, RelH W C g1 vh1 H1 ∧ RelS W g1 H1 sl σ ∧ Ext g0 H0 g1 H1 ∧ PostE W C Wx g0 H0 σ sl (k b sl vh1) Q) := by
  refine ⟨g, sl, vh, h, hs, ?_⟩
  unfold tb at q
  cases r : φ sl vh with
  | bad => rw [r] at q; exact q
  | ok b vh1 =>
    rw [r] at q
    exact fun g1 H1 h1 s1 x1 => ⟨g1, vh1, h1, s1, e0.trans x1, q⟩
  | exc x vh1 =>
    rw [r] at q
    exact fun g1 H1 c od h1 s1 x1 r1 => q g1 H1 c od h1 s1 (e0.trans x1) r1
theorem TDT.bindT {φ : TF} {k : Bool → TF} {Q : Bool → Hp → Prop} (h : RelH W C g vh H) (hs : RelS W g H sl σ) (e0 : Ext g0 H0 g H) (q : PostT W C Wx g0 H0 σ sl (tbb φ k sl vh) Q) :
    TDT W C Wx φ σ H (fun b H1 => ∃ g1 vh1, RelH W C g1 vh1 H1 ∧ RelS W g1 H1 sl σ ∧ Ext g0 H0 g1 H1 ∧ PostT W C Wx g0 H0 σ sl (k b sl vh1) Q) := by
  refine ⟨g, sl, vh, h, hs, ?_⟩
  unfold tbb at q
  cases r : φ sl vh with
  | bad => rw [r] at q; exact q
  | ok b vh1 =>
    rw [r] at q
    exact fun g1 H1 h1 s1 x1 => ⟨g1, vh1, h1, s1, e0.trans x1, q⟩
  | exc x vh1 =>
    rw [r] at q
    exact fun g1 H1 c od h1 s1 x1 r1 => q g1 H1 c od h1 s1 (e0.trans x1) r1
/-- from a Post at another base -/
theorem PostE.at {r : R EV} {Q : VK} (h : RelH W C g vh H) (hs : RelS W g H sl σ) (e0 : Ext g0 H0 g H) (q : PostE W C Wx g0 H0 σ sl r Q) : PostE W C Wx g H σ sl r Q := by
  cases r with
  | bad => exact q
  | ok e vh1 => exact fun g1 H1 v h1 s1 x1 r1 => q g1 H1 v h1 s1 (e0.trans x1) r1
  | exc x vh1 => exact fun g1 H1 c od h1 s1 x1 r1 => q g1 H1 c od h1 s1 (e0.trans x1) r1
theorem TDE.go {φ : EF} {Q : VK} (h : RelH W C g vh H) (hs : RelS W g H sl σ) (e0 : Ext g0 H0 g H) (q : PostE W C Wx g0 H0 σ sl (φ sl vh) Q) : TDE W C Wx φ σ H Q := ⟨g, sl, vh, h, hs, q.at h hs e0⟩
theorem TDT.go {φ : TF} {Q : Bool → Hp → Prop} (h : RelH W C g vh H) (hs : RelS W g H sl σ) (e0 : Ext g0 H0 g H) (q : PostT W C Wx g0 H0 σ sl (φ sl vh) Q) : TDT W C Wx φ σ H Q := by
  refine ⟨g, sl, vh, h, hs, ?_⟩
  cases r : φ sl vh with
  | bad => rw [r] at q; exact q
  | ok e vh1 => rw [r] at q; exact fun g1 H1 h1 s1 x1 => q g1 H1 h1 s1 (e0.trans x1)
  | exc x vh1 => rw [r] at q; exact fun g1 H1 c od h1 s1 x1 r1 => q g1 H1 c od h1 s1 (e0.trans x1) r1
theorem TDE.mono {φ : EF} {Q Q' : VK} (t : TDE W C Wx φ σ H Q) (m : ∀ v H, Q v H → Q' v H) : TDE W C Wx φ σ H Q' := by
  obtain ⟨g, sl, vh, h, hs, q⟩ := t
  refine ⟨g, sl, vh, h, hs, ?_⟩
  cases r : φ sl vh with
  | bad => rw [r] at q; exact q
  | ok e vh1 => rw [r] at q; exact fun g1 H1 v h1 s1 x1 r1 => m _ _ (q g1 H1 v h1 s1 x1 r1)
  | exc x vh1 => rw [r] at q; exact q
theorem TDT.mono {φ : TF} {Q Q' : Bool → Hp → Prop} (t : TDT W C Wx φ σ H Q) (m : ∀ v H, Q v H → Q' v H) : TDT W C Wx φ σ H Q' := by
  obtain ⟨g, sl, vh, h, hs, q⟩ := t
  refine ⟨g, sl, vh, h, hs, ?_⟩
  cases r : φ sl vh with
  | bad => rw [r] at q; exact q
  | ok e vh1 => rw [r] at q; exact fun g1 H1 h1 s1 x1 => m _ _ (q g1 H1 h1 s1 x1)
  | exc x vh1 => rw [r] at q; exact q
/-- a weaker reading is enough -/
theorem pe_imp {e : Expr} {t t' : TE} (h : PE X e t) (i : ∀ σ H Q, t' σ H Q → t σ H Q) : PE X e t' := ⟨fun pins s σ H Q I q => h.run pins s σ H Q I (i σ H Q q)⟩
theorem pt_imp {e : Expr} {t t' : TT} (h : PT X e t) (i : ∀ σ H Q, t' σ H Q → t σ H Q) : PT X e t' := ⟨fun pins s σ H Q I q => h.run pins s σ H Q I (i σ H Q q)⟩
theorem ps_imp {st : Stmt} {t t' : TS} (h : PS X st t) (i : ∀ D σ H, t' D σ H → t D σ H) : PS X st t' := ⟨fun pins s σ H D I q => h.run pins s σ H D I (i D σ H q)⟩
theorem pss_imp {st : List Stmt} {t t' : TS} (h : PSs X st t) (i : ∀ D σ H, t' D σ H → t D σ H) : PSs X st t' := ⟨fun pins s σ H D I q => h.run pins s σ H D I (i D σ H q)⟩

/-! ### values seen -/
def RepW (W : Wd) (g : Gh) (H : Hp) (d : D) (v : V) : Prop := Rep W g H d v ∨ ∃ o a, d = O.toD o ∧ v = .ref a ∧ ObjAt W g H a o
theorem RelH.view (h : RelH W C g vh H) {d : D} {v : V} (r : Rep W g H d v) : RepW W g H (view vh d) v := by
  cases d with
  | ref n =>
    simp only [Rep] at r
    obtain ⟨hn, rfl⟩ := r
    have hl : n < vh.length := by rw [h.len]; exact hn
    have e : PM.view vh (.ref n) = (vh[n]).toD := by simp only [PM.view, List.getElem?_eq_getElem hl]
    rw [e]
    exact .inr ⟨_, _, rfl, rfl, h.vh n _ (List.getElem?_eq_getElem hl)⟩
  | _ => exact .inl r
theorem RepW.mono {g' : Gh} {H' : Hp} {d : D} {v : V} (e : Ext g H g' H') (r : Rep W g H d v) : RepW W g' H' d v := .inl (Rep.mono e d v r)
theorem RepW.int {i : Int} {v : V} (r : RepW W g H (.int i) v) : v = .int i := by
  rcases r with r | ⟨o, a, e, _⟩
  · simpa only [Rep] using r
  · cases o <;> cases e
theorem RepW.str {i : Str} {v : V} (r : RepW W g H (.str i) v) : v = .str i := by
  rcases r with r | ⟨o, a, e, _⟩
  · simpa only [Rep] using r
  · cases o <;> cases e
theorem RepW.bl {i : Bool} {v : V} (r : RepW W g H (.bl i) v) : v = .bl i := by
  rcases r with r | ⟨o, a, e, _⟩
  · simpa only [Rep] using r
  · cases o <;> cases e
theorem RepW.non {v : V} (r : RepW W g H .non v) : v = .non := by
  rcases r with r | ⟨o, a, e, _⟩
  · simpa only [Rep] using r
  · cases o <;> cases e
theorem sqL_noH {K : PySem.W.Frag} {a : Addr} {xs : List V} (h : SqL K noH a xs) : SqL K H a xs := by
  rcases h with (h | ⟨o, h⟩) | h
  · cases h
  · cases h
  · exact .inr h
theorem sqT_noH {K : PySem.W.Frag} {a : Addr} {xs : List V} (h : SqT K noH a xs) : SqT K H a xs := by
  rcases h with (h | ⟨o, h⟩) | h
  · cases h
  · cases h
  · exact .inr h
theorem TupF.sq {a : Addr} {vs : List V} (h : TupF W g H a vs) : SqT W.K H a vs := h.elim (fun x => SqT.of x.2) sqT_noH
theorem RepW.lst {xs : List D} {v : V} (r : RepW W g H (.lst xs) v) : ∃ a vs, v = .ref a ∧ H a = some (.lst vs) ∧ Reps W g H xs vs := by
  rcases r with r | ⟨o, a, e, rfl, ho⟩
  · simp only [Rep] at r
    obtain ⟨a, vs, rfl, f, t, r⟩ := r
    exact ⟨a, vs, rfl, t, r⟩
  · cases o <;> cases e
    obtain ⟨vs, h1, h2⟩ := ho
    exact ⟨a, vs, rfl, h1, h2⟩
theorem RepW.scr {xs : List Int} {v : V} (r : RepW W g H (.scr xs) v) : ∃ a, v = .ref a ∧ SqL W.K H a (xs.map V.int) := by
  rcases r with r | ⟨o, a, e, rfl, ho⟩
  · simp only [Rep] at r
    obtain ⟨a, rfl, t⟩ := r
    refine ⟨a, rfl, ?_⟩
    rcases t with ⟨f, o, t⟩ | t
    · exact .inl (.inr ⟨o, t⟩)
    · exact sqL_noH t
  · cases o <;> cases e
theorem RepW.tup {xs : List D} {v : V} (r : RepW W g H (.tup xs) v) : ∃ a vs, v = .ref a ∧ SqT W.K H a vs ∧ Reps W g H xs vs := by
  rcases r with r | ⟨o, a, e, rfl, ho⟩
  · simp only [Rep] at r
    obtain ⟨a, vs, rfl, t, r⟩ := r
    exact ⟨a, vs, rfl, t.sq, r⟩
  · cases o <;> cases e
theorem RepW.dct {xs : List (D × D)} {v : V} (r : RepW W g H (.dct xs) v) : ∃ a ws, v = .ref a ∧ Rd H a (.dK ws) ∧ RepKV W g H xs ws := by
  rcases r with r | ⟨o, a, e, rfl, ho⟩
  · simp only [Rep] at r
    obtain ⟨a, vs, rfl, f, t, r⟩ := r
    exact ⟨a, vs, rfl, t, r⟩
  · cases o <;> cases e
    obtain ⟨vs, h1, h2⟩ := ho
    exact ⟨a, vs, rfl, .inl h1, h2⟩
theorem RepW.ins {c : Nat} {fs : List (Str × D)} {v : V} (r : RepW W g H (.ins c fs) v) : ∃ a dx gs, v = .ref a ∧ H a = some (.ins (W.cls c) dx gs) ∧ RepFs W g H fs gs := by
  rcases r with r | ⟨o, a, e, rfl, ho⟩
  · simp only [Rep] at r
    obtain ⟨a, dx, gs, rfl, f, t, r⟩ := r
    exact ⟨a, dx, gs, rfl, t, r⟩
  · cases o <;> cases e
    obtain ⟨dx, gs, h1, h2⟩ := ho
    exact ⟨a, dx, gs, rfl, h1, h2⟩

/-! ### lists of values -/
theorem Reps.length : ∀ {xs : List D} {vs : List V}, Reps W g H xs vs → xs.length = vs.length
  | [], vs, h => by simp only [Reps] at h; subst h; rfl
  | x :: xs, vs, h => by
    simp only [Reps] at h
    obtain ⟨v, r, rfl, _, h⟩ := h
    simp [Reps.length h]
theorem Reps.get : ∀ {xs : List D} {vs : List V}, Reps W g H xs vs → ∀ {i : Nat} {d : D}, xs[i]? = some d → ∃ v, vs[i]? = some v ∧ Rep W g H d v
  | [], vs, h, i, d, e => by simp at e
  | x :: xs, vs, h, i, d, e => by
    simp only [Reps] at h
    obtain ⟨v, r, rfl, h1, h2⟩ := h
    cases i with
    | zero => simp at e; subst e; exact ⟨v, rfl, h1⟩
    | succ i => simpa using Reps.get h2 (by simpa using e)
theorem Reps.append : ∀ {xs ys : List D} {vs ws : List V}, Reps W g H xs vs → Reps W g H ys ws → Reps W g H (xs ++ ys) (vs ++ ws)
  | [], ys, vs, ws, h, k => by simp only [Reps] at h; subst h; exact k
  | x :: xs, ys, vs, ws, h, k => by
    simp only [Reps] at h
    obtain ⟨v, r, rfl, h1, h2⟩ := h
    simp only [List.cons_append, Reps]
    exact ⟨v, r ++ ws, rfl, h1, Reps.append h2 k⟩
theorem Reps.take : ∀ {xs : List D} {vs : List V} (n : Nat), Reps W g H xs vs → Reps W g H (xs.take n) (vs.take n)
  | xs, vs, 0, h => by simp [Reps]
  | [], vs, n + 1, h => by simp only [Reps] at h; subst h; simp [Reps]
  | x :: xs, vs, n + 1, h => by
    simp only [Reps] at h
    obtain ⟨v, r, rfl, h1, h2⟩ := h
    simp only [List.take_succ_cons, Reps]
    exact ⟨v, _, rfl, h1, Reps.take n h2⟩
theorem Reps.drop : ∀ {xs : List D} {vs : List V} (n : Nat), Reps W g H xs vs → Reps W g H (xs.drop n) (vs.drop n)
  | xs, vs, 0, h => by simpa using h
  | [], vs, n + 1, h => by simp only [Reps] at h; subst h; simp [Reps]
  | x :: xs, vs, n + 1, h => by
    simp only [Reps] at h
    obtain ⟨v, r, rfl, h1, h2⟩ := h
    simpa using Reps.drop n h2
theorem Reps.set : ∀ {xs : List D} {vs : List V} {d : D} {v : V} (n : Nat), Reps W g H xs vs → Rep W g H d v → Reps W g H (xs.set n d) (vs.set n v)
  | [], vs, d, v, n, h, k => by simp only [Reps] at h; subst h; simp [Reps]
  | x :: xs, vs, d, v, 0, h, k => by
    simp only [Reps] at h
    obtain ⟨w, r, rfl, h1, h2⟩ := h
    simp only [List.set_cons_zero, Reps]
    exact ⟨v, r, rfl, k, h2⟩
  | x :: xs, vs, d, v, n + 1, h, k => by
    simp only [Reps] at h
    obtain ⟨w, r, rfl, h1, h2⟩ := h
    simp only [List.set_cons_succ, Reps]
    exact ⟨w, _, rfl, h1, Reps.set n h2 k⟩
theorem Reps.nil : Reps W g H [] [] := by simp [Reps]
theorem Reps.one {d : D} {v : V} (h : Rep W g H d v) : Reps W g H [d] [v] := by simp [Reps, h]
theorem Reps.cons {d : D} {v : V} {xs : List D} {vs : List V} (h : Rep W g H d v) (k : Reps W g H xs vs) : Reps W g H (d :: xs) (v :: vs) := by
  simp only [Reps]; exact ⟨v, vs, rfl, h, k⟩

/-! ### prims -/
/-- a two-place operation by values: what is asked of the values' reading r -/
def Prim1 (W : Wd) (X : Cx) (r : V → Hp → VK → Prop) (p : D → Option EV) : Prop :=
  ∀ C g H vh dx x (Q : VK), RelH W C g vh H → RepW W g H dx x → (∀ e, p dx = some e → ∀ g' H' v, RelH W C g' vh H' → Ext g H g' H' → RepE W C g' H' e v → Q v H') → (p dx).isSome → r x H Q
def Prim2 (W : Wd) (X : Cx) (r : R2) (p : D → D → Option EV) : Prop :=
  ∀ C g H vh dx dy x y (Q : VK), RelH W C g vh H → RepW W g H dx x → RepW W g H dy y → (∀ e, p dx dy = some e → ∀ g' H' v, RelH W C g' vh H' → Ext g H g' H' → RepE W C g' H' e v → Q v H') → (p dx dy).isSome → r x y H Q
theorem Prim2.use {r : R2} {p : D → D → Option EV} (hp : Prim2 W X r p) {dx dy : D} {x y : V} {Q : VK} (h : RelH W C g vh H) (hs : RelS W g H sl σ) (e0 : Ext g0 H0 g H)
    (rx : Rep W g H dx x) (ry : Rep W g H dy y) (q : PostE W C Wx g0 H0 σ sl (lift (p (view vh dx) (view vh dy)) vh) Q) : r x y H Q := by
  refine hp C g H vh _ _ x y Q h (h.view rx) (h.view ry) (fun e he g' H' v h' x' r' => ?_) ?_
  · rw [he] at q
    exact q g' H' v h' (hs.mono x') (e0.trans x') r'
  · cases e : p (view vh dx) (view vh dy) with
    | none => rw [e] at q; exact q.elim
    | some _ => rfl
theorem Prim1.use {r : V → Hp → VK → Prop} {p : D → Option EV} (hp : Prim1 W X r p) {dx : D} {x : V} {Q : VK} (h : RelH W C g vh H) (hs : RelS W g H sl σ) (e0 : Ext g0 H0 g H)
    (rx : Rep W g H dx x) (q : PostE W C Wx g0 H0 σ sl (lift (p (view vh dx)) vh) Q) : r x H Q := by
  refine hp C g H vh _ x Q h (h.view rx) (fun e he g' H' v h' x' r' => ?_) ?_
  · rw [he] at q
    exact q g' H' v h' (hs.mono x') (e0.trans x') r'
  · cases e : p (view vh dx) with
    | none => rw [e] at q; exact q.elim
    | some _ => rfl
end

/-! ### expressions -/
section
variable {W : Wd} {Wx : WX} {X : Cx} {k : Nat} {a b c : Expr} {φ ψ χ : EF} {pos : Pos}
theorem de_var (i : Nat) {x : Str} (hN : X.N[i]? = some x := by rfl) (hv : Vis X.env.scope x := by first | exact Or.inl rfl | exact Or.inr (Or.inl rfl) | exact Or.inr (Or.inr rfl)) (hd : (x == ("__debug__" : Str)) = false := by decide)
    (hcd : (x == ("__classdict__" : Str)) = false := by decide) : DE W Wx X (.Name x pos) (eVar i) := fun C => pe_imp (pe_var hN hv hd hcd) fun σ H Q ⟨g, sl, vh, h, hs, q⟩ => by
  unfold eVar at q
  cases e : sl[i]? with
  | none => rw [e] at q; exact q.elim
  | some od =>
    cases od with
    | none => rw [e] at q; exact q.elim
    | some d =>
      rw [e] at q
      obtain ⟨v, e1, r⟩ := hs.2 i d e
      exact ⟨v, e1, q g H v h hs (Ext.refl g H) r⟩
theorem de_con {t : V} {d : D} {e : Expr} (h : PE X e (tC t)) (r : ∀ g H, Rep W g H d t) : DE W Wx X e (eCon d) := fun C => pe_imp h fun σ H Q ⟨g, sl, vh, h, hs, q⟩ => q g H t h hs (Ext.refl g H) (r g H)
theorem de_int {i : Int} {j} : DE W Wx X (.Constant (.int i) j pos) (eCon (.int i)) := de_con pe_int fun g H => by simp [Rep]
theorem de_bl {i : Bool} {j} : DE W Wx X (.Constant (.bool i) j pos) (eCon (.bl i)) := de_con pe_bl fun g H => by simp [Rep]
theorem de_non {j} : DE W Wx X (.Constant .none j pos) (eCon .non) := de_con pe_non fun g H => by simp [Rep]
theorem de_str {i : Str} {j} : DE W Wx X (.Constant (.str i) j pos) (eCon (.str i)) := de_con pe_str fun g H => by simp [Rep]
/-- a two-place reading -/
theorem de_2 {e : Expr} {r : R2} {p : D → D → Option EV} (ha : DE W Wx X a φ) (hb : DE W Wx X b ψ) (hp : Prim2 W X r p) (hr : ∀ ta tb, PE X a ta → PE X b tb → PE X e (tOp r ta tb)) : DE W Wx X e (e2 p φ ψ) := fun C =>
  pe_imp (hr _ _ (ha C) (hb C)) fun σ H Q ⟨g, sl, vh, h, hs, q⟩ => by
  exact (TDE.bind h hs (Ext.refl g H) q).mono fun v1 H1 ⟨g2, vh2, d1, i2, s2, x2, x2', p2, q2⟩ =>
    (TDE.bind i2 s2 x2 q2).mono fun v4 H4 ⟨g5, vh5, d5, i5, s5, x5, x5', p5, q5⟩ => hp.use i5 s5 x5 (Rep.mono x5' _ _ p2) p5 q5
end
end PM

/-! PM3: argument lists, displays, tests, prims of numbers, texts, lists, dicts. -/
namespace PM
open PySem L2
noncomputable section

abbrev AF := Sl → VH → R (List D)
def aNil : AF := fun _ vh => .ok [] vh
def aCons (φ : EF) (α : AF) : AF := fun sl vh => match φ sl vh with
  | .bad => .bad
  | .exc x vh' => .exc x vh'
  | .ok e vh' => match α sl vh' with
    | .bad => .bad
    | .exc x vh'' => .exc x vh''
    | .ok ds vh'' => .ok (e.d :: ds) vh''
def PostA (W : Wd) (C : Con) (Wx : WX) (g0 : Gh) (H0 : Hp) (σ : St) (sl : Sl) (r : R (List D)) (Q : List V → Hp → Prop) : Prop :=
  match r with
  | .bad => False
  | .ok ds vh => ∀ g H vs, RelH W C g vh H → RelS W g H sl σ → Ext g0 H0 g H → Reps W g H ds vs → Q vs H
  | .exc x vh => ∀ g H c od, RelH W C g vh H → RelS W g H sl σ → Ext g0 H0 g H → XRep W g H x c od → Wx c od σ H
def TDA (W : Wd) (C : Con) (Wx : WX) (α : AF) : TA := fun σ H Q => ∃ g sl vh, RelH W C g vh H ∧ RelS W g H sl σ ∧ PostA W C Wx g H σ sl (α sl vh) Q
def DA (W : Wd) (Wx : WX) (X : Cx) (es : List Expr) (α : AF) : Prop := ∀ C, PA X es (TDA W C Wx α)
theorem pa_imp {X : Cx} {e : List Expr} {t t' : TA} (h : PA X e t) (i : ∀ σ H Q, t' σ H Q → t σ H Q) : PA X e t' := ⟨fun pos pins s σ H Q I q => h.run pos pins s σ H Q I (i σ H Q q)⟩

def ab (α : AF) (k : List D → EF) : EF := fun sl vh => match α sl vh with
  | .ok ds vh' => k ds sl vh'
  | .exc x vh' => .exc x vh'
  | .bad => .bad

section
variable {W : Wd} {C : Con} {Wx : WX} {X : Cx} {g g0 : Gh} {H H0 : Hp} {σ : St} {sl : Sl} {vh : VH}
theorem TDA.mono {φ : AF} {Q Q' : List V → Hp → Prop} (t : TDA W C Wx φ σ H Q) (m : ∀ v H, Q v H → Q' v H) : TDA W C Wx φ σ H Q' := by
  obtain ⟨g, sl, vh, h, hs, q⟩ := t
  refine ⟨g, sl, vh, h, hs, ?_⟩
  cases r : φ sl vh with
  | bad => rw [r] at q; exact q
  | ok e vh1 => rw [r] at q; exact fun g1 H1 v h1 s1 x1 r1 => m _ _ (q g1 H1 v h1 s1 x1 r1)
  | exc x vh1 => rw [r] at q; exact q
theorem TDA.bind {α : AF} {k : List D → EF} {Q : VK} (h : RelH W C g vh H) (hs : RelS W g H sl σ) (e0 : Ext g0 H0 g H) (q : PostE W C Wx g0 H0 σ sl (ab α k sl vh) Q) :
    TDA W C Wx α σ H (fun v1 H1 => ∃ g1 vh1 d1, RelH W C g1 vh1 H1 ∧ RelS W g1 H1 sl σ ∧ Ext g0 H0 g1 H1 ∧ Ext g H g1 H1 ∧ Reps W g1 H1 d1 v1 ∧ PostE W C Wx g0 H0 σ sl (k d1 sl vh1) Q) := by
  refine ⟨g, sl, vh, h, hs, ?_⟩
  unfold ab at q
  cases r : α sl vh with
  | bad => rw [r] at q; exact q
  | ok ds vh1 =>
    rw [r] at q
    exact fun g1 H1 v1 h1 s1 x1 r1 => ⟨g1, vh1, ds, h1, s1, e0.trans x1, x1, r1, q⟩
  | exc x vh1 =>
    rw [r] at q
    exact fun g1 H1 c od h1 s1 x1 r1 => q g1 H1 c od h1 s1 (e0.trans x1) r1
theorem da_nil : DA W Wx X [] aNil := fun C => pa_imp pa_nil fun σ H Q ⟨g, sl, vh, h, hs, q⟩ => q g H [] h hs (Ext.refl g H) Reps.nil
theorem da_cons {e : Expr} {es : List Expr} {φ : EF} {α : AF} (ha : DE W Wx X e φ) (hr : DA W Wx X es α) (hst : starEach (e :: es) X.env = (false, eval e X.env) :: starEach es X.env := by rfl) : DA W Wx X (e :: es) (aCons φ α) := fun C =>
  pa_imp (pa_cons (ha C) (hr C) hst) fun σ H Q ⟨g, sl, vh, h, hs, q⟩ => by
    refine ⟨g, sl, vh, h, hs, ?_⟩
    unfold aCons at q
    cases r : φ sl vh with
    | bad => rw [r] at q; exact q
    | exc x vh1 => rw [r] at q; exact q
    | ok e vh1 =>
      rw [r] at q
      intro g1 H1 v1 h1 s1 x1 r1
      obtain ⟨g2, h2, x2, r2⟩ := r1.freeze h1
      refine ⟨g2, sl, vh1, h2, s1.mono x2, ?_⟩
      dsimp only at q
      cases r3 : α sl vh1 with
      | bad => rw [r3] at q; exact q
      | exc x vh2 => rw [r3] at q; exact fun g3 H3 c od h3 s3 x3 p3 => q g3 H3 c od h3 s3 ((x1.trans x2).trans x3) p3
      | ok ds vh2 =>
        rw [r3] at q
        exact fun g3 H3 vs h3 s3 x3 p3 => q g3 H3 _ h3 s3 ((x1.trans x2).trans x3) (Reps.cons (Rep.mono x3 _ _ r2) p3)
/-- what a reading asks of what comes behind arguments -/
def PrimA (W : Wd) (X : Cx) (r : List V → Hp → VK → Prop) (p : List D → Option EV) : Prop :=
  ∀ C g H vh ds vs (Q : VK), RelH W C g vh H → Reps W g H ds vs → (∀ e, p ds = some e → ∀ g' H' v, RelH W C g' vh H' → Ext g H g' H' → RepE W C g' H' e v → Q v H') → (p ds).isSome → r vs H Q
theorem PrimA.use {r : List V → Hp → VK → Prop} {p : List D → Option EV} (hp : PrimA W X r p) {ds : List D} {vs : List V} {Q : VK} (h : RelH W C g vh H) (hs : RelS W g H sl σ) (e0 : Ext g0 H0 g H)
    (rx : Reps W g H ds vs) (q : PostE W C Wx g0 H0 σ sl (lift (p ds) vh) Q) : r vs H Q := by
  refine hp C g H vh _ vs Q h rx (fun e he g' H' v h' x' r' => ?_) ?_
  · rw [he] at q
    exact q g' H' v h' (hs.mono x') (e0.trans x') r'
  · cases e : p ds with
    | none => rw [e] at q; exact q.elim
    | some _ => rfl
def eA (p : List D → Option EV) (α : AF) : EF := ab α fun ds _ vh => lift (p ds) vh
theorem de_A {e : Expr} {es : List Expr} {r : List V → Hp → VK → Prop} {p : List D → Option EV} {α : AF} (ha : DA W Wx X es α) (hp : PrimA W X r p) (hr : ∀ ta, PA X es ta → PE X e (fun σ H Q => ta σ H fun vs H1 => r vs H1 Q)) :
    DE W Wx X e (eA p α) := fun C => pe_imp (hr _ (ha C)) fun σ H Q ⟨g, sl, vh, h, hs, q⟩ =>
  (TDA.bind h hs (Ext.refl g H) q).mono fun v1 H1 ⟨g2, vh2, d1, i2, s2, x2, x2', p2, q2⟩ => hp.use i2 s2 x2 p2 q2

/-! ### new objects -/
theorem new_obj {p : Addr} {u : HO} {o : O} (h : RelH W C g vh H) (np : H p = none) (ho : ObjAt W g (upd H p u) p o) : RepE W C g (upd H p u) (.f o) (.ref p) :=
  let ⟨a, b, c⟩ := h.free np
  ⟨p, rfl, ho, a, b, c⟩
theorem RelH.addv {p : Addr} {u : HO} (h : RelH W C g vh H) (np : H p = none) : RelH W C (g.add p) vh (upd H p u) := by
  have h' := h.new (u := u) np
  exact {
    len := h'.len
    vh := fun i o e => (h'.vh i o e).mono (Ext.add g _ p) rfl
    inj := h'.inj
    nf := fun i hi hh => Or.elim hh (h'.nf i hi) fun z => h.mp hi (by rw [show g.m i = p from z]; exact np)
    ff := fun a ha => Or.elim ha (h'.ff a) fun z => by
      rw [z, upd_same]
      exact fun e => by cases e
    fr := h'.fr
    nfr := h'.nfr
    pd := fun a ha => ⟨(h.pd a ha).1, fun f => Or.elim f (h.pd a ha).2 fun e => (h.fr a (h.pd a ha).1).2 (by rw [e]; exact np)⟩ }
theorem new_tup {p : Addr} {xs : List D} {vs : List V} (h : RelH W C g vh H) (np : H p = none) (r : Reps W g H xs vs) :
    RelH W C (g.add p) vh (upd H p (.tup vs)) ∧ Ext g H (g.add p) (upd H p (.tup vs)) ∧ Rep W (g.add p) (upd H p (.tup vs)) (.tup xs) (.ref p) := by
  have x : Ext g H (g.add p) (upd H p (.tup vs)) := (Ext.new h np).trans (Ext.add g _ p)
  refine ⟨h.addv np, x, ?_⟩
  simp only [Rep]
  exact ⟨p, vs, rfl, .inl ⟨.inr rfl, upd_same⟩, Reps.mono x _ _ r⟩
theorem new_lst {p : Addr} {xs : List D} {vs : List V} (h : RelH W C g vh H) (np : H p = none) (r : Reps W g H xs vs) : RepE W C g (upd H p (.lst vs)) (.f (.lst xs)) (.ref p) :=
  new_obj h np ⟨vs, upd_same, Reps.mono (Ext.new h np) _ _ r⟩

/-- the greatest length; not to be unfolded (a kernel that compares with it would count) -/
noncomputable def lim : Nat := Classical.choose (⟨16777216, rfl⟩ : ∃ n : Nat, n = 16777216)
theorem lim_val : lim = 16777216 := Classical.choose_spec (⟨16777216, rfl⟩ : ∃ n : Nat, n = 16777216)
theorem lim_eq : lim = sizeLine := by rw [sizeLine_eq]; exact lim_val
def pTup (ds : List D) : Option EV := if ds.length ≤ lim then some (.v (.tup ds)) else none
def pLst (ds : List D) : Option EV := if ds.length ≤ lim then some (.f (.lst ds)) else none
theorem isSome_ite {α : Type} {c : Prop} [Decidable c] {x : α} (h : (if c then some x else none).isSome = true) : c := by
  by_cases hc : c
  · exact hc
  · rw [if_neg hc] at h; cases h
theorem de_tup {es : List Expr} {α : AF} {x1} {pos : Pos} (ha : DA W Wx X es α) : DE W Wx X (.Tuple es x1 pos) (eA pTup α) :=
  de_A ha (r := fun xs H1 Q => xs.length ≤ sizeLine ∧ ∀ p, H1 p = none → Q (.ref p) (upd H1 p (.tup xs))) (fun C g H vh ds vs Q h r q s => by
    have hc := isSome_ite s
    refine ⟨by rw [← r.length, ← lim_eq]; exact hc, fun p np => ?_⟩
    obtain ⟨a, b, c⟩ := new_tup h np r
    exact q _ (if_pos hc) _ _ _ a b c) fun ta h => pe_tup h
theorem de_lst {es : List Expr} {α : AF} {pos : Pos} (ha : DA W Wx X es α) : DE W Wx X (.List es pos) (eA pLst α) :=
  de_A ha (r := fun xs H1 Q => xs.length ≤ sizeLine ∧ ∀ p, H1 p = none → Q (.ref p) (upd H1 p (.lst xs))) (fun C g H vh ds vs Q h r q s => by
    have hc := isSome_ite s
    refine ⟨by rw [← r.length, ← lim_eq]; exact hc, fun p np => ?_⟩
    exact q _ (if_pos hc) _ _ _ (h.new np) (Ext.new h np) (new_lst h np r)) fun ta h => pe_lst h
end

/-! ### tests -/
def etoT (φ : EF) : TF := fun sl vh => match φ sl vh with
  | .ok (.v (.bl b)) vh' => .ok b vh'
  | .ok _ _ => .bad
  | .exc x vh' => .exc x vh'
  | .bad => .bad
def truD : D → Option Bool
  | .non => some false
  | .bl b => some b
  | .int i => some (i != 0)
  | .str y => if y.length ≤ lim then some ((y.length : Int) != 0) else none
  | .lst xs => some (!xs.isEmpty)
  | .tup xs => some (!xs.isEmpty)
  | _ => none
def liftB : Option Bool → VH → R Bool
  | some b, vh => .ok b vh
  | none, _ => .bad
def etru (φ : EF) : TF := ebt φ fun d _ vh => liftB (truD (view vh d)) vh
def tNotF (φ : TF) : TF := tbb φ fun b _ vh => .ok (!b) vh
def tAndF (φ ψ : TF) : TF := tbb φ fun b => if b = true then ψ else fun _ vh => .ok false vh
def tOrF (φ ψ : TF) : TF := tbb φ fun b => if b = true then fun _ vh => .ok true vh else ψ
def eIf (τ : TF) (φ ψ : EF) : EF := tb τ fun b => if b = true then φ else ψ
def ofT (τ : TF) : EF := tb τ fun b _ vh => .ok (.v (.bl b)) vh
section
variable {W : Wd} {Wx : WX} {X : Cx} {a b c : Expr} {φ ψ χ : EF} {τ υ : TF} {pos : Pos} {C : Con} {g g0 : Gh} {H H0 : Hp} {σ : St} {sl : Sl} {vh : VH}
theorem TDT.ofE {Q : Bool → Hp → Prop} (t : TDT W C Wx (etoT φ) σ H Q) : TDE W C Wx φ σ H fun x H' => ∃ k, x = .bl k ∧ Q k H' := by
  obtain ⟨g, sl, vh, h, hs, q⟩ := t
  refine ⟨g, sl, vh, h, hs, ?_⟩
  unfold etoT at q
  cases r : φ sl vh with
  | bad => rw [r] at q; exact q
  | exc x vh1 => rw [r] at q; exact q
  | ok e vh1 =>
    rw [r] at q
    cases e with
    | f o => exact q.elim
    | v d =>
      cases d with
      | bl k => exact fun g1 H1 v h1 s1 x1 r1 => ⟨k, by simpa only [RepE, Rep] using r1, q g1 H1 h1 s1 x1⟩
      | _ => exact q.elim
theorem RepW.tru {d : D} {v : V} {k : Bool} (r : RepW W g H d v) (e : truD d = some k) : TruV W.K v H k := by
  cases d with
  | non => cases e; rw [r.non]; exact rfl
  | bl b => cases e; rw [r.bl]; exact rfl
  | int i => cases e; rw [r.int]; exact rfl
  | str y =>
    rw [r.str]
    simp only [truD] at e
    split at e
    · rename_i hc
      cases e
      exact ⟨by rw [← lim_eq]; exact hc, rfl⟩
    · cases e
  | lst xs =>
    obtain ⟨a, vs, rfl, s, rr⟩ := r.lst
    cases e
    exact .inl ⟨vs, SqL.of s, by have := rr.length; cases xs <;> cases vs <;> simp_all⟩
  | tup xs =>
    obtain ⟨a, vs, rfl, s, rr⟩ := r.tup
    cases e
    exact .inr (.inl ⟨vs, s, by have := rr.length; cases xs <;> cases vs <;> simp_all⟩)
  | _ => cases e
theorem dt_truth (hK : X.K = W.K) (ha : DE W Wx X a φ) (he : ∀ whole, isTrue a X.env whole = (do let v ← whole; standAt a.pos; holding [v] (truthy v))) : DT W Wx X a (etru φ) := fun C =>
  pt_imp (pt_truth (ha C) he) fun σ H Q ⟨g, sl, vh, h, hs, q⟩ =>
    (TDE.bindT h hs (Ext.refl g H) q).mono fun v1 H1 ⟨g2, vh2, d1, i2, s2, x2, x2', p2, q2⟩ => by
      cases e : truD (view vh2 d1) with
      | none => rw [e] at q2; exact q2.elim
      | some k => rw [e] at q2; exact ⟨k, by rw [hK]; exact (i2.view p2).tru e, q2 g2 H1 i2 s2 x2⟩
theorem dt_not (ha : DT W Wx X a τ) : DT W Wx X (.UnaryOp .Not a pos) (tNotF τ) := fun C => pt_imp (pt_not (ha C)) fun σ H Q ⟨g, sl, vh, h, hs, q⟩ =>
  (TDT.bindT h hs (Ext.refl g H) q).mono fun b H1 ⟨g2, vh2, i2, s2, x2, q2⟩ => q2 g2 H1 i2 s2 x2
/-- and, or as tests -/
def DW (W : Wd) (Wx : WX) (X : Cx) (e : Expr) (φ : TF) : Prop := ∀ C, PW X e (TDT W C Wx φ)
theorem pw_imp {e : Expr} {t t' : TT} (h : PW X e t) (i : ∀ σ H Q, t' σ H Q → t σ H Q) : PW X e t' := ⟨fun wh pins s σ H Q I q => h.run wh pins s σ H Q I (i σ H Q q)⟩
theorem dw_t {e : Expr} (h : DW W Wx X e τ) : DT W Wx X e τ := fun C => (h C).pt
theorem dw_and1 (ha : DT W Wx X a τ) : DW W Wx X (.BoolOp .And [a] pos) τ := fun C => pw_and1 (ha C)
theorem dw_or1 (ha : DT W Wx X a τ) : DW W Wx X (.BoolOp .Or [a] pos) τ := fun C => pw_or1 (ha C)
theorem TDT.at {Q : Bool → Hp → Prop} (h : RelH W C g vh H) (hs : RelS W g H sl σ) (e0 : Ext g0 H0 g H) (q : PostT W C Wx g0 H0 σ sl (τ sl vh) Q) : TDT W C Wx τ σ H Q := TDT.go h hs e0 q
theorem dw_and {rest : List Expr} (ha : DT W Wx X a τ) (hb : DW W Wx X (.BoolOp .And (b :: rest) pos) υ) : DW W Wx X (.BoolOp .And (a :: b :: rest) pos) (tAndF τ υ) := fun C => pw_imp (pw_and (ha C) (hb C)) fun σ H Q ⟨g, sl, vh, h, hs, q⟩ =>
  (TDT.bindT h hs (Ext.refl g H) q).mono fun k H1 ⟨g2, vh2, i2, s2, x2, q2⟩ => by
    cases k with
    | true => exact TDT.go i2 s2 x2 q2
    | false => exact q2 g2 H1 i2 s2 x2
theorem dw_or {rest : List Expr} (ha : DT W Wx X a τ) (hb : DW W Wx X (.BoolOp .Or (b :: rest) pos) υ) : DW W Wx X (.BoolOp .Or (a :: b :: rest) pos) (tOrF τ υ) := fun C => pw_imp (pw_or (ha C) (hb C)) fun σ H Q ⟨g, sl, vh, h, hs, q⟩ =>
  (TDT.bindT h hs (Ext.refl g H) q).mono fun k H1 ⟨g2, vh2, i2, s2, x2, q2⟩ => by
    cases k with
    | true => exact q2 g2 H1 i2 s2 x2
    | false => exact TDT.go i2 s2 x2 q2
theorem de_if (hc : DT W Wx X c τ) (ha : DE W Wx X a φ) (hb : DE W Wx X b ψ) : DE W Wx X (.IfExp c a b pos) (eIf τ φ ψ) := fun C => pe_imp (pe_ifExp (hc C) (ha C) (hb C)) fun σ H Q ⟨g, sl, vh, h, hs, q⟩ =>
  (TDT.bind h hs (Ext.refl g H) q).mono fun k H1 ⟨g2, vh2, i2, s2, x2, q2⟩ => by
    cases k with
    | true => exact TDE.go i2 s2 x2 q2
    | false => exact TDE.go i2 s2 x2 q2
/-- and, or as values; the operand by its truth -/
def eAndV (φ ψ : EF) : EF := eb φ fun d sl vh => match truD (view vh d) with | none => .bad | some true => ψ sl vh | some false => .ok (.v d) vh
def eOrV (φ ψ : EF) : EF := eb φ fun d sl vh => match truD (view vh d) with | none => .bad | some true => .ok (.v d) vh | some false => ψ sl vh
theorem de_one {op} (h : DE W Wx X a φ) : DE W Wx X (.BoolOp op [a] pos) φ := fun C => pe_one (h C)
theorem de_and {rest : List Expr} (hK : X.K = W.K) (ha : DE W Wx X a φ) (hb : DE W Wx X (.BoolOp .And (b :: rest) pos) ψ) : DE W Wx X (.BoolOp .And (a :: b :: rest) pos) (eAndV φ ψ) := fun C => pe_imp (pe_andT (ha C) (hb C)) fun σ H Q ⟨g, sl, vh, h, hs, q⟩ =>
  (TDE.bind h hs (Ext.refl g H) q).mono fun v1 H1 ⟨g2, vh2, d1, i2, s2, x2, x2', p2, q2⟩ => by
    cases e : truD (view vh2 d1) with
    | none => rw [e] at q2; exact q2.elim
    | some k =>
      rw [e] at q2
      refine ⟨k, by rw [hK]; exact (i2.view p2).tru e, ?_⟩
      cases k with
      | true => exact TDE.go i2 s2 x2 q2
      | false => exact q2 g2 H1 v1 i2 s2 x2 p2
theorem de_or {rest : List Expr} (hK : X.K = W.K) (ha : DE W Wx X a φ) (hb : DE W Wx X (.BoolOp .Or (b :: rest) pos) ψ) : DE W Wx X (.BoolOp .Or (a :: b :: rest) pos) (eOrV φ ψ) := fun C => pe_imp (pe_orT (ha C) (hb C)) fun σ H Q ⟨g, sl, vh, h, hs, q⟩ =>
  (TDE.bind h hs (Ext.refl g H) q).mono fun v1 H1 ⟨g2, vh2, d1, i2, s2, x2, x2', p2, q2⟩ => by
    cases e : truD (view vh2 d1) with
    | none => rw [e] at q2; exact q2.elim
    | some k =>
      rw [e] at q2
      refine ⟨k, by rw [hK]; exact (i2.view p2).tru e, ?_⟩
      cases k with
      | true => exact q2 g2 H1 v1 i2 s2 x2 p2
      | false => exact TDE.go i2 s2 x2 q2
def eNotV (φ : EF) : EF := eb φ fun d _ vh => match truD (view vh d) with | none => .bad | some b => .ok (.v (.bl (!b))) vh
theorem de_not (hK : X.K = W.K) (ha : DE W Wx X a φ) : DE W Wx X (.UnaryOp .Not a pos) (eNotV φ) := fun C => pe_imp (pe_notT (ha C)) fun σ H Q ⟨g, sl, vh, h, hs, q⟩ =>
  (TDE.bind h hs (Ext.refl g H) q).mono fun v1 H1 ⟨g2, vh2, d1, i2, s2, x2, x2', p2, q2⟩ => by
    cases e : truD (view vh2 d1) with
    | none => rw [e] at q2; exact q2.elim
    | some k => rw [e] at q2; exact ⟨k, by rw [hK]; exact (i2.view p2).tru e, q2 g2 H1 _ i2 s2 x2 (by simp [RepE, Rep])⟩
/-- a comparison as a test, by its reading as a value -/
theorem dt_2 {e : Expr} {r : R2} {p : D → D → Option EV} (ha : DE W Wx X a φ) (hb : DE W Wx X b ψ) (hp : Prim2 W X r p) (hr : ∀ ta tb, PE X a ta → PE X b tb → PT X e (tTest (tOp r ta tb))) : DT W Wx X e (etoT (e2 p φ ψ)) := fun C =>
  pt_imp (hr _ _ (ha C) (hb C)) fun σ H Q t => by
    obtain ⟨g, sl, vh, h, hs, q⟩ := t.ofE
    exact (TDE.bind h hs (Ext.refl g H) q).mono fun v1 H1 ⟨g2, vh2, d1, i2, s2, x2, x2', p2, q2⟩ =>
      (TDE.bind i2 s2 x2 q2).mono fun v4 H4 ⟨g5, vh5, d5, i5, s5, x5, x5', p5, q5⟩ => hp.use i5 s5 x5 (Rep.mono x5' _ _ p2) p5 q5
theorem de_1 {e : Expr} {r : V → Hp → VK → Prop} {p : D → Option EV} (ha : DE W Wx X a φ) (hp : Prim1 W X r p) (hr : ∀ ta, PE X a ta → PE X e (tUn r ta)) : DE W Wx X e (e1 p φ) := fun C =>
  pe_imp (hr _ (ha C)) fun σ H Q ⟨g, sl, vh, h, hs, q⟩ =>
    (TDE.bind h hs (Ext.refl g H) q).mono fun v1 H1 ⟨g2, vh2, d1, i2, s2, x2, x2', p2, q2⟩ => hp.use i2 s2 x2 p2 q2
end
end
end PM

/-! PM3t: tuple * int, any int. -/
namespace PM
open PySem PySem.Spec PyProof.Rows L2
noncomputable section
theorem tupMulSame (a : Addr) (its : Array Value) (n : Nat) (dd : Option Addr) (sl : Array (Option Value)) (k : Int) (u : Tok) (h0 : (decide (k < -(2 ^ 63)) || decide (k ≥ 2 ^ 63)) = false) (h1 : (its.isEmpty || k == 1) = true) :
    Meets (Builtin.«tuple.__mul__» ⟨[.ref a, .int k u], []⟩) (fun _ R s => s.heap.get? a = some { cls := .type "tuple", dict := dd, data := .seq its n, slots := sl } ∧ R (.ok (.ret (Value.ref a))) { s with heap := s.heap, toks := s.toks }) :=
  .of_wp fun prog w A R s h => by
    obtain ⟨hp, g, d, tk, os⟩ := s
    obtain ⟨hl, h⟩ := h
    have f1 := AutoSeq1.idx_int
    wp_walk using wpAny_loadPart' hl
    repeat (first
      | (refine wpAny_ite_false (decide_eq_false (by rw [h0]; exact Bool.false_ne_true)) ?_; wp_walk using wpAny_loadPart' hl)
      | (refine wpAny_ite_true (decide_eq_true h1) ?_; wp_walk using wpAny_loadPart' hl))
    exact ⟨_, rfl, h⟩
theorem tupMulNone (a : Addr) (its : Array Value) (n : Nat) (dd : Option Addr) (sl : Array (Option Value)) (k : Int) (u : Tok) (h0 : (decide (k < -(2 ^ 63)) || decide (k ≥ 2 ^ 63)) = false) (h1 : (its.isEmpty || k == 1) = false) (h2 : (decide (k ≤ 0) || its.isEmpty) = true) :
    Meets (Builtin.«tuple.__mul__» ⟨[.ref a, .int k u], []⟩) (fun _ R s => s.heap.get? a = some { cls := .type "tuple", dict := dd, data := .seq its n, slots := sl } ∧ R (.ok (.ret (Value.ref s.heap.objs.size))) { s with heap := s.heap.push { cls := Value.type "tuple", data := Data.seq #[] }, toks := s.toks }) :=
  .of_wp fun prog w A R s h => by
    obtain ⟨hp, g, d, tk, os⟩ := s
    obtain ⟨hl, h⟩ := h
    have f1 := AutoSeq1.idx_int
    wp_walk using wpAny_loadPart' hl
    repeat (first
      | (refine wpAny_ite_false (decide_eq_false (by rw [h0]; exact Bool.false_ne_true)) ?_; wp_walk using wpAny_loadPart' hl)
      | (refine wpAny_ite_false (decide_eq_false (by rw [h1]; exact Bool.false_ne_true)) ?_; wp_walk using wpAny_loadPart' hl)
      | (refine wpAny_ite_true (decide_eq_true h2) ?_; wp_walk using wpAny_loadPart' hl))
    exact ⟨_, rfl, h⟩
def rRepA (K : PySem.W.Frag) : R2 := fun x y H Q => ∃ l k xs, x = .ref l ∧ y = .int k ∧ SqT K H l xs ∧ -1000000 < k ∧ k < 1000000 ∧ xs.length * k.toNat ≤ sizeLine ∧
  (xs = [] ∨ k = 1 → Q (.ref l) H) ∧ (xs ≠ [] → k ≠ 1 → ∀ p, H p = none → Q (.ref p) (upd H p (.tup (List.replicate k.toNat xs).flatten)))
theorem op_repA {X : Cx} : OpR X (binaryOp .Mult) (rRepA X.K) := by
  intro pins s σ H x y v u Q I rx ry h
  obtain ⟨l, k, xs, rfl, rfl, hT, b1, b2, hz, q1, q2⟩ := h
  cases rx
  obtain ⟨t, rfl⟩ := ry
  obtain ⟨its, r, ⟨⟨cls, dd, data, sl⟩, ho, hc, n, hd⟩, hs⟩ := I.tuple hT
  simp only at hc hd
  subst hc hd
  have hle : its.length = xs.length := r.length.symm
  have c0 : (decide (k < -(2 ^ 63)) || decide (k ≥ 2 ^ 63)) = false := by
    rw [decide_eq_false (by omega), decide_eq_false (by omega)] <;> rfl
  have hsl := sizeLine_eq
  by_cases hk : xs = [] ∨ k = 1
  · have c1 : (its.toArray.isEmpty || k == 1) = true := by
      rcases hk with rfl | rfl
      · have : its = [] := List.eq_nil_of_length_eq_zero hle
        subst this; rfl
      · simp
    refine wpAny_binaryOp_repeat_ref (T := "tuple") (U := "int") (by decide) ⟨_, ho, rfl⟩ (fun s' => typeIs_int s' k t) noFill_tuple_mul F.fills_int_mul F.slot_int_rmul repeat_tuple F.slot_int_index.lookup
      (call_meets F.slot_int_rmul (typeIs_int s k t) F.entry_int_rmul (F.args_int_rmul_2 _ _) (int_rmul_tuple k t l its.toArray n dd sl)
        ⟨ho, rfl, ⟨_, ho, rfl⟩, call_meets F.slot_tuple_mul ⟨_, ho, rfl⟩ F.entry_tuple_mul (F.args_tuple_mul_2 _ _) (tupMulSame l its.toArray n dd sl k t c0 c1) ⟨ho, ?_⟩⟩)
    exact ⟨.ref l, H, I, rfl, q1 hk⟩
  have hne : xs ≠ [] := fun e => hk (.inl e)
  have hk1 : k ≠ 1 := fun e => hk (.inr e)
  have hn : its ≠ [] := fun e => hne (by
    rw [e] at hle
    exact List.eq_nil_of_length_eq_zero hle.symm)
  have hi : its.toArray.isEmpty = false := by
    cases its with
    | nil => exact absurd rfl hn
    | cons a b => rfl
  have hsz0 : its.toArray.size = xs.length := by rw [List.size_toArray, hle]
  have c1 : (its.toArray.isEmpty || k == 1) = false := by
    rw [hi, Bool.false_or]
    exact beq_eq_false_iff_ne.mpr hk1
  have flen : (List.replicate k.toNat its).flatten.length ≤ sizeLine := by
    rw [PyProof.Rows.lm_len_rep_flat, hle, Nat.mul_comm]
    exact hz
  by_cases hk0 : k ≤ 0
  · have c2 : (decide (k ≤ 0) || its.toArray.isEmpty) = true := by
      rw [decide_eq_true hk0]; rfl
    refine wpAny_binaryOp_repeat_ref (T := "tuple") (U := "int") (by decide) ⟨_, ho, rfl⟩ (fun s' => typeIs_int s' k t) noFill_tuple_mul F.fills_int_mul F.slot_int_rmul repeat_tuple F.slot_int_index.lookup
      (call_meets F.slot_int_rmul (typeIs_int s k t) F.entry_int_rmul (F.args_int_rmul_2 _ _) (int_rmul_tuple k t l its.toArray n dd sl)
        ⟨ho, rfl, ⟨_, ho, rfl⟩, call_meets F.slot_tuple_mul ⟨_, ho, rfl⟩ F.entry_tuple_mul (F.args_tuple_mul_2 _ _) (tupMulNone l its.toArray n dd sl k t c0 c1 c2) ⟨ho, ?_⟩⟩)
    have e0 : k.toNat = 0 := by omega
    have q3 := q2 hne hk1
    rw [e0] at q3
    refine ⟨.ref s.heap.objs.size, _, I.laid (t' := s.toks) (o := .tup []) (fun b ob q => Heap.get?_push_of_some _ q) (Nat.le_refl _) ?_, rfl, q3 _ (I.hok.fresh (Nat.le_refl _))⟩
    exact ⟨Nat.zero_le _, _, .nil, IsTup.new _ _⟩
  · have c2 : (decide (k ≤ 0) || its.toArray.isEmpty) = false := by
      rw [hi, Bool.or_false]
      exact decide_eq_false hk0
    have hm : ((its.toArray.size : Nat) : Int) * k ≤ 16777216 := by
      rw [hsz0]
      have : ((xs.length * k.toNat : Nat) : Int) ≤ 16777216 := by omega
      rw [Int.natCast_mul, Int.toNat_of_nonneg (by omega)] at this
      exact this
    have c4 : Builtin.Tuple.tupleTooMany (((its.toArray.size : Nat) : Int) * k) = false := by
      unfold Builtin.Tuple.tupleTooMany
      rw [sizeLine_eq]
      exact decide_eq_false (by omega)
    refine wpAny_binaryOp_repeat_ref (T := "tuple") (U := "int") (by decide) ⟨_, ho, rfl⟩ (fun s' => typeIs_int s' k t) noFill_tuple_mul F.fills_int_mul F.slot_int_rmul repeat_tuple F.slot_int_index.lookup
      (call_meets F.slot_int_rmul (typeIs_int s k t) F.entry_int_rmul (F.args_int_rmul_2 _ _) (int_rmul_tuple k t l its.toArray n dd sl)
        ⟨ho, rfl, ⟨_, ho, rfl⟩, call_meets F.slot_tuple_mul ⟨_, ho, rfl⟩ F.entry_tuple_mul (F.args_tuple_mul_2 _ _) (tuple_mulW l its.toArray n dd sl k t c0 c1 c2 (by omega) c4 (by rw [L2.size_rep, List.size_toArray]; exact flen)) ⟨ho, ?_⟩⟩)
    rw [L2.size_rep]
    refine ⟨.ref s.heap.objs.size, _, I.laid (t' := s.toks) (o := .tup (List.replicate k.toNat xs).flatten) (fun b ob q => Heap.get?_push_of_some _ q) (Nat.le_refl _) ?_, rfl, q2 hne hk1 _ (I.hok.fresh (Nat.le_refl _))⟩
    exact ⟨by rw [PyProof.Rows.lm_len_rep_flat, Nat.mul_comm]; exact hz, _, r.rep k.toNat, IsTup.new _ _⟩
end
end PM

/-! PM4: operators, comparisons, subscripts. -/
namespace PM
open PySem L2
noncomputable section

noncomputable def mulOk (i j : Int) : Bool := @decide (i.natAbs < 2 ^ 64 ∨ j.natAbs < 2 ^ 64 ∨ i.natAbs.log2 + j.natAbs.log2 < 1000000) (Classical.propDecidable _)
theorem mulOk_iff {i j : Int} : mulOk i j = true ↔ (i.natAbs < 2 ^ 64 ∨ j.natAbs < 2 ^ 64 ∨ i.natAbs.log2 + j.natAbs.log2 < 1000000) := @decide_eq_true_iff _ (Classical.propDecidable _)
noncomputable def divOk (j : Int) : Bool := @decide (0 < j ∧ j.natAbs.log2 < 9000) (Classical.propDecidable _)
theorem divOk_iff {j : Int} : divOk j = true ↔ (0 < j ∧ j.natAbs.log2 < 9000) := @decide_eq_true_iff _ (Classical.propDecidable _)
noncomputable def powOk (i j : Int) : Bool := @decide (0 ≤ j ∧ j ≤ 1000 ∧ i.natAbs.log2 < 1000) (Classical.propDecidable _)
theorem powOk_iff {i j : Int} : powOk i j = true ↔ (0 ≤ j ∧ j ≤ 1000 ∧ i.natAbs.log2 < 1000) := @decide_eq_true_iff _ (Classical.propDecidable _)
def vI (i : Int) : Option EV := some (.v (.int i))
def vB (b : Bool) : Option EV := some (.v (.bl b))
def vS (x : Str) : Option EV := some (.v (.str x))
def opAdd : D → D → Option EV
  | .int i, .int j => vI (i + j)
  | .str x, .str y => if x.length + y.length ≤ lim then vS (x ++ y) else none
  | .lst xs, .lst ys => if xs.length + ys.length ≤ lim then some (.f (.lst (xs ++ ys))) else none
  | .tup xs, .tup ys => if xs.length + ys.length ≤ lim then some (.v (.tup (xs ++ ys))) else none
  | _, _ => none
def opSub : D → D → Option EV
  | .int i, .int j => vI (i - j)
  | _, _ => none
def strRep (x : Str) (k : Int) : Str := if k < 1 then Str.empty else if (k == 1 || x.length == 0) = true then x else ⟨(List.replicate k.toNat x.cps).foldl (· ++ ·) #[]⟩
def opMul : D → D → Option EV
  | .int i, .int j => if mulOk i j = true then vI (i * j) else none
  | .str x, .int k => if (k < 1000000 ∧ -1000000 < k) ∧ x.length * k.toNat ≤ lim then vS (strRep x k) else none
  | .lst xs, .int k => if (k < 1000000 ∧ -1000000 < k) ∧ xs.length * k.toNat ≤ lim then some (.f (.lst (List.replicate k.toNat xs).flatten)) else none
  | .tup xs, .int k => if (k < 1000000 ∧ -1000000 < k) ∧ xs.length * k.toNat ≤ lim then some (.v (.tup (List.replicate k.toNat xs).flatten)) else none
  | _, _ => none
def opDiv : D → D → Option EV
  | .int i, .int j => if divOk j = true then vI (i / j) else none
  | _, _ => none
def opMod : D → D → Option EV
  | .int i, .int j => if 0 < j then vI (i % j) else none
  | _, _ => none
def opPow : D → D → Option EV
  | .int i, .int j => if powOk i j = true then vI (i ^ j.toNat) else none
  | _, _ => none

section
variable {W : Wd} {Wx : WX} {X : Cx} {a b c : Expr} {φ ψ χ : EF} {pos : Pos}
theorem some_inj {α : Type} {x y : α} (h : some x = some y) : x = y := Option.some.inj h
theorem Reps.flat {g : Gh} {H : Hp} {xs : List D} {vs : List V} (r : Reps W g H xs vs) : ∀ k : Nat, Reps W g H (List.replicate k xs).flatten (List.replicate k vs).flatten
  | 0 => by simp [Reps]
  | k + 1 => by
    rw [List.replicate_succ, List.replicate_succ, List.flatten_cons, List.flatten_cons]
    exact r.append (r.flat k)
def rAddX (K : PySem.W.Frag) : R2 := fun x y H Q => (∃ i j, x = .int i ∧ y = .int j ∧ Q (.int (i + j)) H) ∨ ((∃ i j, x = .str i ∧ y = .str j ∧ i.length + j.length ≤ sizeLine ∧ Q (.str (i ++ j)) H) ∨ (rCat x y H Q ∨ rCatA K x y H Q))
theorem op_addX : OpR X (binaryOp .Add) (rAddX X.K) := op_add.or (op_add_str.or (op_cat.or op_catA))
theorem p_add (hK : X.K = W.K) : Prim2 W X (rAddX X.K) opAdd := by
  intro C g H vh dx dy x y Q h rx ry q s
  cases dx <;> cases dy <;> try (simp [opAdd] at s; done)
  · rw [rx.int, ry.int]
    exact .inl ⟨_, _, rfl, rfl, q _ rfl g H _ h (Ext.refl g H) (by simp [RepE, Rep])⟩
  · rw [rx.str, ry.str]
    have hc := isSome_ite s
    exact .inr (.inl ⟨_, _, rfl, rfl, by rw [← lim_eq]; exact hc, q _ (if_pos hc) g H _ h (Ext.refl g H) (by simp [RepE, Rep])⟩)
  · obtain ⟨a, vs, rfl, h1, r1⟩ := rx.tup
    obtain ⟨b, ws, rfl, h2, r2⟩ := ry.tup
    have hc := isSome_ite s
    refine .inr (.inr (.inr ⟨a, b, vs, ws, rfl, rfl, by rw [hK]; exact h1, by rw [hK]; exact h2, by rw [← r1.length, ← r2.length, ← lim_eq]; exact hc, fun e => ?_, fun e1 e => ?_, fun e1 e2 p np => ?_⟩))
    · subst e
      have e0 := List.eq_nil_of_length_eq_zero r1.length
      subst e0
      refine q _ (if_pos hc) g H _ h (Ext.refl g H) ?_
      rcases ry with ry | ⟨o, a', e, _⟩
      · exact ry
      · cases o <;> cases e
    · subst e
      have e0 := List.eq_nil_of_length_eq_zero r2.length
      subst e0
      refine q _ (if_pos hc) g H _ h (Ext.refl g H) ?_
      rw [List.append_nil]
      rcases rx with rx | ⟨o, a', e, _⟩
      · exact rx
      · cases o <;> cases e
    · obtain ⟨a1, b1, c1⟩ := new_tup h np (r1.append r2)
      exact q _ (if_pos hc) _ _ _ a1 b1 c1
  · obtain ⟨a, vs, rfl, h1, r1⟩ := rx.lst
    obtain ⟨b, ws, rfl, h2, r2⟩ := ry.lst
    have hc := isSome_ite s
    refine .inr (.inr (.inl ⟨a, b, vs, ws, rfl, rfl, h1, h2, by rw [← r1.length, ← r2.length, ← lim_eq]; exact hc, fun p np => ?_⟩))
    exact q _ (if_pos hc) _ _ _ (h.new np) (Ext.new h np) (new_lst h np (r1.append r2))
theorem de_add (hK : X.K = W.K) (ha : DE W Wx X a φ) (hb : DE W Wx X b ψ) : DE W Wx X (.BinOp a .Add b pos) (e2 opAdd φ ψ) := de_2 ha hb (p_add hK) fun _ _ => pe_op op_addX
theorem p_sub : Prim2 W X (rI0 fun i j => .int (i - j)) opSub := by
  intro C g H vh dx dy x y Q h rx ry q s
  cases dx <;> cases dy <;> try (simp [opSub] at s; done)
  rw [rx.int, ry.int]
  exact ⟨_, _, rfl, rfl, q _ rfl g H _ h (Ext.refl g H) (by simp [RepE, Rep])⟩
theorem de_sub (ha : DE W Wx X a φ) (hb : DE W Wx X b ψ) : DE W Wx X (.BinOp a .Sub b pos) (e2 opSub φ ψ) := de_2 ha hb p_sub fun _ _ => pe_op op_sub
theorem size_rep (a : Array Nat) : ∀ (n : Nat) (acc : Array Nat), ((List.replicate n a).foldl (· ++ ·) acc).size = acc.size + n * a.size
  | 0, acc => by simp
  | n + 1, acc => by
    rw [List.replicate_succ, List.foldl_cons, size_rep a n]
    simp only [Array.size_append]
    rw [Nat.add_mul]; omega
theorem flat_nil {α : Type} : ∀ n : Nat, (List.replicate n ([] : List α)).flatten = []
  | 0 => rfl
  | n + 1 => by rw [List.replicate_succ, List.flatten_cons, flat_nil n]; rfl
def rRepS : R2 := fun x y H Q => ∃ z k, x = .str z ∧ y = .int k ∧ -1000000 < k ∧ k < 1000000 ∧ z.length * k.toNat ≤ sizeLine ∧ Q (.str (strRep z k)) H
theorem op_repS : OpR X (binaryOp .Mult) rRepS := by
  intro pins s σ H x y v u Q I rx ry h
  obtain ⟨z, k, rfl, rfl, h1, h2, hl, q⟩ := h
  obtain ⟨t, rfl⟩ := rx
  obtain ⟨t', rfl⟩ := ry
  have hs := sizeLine_eq
  refine P.mul_str (by rw [decide_eq_false (by omega), decide_eq_false (by omega)]; rfl) (fun a b => ?_) (fun a b => decide_eq_false (by omega)) ?_
  · have hz : (z.length : Int) * k ≤ 16777216 := by
      have : ((z.length * k.toNat : Nat) : Int) ≤ 16777216 := by omega
      rw [Int.natCast_mul, Int.toNat_of_nonneg (by omega)] at this
      exact this
    have hm : (16777216 : Int) ≤ (2 ^ 63 - 1) / k := (Int.le_ediv_iff_mul_le (by omega)).mpr (by omega)
    have h0 : (z.length : Int) ≤ 16777216 := by
      have : (z.length : Int) * 1 ≤ (z.length : Int) * k := Int.mul_le_mul_of_nonneg_left (by omega) (by omega)
      omega
    omega
  · unfold strRep at q
    by_cases c1 : k < 1
    · rw [if_pos c1] at q ⊢
      exact ⟨by decide, .str _, H, I.tok _, ⟨_, rfl⟩, q⟩
    · rw [if_neg c1] at q ⊢
      by_cases c2 : (k == 1 || z.length == 0) = true
      · rw [if_pos c2] at q ⊢
        exact ⟨.str z, H, I, ⟨_, rfl⟩, q⟩
      · rw [if_neg c2] at q ⊢
        refine ⟨?_, .str _, H, I.tok _, ⟨_, rfl⟩, q⟩
        show ((List.replicate k.toNat z.cps).foldl (· ++ ·) #[]).size ≤ sizeLine
        rw [size_rep, Nat.mul_comm]
        have : z.cps.size * k.toNat ≤ sizeLine := hl
        simpa using this
theorem op_mulX : OpR X (binaryOp .Mult) (fun x y H Q => rI CMul (fun i j => .int (i * j)) x y H Q ∨ (rI CMulW (fun i j => .int (i * j)) x y H Q ∨ (rRep x y H Q ∨ (rRepS x y H Q ∨ rRepA X.K x y H Q)))) := op_mul.or (op_mulW.or (op_rep.or (op_repS.or op_repA)))
theorem p_mul (hK : X.K = W.K) : Prim2 W X (fun x y H Q => rI CMul (fun i j => .int (i * j)) x y H Q ∨ (rI CMulW (fun i j => .int (i * j)) x y H Q ∨ (rRep x y H Q ∨ (rRepS x y H Q ∨ rRepA X.K x y H Q)))) opMul := by
  intro C g H vh dx dy x y Q h rx ry q s
  cases dx <;> cases dy <;> try (simp [opMul] at s; done)
  · rename_i i j
    rw [rx.int, ry.int]
    have hc := isSome_ite s
    have q' : Q (.int (i * j)) H := q _ (if_pos hc) g H _ h (Ext.refl g H) (by simp only [RepE, Rep])
    rw [mulOk_iff] at hc
    rcases hc with hc | hc | hc
    · exact .inl ⟨_, _, rfl, rfl, .inl (by constructor <;> omega), q'⟩
    · exact .inl ⟨_, _, rfl, rfl, .inr (by constructor <;> omega), q'⟩
    · exact .inr (.inl ⟨_, _, rfl, rfl, hc, q'⟩)
  · rw [rx.str, ry.int]
    have hc := isSome_ite s
    exact .inr (.inr (.inr (.inl ⟨_, _, rfl, rfl, hc.1.2, hc.1.1, by rw [← lim_eq]; exact hc.2, q _ (if_pos hc) g H _ h (Ext.refl g H) (by simp only [RepE, Rep])⟩)))
  · rename_i ds n
    obtain ⟨a, vs, rfl, h1, r1⟩ := rx.tup
    rw [ry.int]
    have hc := isSome_ite s
    refine .inr (.inr (.inr (.inr ⟨a, _, vs, rfl, rfl, by rw [hK]; exact h1, hc.1.2, hc.1.1, by rw [← r1.length, ← lim_eq]; exact hc.2, fun e => ?_, fun e1 e2 p np => ?_⟩)))
    · have e0 : RepW W g H (.tup (List.replicate n.toNat ds).flatten) (.ref a) := by
        rcases e with e | e
        · subst e
          have e0 := List.eq_nil_of_length_eq_zero r1.length
          subst e0
          rw [flat_nil]
          exact rx
        · subst e
          simpa using rx
      refine q _ (if_pos hc) g H _ h (Ext.refl g H) ?_
      rcases e0 with e0 | ⟨o, a', e', _⟩
      · exact e0
      · cases o <;> cases e'
    · obtain ⟨a1, b1, c1⟩ := new_tup h np (r1.flat _)
      exact q _ (if_pos hc) _ _ _ a1 b1 c1
  · obtain ⟨a, vs, rfl, h1, r1⟩ := rx.lst
    rw [ry.int]
    have hc := isSome_ite s
    refine .inr (.inr (.inl ⟨a, _, vs, rfl, rfl, h1, by omega, by omega, by rw [← r1.length, ← lim_eq]; exact hc.2, fun p np => ?_⟩))
    exact q _ (if_pos hc) _ _ _ (h.new np) (Ext.new h np) (new_lst h np (r1.flat _))
theorem de_mul (hK : X.K = W.K) (ha : DE W Wx X a φ) (hb : DE W Wx X b ψ) : DE W Wx X (.BinOp a .Mult b pos) (e2 opMul φ ψ) := de_2 ha hb (p_mul hK) fun _ _ => pe_op op_mulX
theorem p_div : Prim2 W X (rI CDivW fun i j => .int (i / j)) opDiv := by
  intro C g H vh dx dy x y Q h rx ry q s
  cases dx <;> cases dy <;> try (simp [opDiv] at s; done)
  rw [rx.int, ry.int]
  have hc := isSome_ite s
  have hc' := hc
  rw [divOk_iff] at hc'
  exact ⟨_, _, rfl, rfl, hc', q _ (if_pos hc) g H _ h (Ext.refl g H) (by simp only [RepE, Rep])⟩
theorem de_div (ha : DE W Wx X a φ) (hb : DE W Wx X b ψ) : DE W Wx X (.BinOp a .FloorDiv b pos) (e2 opDiv φ ψ) := de_2 ha hb p_div fun _ _ => pe_op op_fdivW
theorem p_mod : Prim2 W X (rI (fun _ j => 0 < j) fun i j => .int (i % j)) opMod := by
  intro C g H vh dx dy x y Q h rx ry q s
  cases dx <;> cases dy <;> try (simp [opMod] at s; done)
  rw [rx.int, ry.int]
  have hc := isSome_ite s
  exact ⟨_, _, rfl, rfl, hc, q _ (if_pos hc) g H _ h (Ext.refl g H) (by simp only [RepE, Rep])⟩
theorem de_mod (ha : DE W Wx X a φ) (hb : DE W Wx X b ψ) : DE W Wx X (.BinOp a .Mod b pos) (e2 opMod φ ψ) := de_2 ha hb p_mod fun _ _ => pe_op op_mod
theorem bits_le {i : Int} (h : i.natAbs.log2 < 1000) : (Builtin.Int.intBits i : Int) ≤ 1000 := by
  unfold Builtin.Int.intBits
  split <;> omega
theorem op_powX : OpR X (binaryOp .Pow) (rI (fun i j => 0 ≤ j ∧ j ≤ 1000 ∧ i.natAbs.log2 < 1000) fun i j => .int (i ^ j.toNat)) := opI fun i j _ _ _ _ _ hc q => by
  refine PyProof.Rows.pow_int hc.1 ?_ q
  have h1 := bits_le hc.2.2
  have h2 := hc.2.1
  have h3 := hc.1
  have : (Builtin.Int.intBits i : Int) * j ≤ 1000 * 1000 := Int.mul_le_mul h1 h2 h3 (by decide)
  exact Int.le_trans this (by decide)
theorem p_pow : Prim2 W X (rI (fun i j => 0 ≤ j ∧ j ≤ 1000 ∧ i.natAbs.log2 < 1000) fun i j => .int (i ^ j.toNat)) opPow := by
  intro C g H vh dx dy x y Q h rx ry q s
  cases dx <;> cases dy <;> try (simp [opPow] at s; done)
  rw [rx.int, ry.int]
  have hc := isSome_ite s
  have hc' := hc
  rw [powOk_iff] at hc'
  exact ⟨_, _, rfl, rfl, hc', q _ (if_pos hc) g H _ h (Ext.refl g H) (by simp only [RepE, Rep])⟩
theorem de_pow (ha : DE W Wx X a φ) (hb : DE W Wx X b ψ) : DE W Wx X (.BinOp a .Pow b pos) (e2 opPow φ ψ) := de_2 ha hb p_pow fun _ _ => pe_op op_powX
def opNeg : D → Option EV
  | .int i => vI (-i)
  | _ => none
theorem p_neg : Prim1 W X (rU fun i => .int (-i)) opNeg := by
  intro C g H vh dx x Q h rx q s
  cases dx <;> try (simp [opNeg] at s; done)
  rw [rx.int]
  exact ⟨_, rfl, q _ rfl g H _ h (Ext.refl g H) (by simp [RepE, Rep])⟩
theorem de_neg (ha : DE W Wx X a φ) : DE W Wx X (.UnaryOp .USub a pos) (e1 opNeg φ) := de_1 ha p_neg fun _ => pe_un un_neg

/-! ### comparisons -/
def strLt (x y : Str) : Bool := decide (x.cps.toList < y.cps.toList)
def opLt : D → D → Option EV
  | .int i, .int j => vB (decide (i < j))
  | .str x, .str y => vB (strLt x y)
  | _, _ => none
def opGt : D → D → Option EV
  | .int i, .int j => vB (decide (j < i))
  | .str x, .str y => vB (strLt y x)
  | _, _ => none
def opLe : D → D → Option EV
  | .int i, .int j => vB (decide (i ≤ j))
  | .str x, .str y => vB (!strLt y x)
  | _, _ => none
def opGe : D → D → Option EV
  | .int i, .int j => vB (decide (j ≤ i))
  | .str x, .str y => vB (!strLt x y)
  | _, _ => none
abbrev rSS (g : Str → Str → Bool) : R2 := fun x y H Q => ∃ i j, x = .str i ∧ y = .str j ∧ Q (.bl (g i j)) H
theorem p_cmp {f : Int → Int → Bool} {g : Str → Str → Bool} {p : D → D → Option EV} (h1 : ∀ i j, p (.int i) (.int j) = vB (f i j)) (h2 : ∀ i j, p (.str i) (.str j) = vB (g i j))
    (h3 : ∀ x y, (p x y).isSome = true → (∃ i j, x = .int i ∧ y = .int j) ∨ ∃ i j, x = .str i ∧ y = .str j) : Prim2 W X (fun x y H Q => rI0 (fun i j => .bl (f i j)) x y H Q ∨ rSS g x y H Q) p := by
  intro C g H vh dx dy x y Q h rx ry q s
  rcases h3 dx dy s with ⟨i, j, rfl, rfl⟩ | ⟨i, j, rfl, rfl⟩
  · rw [rx.int, ry.int]
    exact .inl ⟨_, _, rfl, rfl, q _ (h1 i j) _ H _ h (Ext.refl _ H) (by simp [RepE, Rep])⟩
  · rw [rx.str, ry.str]
    exact .inr ⟨_, _, rfl, rfl, q _ (h2 i j) _ H _ h (Ext.refl _ H) (by simp [RepE, Rep])⟩
theorem p_lt : Prim2 W X (fun x y H Q => rI0 (fun i j => .bl (decide (i < j))) x y H Q ∨ rSS strLt x y H Q) opLt :=
  p_cmp (fun _ _ => rfl) (fun _ _ => rfl) fun x y s => by cases x <;> cases y <;> first | (simp [opLt] at s; done) | exact .inl ⟨_, _, rfl, rfl⟩ | exact .inr ⟨_, _, rfl, rfl⟩
theorem p_gt : Prim2 W X (fun x y H Q => rI0 (fun i j => .bl (decide (j < i))) x y H Q ∨ rSS (fun i j => strLt j i) x y H Q) opGt :=
  p_cmp (fun _ _ => rfl) (fun _ _ => rfl) fun x y s => by cases x <;> cases y <;> first | (simp [opGt] at s; done) | exact .inl ⟨_, _, rfl, rfl⟩ | exact .inr ⟨_, _, rfl, rfl⟩
theorem p_le : Prim2 W X (fun x y H Q => rI0 (fun i j => .bl (decide (i ≤ j))) x y H Q ∨ rSS (fun i j => !strLt j i) x y H Q) opLe :=
  p_cmp (fun _ _ => rfl) (fun _ _ => rfl) fun x y s => by cases x <;> cases y <;> first | (simp [opLe] at s; done) | exact .inl ⟨_, _, rfl, rfl⟩ | exact .inr ⟨_, _, rfl, rfl⟩
theorem p_ge : Prim2 W X (fun x y H Q => rI0 (fun i j => .bl (decide (j ≤ i))) x y H Q ∨ rSS (fun i j => !strLt i j) x y H Q) opGe :=
  p_cmp (fun _ _ => rfl) (fun _ _ => rfl) fun x y s => by cases x <;> cases y <;> first | (simp [opGe] at s; done) | exact .inl ⟨_, _, rfl, rfl⟩ | exact .inr ⟨_, _, rfl, rfl⟩
theorem or_lt : OpR X (compareOp .Lt) (fun x y H Q => rI0 (fun i j => .bl (decide (i < j))) x y H Q ∨ rSS strLt x y H Q) := op_lt.or op_lt_str
theorem or_gt : OpR X (compareOp .Gt) (fun x y H Q => rI0 (fun i j => .bl (decide (j < i))) x y H Q ∨ rSS (fun i j => strLt j i) x y H Q) := op_gt.or op_gt_str
theorem or_le : OpR X (compareOp .LtE) (fun x y H Q => rI0 (fun i j => .bl (decide (i ≤ j))) x y H Q ∨ rSS (fun i j => !strLt j i) x y H Q) := op_le.or op_le_str
theorem or_ge : OpR X (compareOp .GtE) (fun x y H Q => rI0 (fun i j => .bl (decide (j ≤ i))) x y H Q ∨ rSS (fun i j => !strLt i j) x y H Q) := op_ge.or op_ge_str
/-- a comparison: what is shown of its operator and its prim -/
structure CmpOk (W : Wd) (X : Cx) (op : CmpOp) (p : D → D → Option EV) : Prop where
  ex : ∃ r, OpR X (compareOp op) r ∧ Prim2 W X r p
theorem c_lt : CmpOk W X .Lt opLt := ⟨_, or_lt, p_lt⟩
theorem c_gt : CmpOk W X .Gt opGt := ⟨_, or_gt, p_gt⟩
theorem c_le : CmpOk W X .LtE opLe := ⟨_, or_le, p_le⟩
theorem c_ge : CmpOk W X .GtE opGe := ⟨_, or_ge, p_ge⟩
theorem de_cmp {op : CmpOp} {p : D → D → Option EV} (o : CmpOk W X op p) (ha : DE W Wx X a φ) (hb : DE W Wx X b ψ) (hm : behindInMarks op b = false) : DE W Wx X (.Compare a [op] [b] pos) (e2 p φ ψ) := by
  obtain ⟨r, h1, h2⟩ := o.ex
  exact de_2 ha hb h2 fun _ _ x y => pe_cmpR h1 x y hm
theorem dt_cmp {op : CmpOp} {p : D → D → Option EV} (o : CmpOk W X op p) (ha : DE W Wx X a φ) (hb : DE W Wx X b ψ) (hm : behindInMarks op b = false) : DT W Wx X (.Compare a [op] [b] pos) (etoT (e2 p φ ψ)) := by
  obtain ⟨r, h1, h2⟩ := o.ex
  exact dt_2 ha hb h2 fun _ _ x y => pt_cmpR h1 x y hm

/-! ### == of data -/
mutual
def toPy : D → Option PyData
  | .non => some .none
  | .bl b => some (.bool b)
  | .int i => some (.int i)
  | .str x => some (.str x)
  | .lst xs => (toPys xs).map .list
  | .tup xs => (toPys xs).map .tuple
  | _ => none
def toPys : List D → Option (List PyData)
  | [] => some []
  | x :: xs => match toPy x, toPys xs with
    | some a, some b => some (a :: b)
    | _, _ => none
end
def eqDeep (x y : D) : Option Bool := match toPy x, toPy y with
  | some a, some b => if SeqAt.shaped a && SeqAt.shaped b then some (PyData.eqv a b) else none
  | _, _ => none
/-- flat values -/
def scV : D → Option V
  | .non => some .non
  | .bl b => some (.bl b)
  | .int i => some (.int i)
  | .str x => some (.str x)
  | _ => none
def eqD (x y : D) : Option Bool := match scV x, scV y with
  | some a, some b => if scal a b = true then some (decide (a = b)) else eqDeep x y
  | _, _ => eqDeep x y
def opEq (x y : D) : Option EV := (eqD x y).bind vB
def opNe (x y : D) : Option EV := (eqD x y).bind fun b => vB (!b)
mutual
theorem Rep.dp {g : Gh} {H : Hp} : ∀ {d : D} {v : V} {p : PyData}, Rep W g H d v → toPy d = some p → Dp W.K H v p
  | .non, v, p, r, e => by simp only [Rep] at r; simp only [toPy, Option.some.injEq] at e; subst r e; exact .non
  | .bl b, v, p, r, e => by simp only [Rep] at r; simp only [toPy, Option.some.injEq] at e; subst r e; exact .bl b
  | .int b, v, p, r, e => by simp only [Rep] at r; simp only [toPy, Option.some.injEq] at e; subst r e; exact .int b
  | .str b, v, p, r, e => by simp only [Rep] at r; simp only [toPy, Option.some.injEq] at e; subst r e; exact .str b
  | .lst xs, v, p, r, e => by
    simp only [Rep] at r
    obtain ⟨a, vs, rfl, f, h1, h2⟩ := r
    simp only [toPy, Option.map_eq_some_iff] at e
    obtain ⟨ps, e1, rfl⟩ := e
    exact .lst (SqL.of h1) (Reps.dp h2 e1)
  | .tup xs, v, p, r, e => by
    simp only [Rep] at r
    obtain ⟨a, vs, rfl, h1, h2⟩ := r
    simp only [toPy, Option.map_eq_some_iff] at e
    obtain ⟨ps, e1, rfl⟩ := e
    exact .tup h1.sq (Reps.dp h2 e1)
  | .dct _, v, p, r, e => by simp [toPy] at e
  | .st _, v, p, r, e => by simp [toPy] at e
  | .ins _ _, v, p, r, e => by simp [toPy] at e
  | .ref _, v, p, r, e => by simp [toPy] at e
  | .fn _, v, p, r, e => by simp [toPy] at e
  | .cls _, v, p, r, e => by simp [toPy] at e
  | .ty _, v, p, r, e => by simp [toPy] at e
  | .scr _, v, p, r, e => by simp [toPy] at e
theorem Reps.dp {g : Gh} {H : Hp} : ∀ {ds : List D} {vs : List V} {ps : List PyData}, Reps W g H ds vs → toPys ds = some ps → DpAll W.K H vs ps
  | [], vs, ps, r, e => by simp only [Reps] at r; simp only [toPys, Option.some.injEq] at e; subst r e; exact .nil
  | d :: ds, vs, ps, r, e => by
    simp only [Reps] at r
    obtain ⟨v, s, rfl, h1, h2⟩ := r
    simp only [toPys] at e
    cases e1 : toPy d with
    | none => rw [e1] at e; cases e
    | some a =>
      cases e2 : toPys ds with
      | none => rw [e1, e2] at e; cases e
      | some b => rw [e1, e2] at e; cases e; exact .cons (Rep.dp h1 e1) (Reps.dp h2 e2)
end
theorem RepW.dp {g : Gh} {H : Hp} {d : D} {v : V} {p : PyData} (r : RepW W g H d v) (e : toPy d = some p) : Dp W.K H v p := by
  rcases r with r | ⟨o, a, rfl, rfl, ho⟩
  · exact r.dp e
  · cases o with
    | lst xs =>
      obtain ⟨vs, h1, h2⟩ := ho
      simp only [O.toD, toPy, Option.map_eq_some_iff] at e
      obtain ⟨ps, e1, rfl⟩ := e
      exact .lst (SqL.of h1) (h2.dp e1)
    | _ => simp [O.toD, toPy] at e
theorem eqDeep_some {x y : D} {b : Bool} (e : eqDeep x y = some b) : ∃ p q, toPy x = some p ∧ toPy y = some q ∧ SeqAt.shaped p = true ∧ SeqAt.shaped q = true ∧ b = PyData.eqv p q := by
  unfold eqDeep at e
  cases e1 : toPy x with
  | none => rw [e1] at e; cases e
  | some p =>
    cases e2 : toPy y with
    | none => rw [e1, e2] at e; cases e
    | some q =>
      rw [e1, e2] at e
      dsimp only at e
      split at e
      · rename_i hc
        cases e
        simp only [Bool.and_eq_true] at hc
        exact ⟨p, q, rfl, rfl, hc.1, hc.2, rfl⟩
      · cases e
theorem RepW.sc {g : Gh} {H : Hp} {d : D} {v x : V} (r : RepW W g H d v) (e : scV d = some x) : v = x := by
  cases d with
  | non => cases e; exact r.non
  | bl b => cases e; exact r.bl
  | int b => cases e; exact r.int
  | str b => cases e; exact r.str
  | _ => cases e
theorem eqD_some {x y : D} {b : Bool} (e : eqD x y = some b) : (∃ u v, scV x = some u ∧ scV y = some v ∧ scal u v = true ∧ b = decide (u = v)) ∨ eqDeep x y = some b := by
  unfold eqD at e
  cases e1 : scV x with
  | none => rw [e1] at e; exact .inr e
  | some p =>
    cases e2 : scV y with
    | none => rw [e1, e2] at e; exact .inr e
    | some q =>
      rw [e1, e2] at e
      dsimp only at e
      split at e
      · rename_i hc
        cases e
        exact .inl ⟨p, q, rfl, rfl, hc, rfl⟩
      · exact .inr e
theorem c_eq (hK : X.K = W.K) {k : Nat} (hr : Room k X.A) : CmpOk W X .Eq opEq := ⟨_, op_eq.or (op_eqD hr.units), by
  intro C g H vh dx dy x y Q h rx ry q s
  unfold opEq at s q
  cases e : eqD dx dy with
  | none => rw [e] at s; cases s
  | some b =>
    rw [e] at q
    have q' : Q (.bl b) H := q _ rfl g H _ h (Ext.refl g H) (by simp [RepE, Rep])
    rcases eqD_some e with ⟨u, v, e1, e2, e3, rfl⟩ | e
    · rw [rx.sc e1, ry.sc e2]
      exact .inl ⟨e3, q'⟩
    · obtain ⟨p, p', e1, e2, s1, s2, rfl⟩ := eqDeep_some e
      rw [hK]
      exact .inr ⟨p, p', rx.dp e1, ry.dp e2, s1, s2, q'⟩⟩
theorem c_ne (hK : X.K = W.K) {k : Nat} (hr : Room k X.A) : CmpOk W X .NotEq opNe := ⟨_, op_ne.or (op_neD hr.units), by
  intro C g H vh dx dy x y Q h rx ry q s
  unfold opNe at s q
  cases e : eqD dx dy with
  | none => rw [e] at s; cases s
  | some b =>
    rw [e] at q
    have q' : Q (.bl (!b)) H := q _ rfl g H _ h (Ext.refl g H) (by simp [RepE, Rep])
    rcases eqD_some e with ⟨u, v, e1, e2, e3, rfl⟩ | e
    · rw [rx.sc e1, ry.sc e2]
      exact .inl ⟨e3, q'⟩
    · obtain ⟨p, p', e1, e2, s1, s2, rfl⟩ := eqDeep_some e
      rw [hK]
      exact .inr ⟨p, p', rx.dp e1, ry.dp e2, s1, s2, q'⟩⟩
/-- is None -/
def isNon : D → Bool
  | .non => true
  | _ => false
def opIs : D → D → Option EV
  | x, .non => vB (isNon x)
  | _, _ => none
def opIsNot : D → D → Option EV
  | x, .non => vB (!isNon x)
  | _, _ => none
theorem RepW.isNon {g : Gh} {H : Hp} {d : D} {v : V} (r : RepW W g H d v) : decide (v = .non) = isNon d := by
  rcases r with r | ⟨o, a, rfl, rfl, ho⟩
  · cases d <;> simp only [Rep] at r <;> first
      | (subst r; rfl)
      | (obtain ⟨rfl, _, _⟩ := r; rfl)
      | (obtain ⟨a, vs, rfl, r⟩ := r; rfl)
      | (obtain ⟨a, S, n, rfl, r⟩ := r; rfl)
      | (obtain ⟨r, rfl⟩ := r; rfl)
      | (obtain ⟨a, rfl, r⟩ := r; rfl)
  · cases o <;> rfl
theorem c_is : CmpOk W X .Is opIs := ⟨_, op_isN, by
  intro C g H vh dx dy x y Q h rx ry q s
  cases dy <;> try (simp [opIs] at s; done)
  exact ⟨ry.non, q _ rfl g H _ h (Ext.refl g H) (by simp only [RepE, Rep]; rw [rx.isNon])⟩⟩
theorem c_isnot : CmpOk W X .IsNot opIsNot := ⟨_, op_notN, by
  intro C g H vh dx dy x y Q h rx ry q s
  cases dy <;> try (simp [opIsNot] at s; done)
  exact ⟨ry.non, q _ rfl g H _ h (Ext.refl g H) (by simp only [RepE, Rep]; rw [rx.isNon])⟩⟩
end
end
end PM

/-! PM5: subscripts, slices, in, attributes, built-ins by name. -/
namespace PM
open PySem L2
noncomputable section

/-! ### flat values -/
def scVs : List D → Option (List V)
  | [] => some []
  | x :: xs => match scV x, scVs xs with
    | some a, some b => some (a :: b)
    | _, _ => none
def dget : List (D × D) → Key → Option D
  | [], _ => none
  | (k, d) :: r, y => if keyD k = some y then some d else dget r y
def pIx : D → D → Option EV
  | .lst xs, .int i => (atI xs i).map EV.v
  | .tup xs, .int i => (atI xs i).map EV.v
  | .str z, .int i => if z.length ≤ lim then (atI z.cps.toList i).map fun c => EV.v (.str ⟨#[c]⟩) else none
  | .scr ns, .int i => (atI ns i).map fun j => EV.v (.int j)
  | .dct kvs, k => (keyD k).bind fun y => (dget kvs y).map EV.v
  | _, _ => none
def inD (x : D) (xs : List D) : Option Bool := match scV x, scVs xs with
  | some a, some bs => some (inV a bs)
  | _, _ => none
def pIn : D → D → Option Bool
  | x, .lst xs => inD x xs
  | x, .tup xs => inD x xs
  | k, .dct kvs => (keyD k).map fun y => (dget kvs y).isSome
  | .str x, .str z => if x.cps.size = 1 then some (decide (x.cps.toList.headD 0 ∈ z.cps.toList)) else none
  | _, _ => none
def opIn (x c : D) : Option EV := (pIn x c).bind vB
def opNotIn (x c : D) : Option EV := (pIn x c).bind fun b => vB (!b)

section
variable {W : Wd} {Wx : WX} {X : Cx} {a b c : Expr} {φ ψ χ : EF} {pos : Pos} {g g0 : Gh} {H H0 : Hp} {σ : St} {sl : Sl} {vh : VH} {C : Con}
theorem scV_flat {d : D} {x : V} (e : scV d = some x) : flatV x = true := by
  cases d <;> simp [scV] at e <;> subst e <;> rfl
theorem Reps.sc : ∀ {ds : List D} {vs xs : List V}, Reps W g H ds vs → scVs ds = some xs → vs = xs
  | [], vs, xs, r, e => by simp only [Reps] at r; simp only [scVs, Option.some.injEq] at e; rw [r, e]
  | d :: ds, vs, xs, r, e => by
    simp only [Reps] at r
    obtain ⟨v, s, rfl, h1, h2⟩ := r
    simp only [scVs] at e
    cases e1 : scV d with
    | none => rw [e1] at e; cases e
    | some a =>
      cases e2 : scVs ds with
      | none => rw [e1, e2] at e; cases e
      | some b =>
        rw [e1, e2] at e
        cases e
        rw [RepW.sc (.inl h1) e1, Reps.sc h2 e2]
theorem scVs_flat : ∀ {ds : List D} {xs : List V}, scVs ds = some xs → xs.all flatV = true
  | [], xs, e => by simp only [scVs, Option.some.injEq] at e; subst e; rfl
  | d :: ds, xs, e => by
    simp only [scVs] at e
    cases e1 : scV d with
    | none => rw [e1] at e; cases e
    | some a =>
      cases e2 : scVs ds with
      | none => rw [e1, e2] at e; cases e
      | some b =>
        rw [e1, e2] at e
        cases e
        rw [List.all_cons, scV_flat e1, scVs_flat e2]
        rfl
theorem inD_some {x : D} {xs : List D} {k : Bool} (e : inD x xs = some k) : ∃ a bs, scV x = some a ∧ scVs xs = some bs ∧ k = inV a bs := by
  unfold inD at e
  cases e1 : scV x with
  | none => rw [e1] at e; cases e
  | some a =>
    cases e2 : scVs xs with
    | none => rw [e1, e2] at e; cases e
    | some b => rw [e1, e2] at e; cases e; exact ⟨a, b, rfl, rfl, rfl⟩
theorem keyD_kV {k : D} {v : V} {y : Key} (r : RepW W g H k v) (e : keyD k = some y) : v = kV y := by
  cases k with
  | int i => cases e; exact r.int
  | str i => cases e; exact r.str
  | _ => cases e
theorem RepKV.get : ∀ {kvs : List (D × D)} {ws : List (Key × V)} (y : Key), RepKV W g H kvs ws → (dget kvs y = none ∧ valV ws y = none) ∨ ∃ d v, dget kvs y = some d ∧ valV ws y = some v ∧ Rep W g H d v
  | [], ws, y, r => by simp only [RepKV] at r; subst r; exact .inl ⟨rfl, rfl⟩
  | (k, d) :: kvs, ws, y, r => by
    simp only [RepKV] at r
    obtain ⟨k', v, s, rfl, e, h1, h2⟩ := r
    unfold dget
    by_cases hk : k' = y
    · subst hk
      rw [if_pos e, valV_pos rfl]
      exact .inr ⟨d, v, rfl, rfl, h1⟩
    · rw [if_neg (by rw [e]; exact fun z => hk (Option.some.inj z)), valV_neg hk]
      exact RepKV.get y h2
theorem Reps.atI {ds : List D} {vs : List V} {i : Int} {d : D} (r : Reps W g H ds vs) (e : L2.atI ds i = some d) : ∃ v, L2.atI vs i = some v ∧ Rep W g H d v := by
  unfold L2.atI at e ⊢
  rw [← r.length]
  cases h : ixN ds.length i with
  | none => rw [h] at e; cases e
  | some j => rw [h] at e; exact r.get e
def rIxD : R2 := fun x y H Q => ∃ a v, x = .ref a ∧ DGet H a y (some v) ∧ Q v H
theorem ix_dict (hu : X.A.units + 1 < cLine) : IxR X rIxD := by
  intro value slice pins s σ H x y v u Q I rx ry h hs
  obtain ⟨a, z, rfl, hg, q⟩ := h
  cases rx
  exact PyProof.Rows.tail_any (dict_typeIs I hg) PySem.F.slot_dict_getitem.lookup (d_getItem hu I hg ry fun w' s' I' r' => ⟨z, H, I', r', q⟩) hs
theorem opt_map_some {α β : Type} {o : Option α} {f : α → β} (h : (o.map f).isSome = true) : ∃ x, o = some x := by
  cases o with
  | none => cases h
  | some x => exact ⟨x, rfl⟩
theorem p_ix (hK : X.K = W.K) : Prim2 W X (fun x y H Q => rIx X.K x y H Q ∨ rIxD x y H Q) pIx := by
  intro C g H vh dx dy x y Q h rx ry q s
  cases dx with
  | lst xs =>
    cases dy with
    | int i =>
      obtain ⟨a, vs, rfl, h1, r1⟩ := rx.lst
      rw [ry.int]
      obtain ⟨d, e⟩ := opt_map_some s
      obtain ⟨v, ev, rv⟩ := r1.atI e
      exact .inl (.inl ⟨a, vs, i, v, rfl, rfl, SqL.of h1, ev, q (.v d) (by simp only [pIx, e, Option.map_some]) g H v h (Ext.refl g H) rv⟩)
    | _ => cases s
  | tup xs =>
    cases dy with
    | int i =>
      obtain ⟨a, vs, rfl, h1, r1⟩ := rx.tup
      rw [ry.int]
      obtain ⟨d, e⟩ := opt_map_some s
      obtain ⟨v, ev, rv⟩ := r1.atI e
      exact .inl (.inr (.inl ⟨a, vs, i, v, rfl, rfl, by rw [hK]; exact h1, ev, q (.v d) (by simp only [pIx, e, Option.map_some]) g H v h (Ext.refl g H) rv⟩))
    | _ => cases s
  | str z =>
    cases dy with
    | int i =>
      rw [rx.str, ry.int]
      simp only [pIx] at s q
      split at s
      · rename_i hc
        obtain ⟨d, e⟩ := opt_map_some s
        exact .inl (.inr (.inr ⟨z, i, d, rfl, rfl, by rw [← lim_eq]; exact hc, e, q (.v (.str ⟨#[d]⟩)) (by rw [if_pos hc, e]; rfl) g H _ h (Ext.refl g H) (by simp [RepE, Rep])⟩))
      · cases s
    | _ => cases s
  | scr ns =>
    cases dy with
    | int i =>
      obtain ⟨a, rfl, h1⟩ := rx.scr
      rw [ry.int]
      obtain ⟨j, e⟩ := opt_map_some s
      refine .inl (.inl ⟨a, ns.map V.int, i, .int j, rfl, rfl, by rw [hK]; exact h1, ?_, q (.v (.int j)) (by simp only [pIx, e, Option.map_some]) g H _ h (Ext.refl g H) (by simp [RepE, Rep])⟩)
      unfold L2.atI at e ⊢
      rw [List.length_map]
      cases hh : ixN ns.length i with
      | none => rw [hh] at e; cases e
      | some k =>
        rw [hh] at e
        have e : ns[k]? = some j := e
        show (ns.map V.int)[k]? = some (V.int j)
        rw [List.getElem?_map, e]
        rfl
    | _ => cases s
  | dct kvs =>
    obtain ⟨a, ws, rfl, h1, r1⟩ := rx.dct
    simp only [pIx] at s q
    cases e : keyD dy with
    | none => rw [e] at s; cases s
    | some k =>
      rw [e] at s q
      rcases r1.get k with ⟨e1, e2⟩ | ⟨d, v, e1, e2, rv⟩
      · dsimp only [Option.bind_some] at s; rw [e1] at s; cases s
      · exact .inr ⟨a, v, rfl, .inl ⟨ws, k, h1, keyD_kV ry e, e2.symm⟩, q (.v d) (by dsimp only [Option.bind_some]; rw [e1]; rfl) g H v h (Ext.refl g H) rv⟩
  | _ => cases s
theorem de_ix (hK : X.K = W.K) {k : Nat} (hr : Room k X.A) (ha : DE W Wx X a φ) (hb : DE W Wx X b ψ) (hs : PlainIx b) : DE W Wx X (.Subscript a b pos) (e2 pIx φ ψ) :=
  de_2 ha hb (p_ix hK) fun _ _ x y => pe_ix (ix_seq.or (ix_dict (hu_of hr))) x y hs
def rInX (K : PySem.W.Frag) (neg : Bool) : R2 := fun x y H Q => rIn K neg x y H Q ∨ ((∃ a o, y = .ref a ∧ DGet H a x o ∧ Q (.bl (if neg then !o.isSome else o.isSome)) H) ∨
  ∃ (c : Nat) (z : Str), x = .str ⟨#[c]⟩ ∧ y = .str z ∧ Q (.bl (if neg then !decide (c ∈ z.cps.toList) else decide (c ∈ z.cps.toList))) H)
theorem op_in_dict (hu : X.A.units + 1 < cLine) : OpR X (compareOp .In) (fun x y H Q => ∃ a o, y = .ref a ∧ DGet H a x o ∧ Q (.bl o.isSome) H) := by
  intro pins s σ H x y v u Q I rx ry h
  obtain ⟨a, o, rfl, hg, q⟩ := h
  cases ry
  exact d_in hu I hg rx fun s' I' => ⟨.bl o.isSome, H, I', rfl, q⟩
theorem op_notIn_dict (hu : X.A.units + 1 < cLine) : OpR X (compareOp .NotIn) (fun x y H Q => ∃ a o, y = .ref a ∧ DGet H a x o ∧ Q (.bl (!o.isSome)) H) := by
  intro pins s σ H x y v u Q I rx ry h
  obtain ⟨a, o, rfl, hg, q⟩ := h
  cases ry
  exact d_notIn hu I hg rx fun s' I' => ⟨.bl (!o.isSome), H, I', rfl, q⟩
theorem p_inG (hK : X.K = W.K) (neg : Bool) : Prim2 W X (rInX X.K neg) (fun x y => (pIn x y).bind fun b => vB (if neg then !b else b)) := by
  intro C g H vh dx dy x y Q h rx ry q s
  dsimp only at s q
  cases e : pIn dx dy with
  | none => rw [e] at s; cases s
  | some k =>
    rw [e] at q
    have q' : Q (.bl (if neg then !k else k)) H := q _ rfl g H _ h (Ext.refl g H) (by simp [RepE, Rep])
    cases dy with
    | lst xs =>
      obtain ⟨a, vs, rfl, h1, r1⟩ := ry.lst
      obtain ⟨a', bs, e1, e2, rfl⟩ := inD_some (x := dx) (xs := xs) (by cases dx <;> exact e)
      refine .inl ⟨a, vs, rfl, .inl (SqL.of h1), ?_, ?_, ?_⟩
      · rw [rx.sc e1]; exact scV_flat e1
      · rw [r1.sc e2]; exact scVs_flat e2
      · rw [rx.sc e1, r1.sc e2]; exact q'
    | tup xs =>
      obtain ⟨a, vs, rfl, h1, r1⟩ := ry.tup
      obtain ⟨a', bs, e1, e2, rfl⟩ := inD_some (x := dx) (xs := xs) (by cases dx <;> exact e)
      refine .inl ⟨a, vs, rfl, .inr (by rw [hK]; exact h1), ?_, ?_, ?_⟩
      · rw [rx.sc e1]; exact scV_flat e1
      · rw [r1.sc e2]; exact scVs_flat e2
      · rw [rx.sc e1, r1.sc e2]; exact q'
    | dct kvs =>
      obtain ⟨a, ws, rfl, h1, r1⟩ := ry.dct
      have e : (keyD dx).map (fun y => (dget kvs y).isSome) = some k := by cases dx <;> exact e
      cases e3 : keyD dx with
      | none => rw [e3] at e; cases e
      | some y =>
        rw [e3] at e
        cases e
        refine .inr (.inl ⟨a, valV ws y, rfl, .inl ⟨ws, y, h1, keyD_kV rx e3, rfl⟩, ?_⟩)
        dsimp only at q'
        rcases r1.get y with ⟨e1, e2⟩ | ⟨d, v, e1, e2, _⟩ <;> rw [e2] <;> rw [e1] at q' <;> exact q'
    | str z =>
      cases dx with
      | str w =>
        simp only [pIn] at e
        split at e
        · rename_i hc
          obtain ⟨⟨l⟩⟩ := w
          have hc : l.length = 1 := by simpa using hc
          obtain ⟨c, rfl⟩ := List.length_eq_one_iff.mp hc
          cases e
          rw [rx.str, ry.str]
          exact .inr (.inr ⟨c, z, rfl, rfl, q'⟩)
        · cases e
      | _ => cases e
    | _ => cases dx <;> cases e
theorem c_in (hK : X.K = W.K) {k : Nat} (hr : Room k X.A) : CmpOk W X .In opIn :=
  ⟨rInX X.K false, op_in_seq.or ((op_in_dict (hu_of hr)).or op_in_sign), p_inG hK false⟩
theorem c_notin (hK : X.K = W.K) {k : Nat} (hr : Room k X.A) : CmpOk W X .NotIn opNotIn :=
  ⟨rInX X.K true, op_notIn_seq.or ((op_notIn_dict (hu_of hr)).or op_notIn_sign), p_inG hK true⟩

/-! ### slices -/
abbrev OFn := Sl → VH → R (Option Int)
def oNone : OFn := fun _ vh => .ok none vh
def oSome (φ : EF) : OFn := fun sl vh => match φ sl vh with
  | .ok (.v (.int i)) vh' => .ok (some i) vh'
  | .ok _ _ => .bad
  | .exc x vh' => .exc x vh'
  | .bad => .bad
def ob (ω : OFn) (k : Option Int → EF) : EF := fun sl vh => match ω sl vh with
  | .ok o vh' => k o sl vh'
  | .exc x vh' => .exc x vh'
  | .bad => .bad
def PostO (W : Wd) (C : Con) (Wx : WX) (g0 : Gh) (H0 : Hp) (σ : St) (sl : Sl) (r : R (Option Int)) (Q : Option Int → Hp → Prop) : Prop :=
  match r with
  | .bad => False
  | .ok b vh => ∀ g H, RelH W C g vh H → RelS W g H sl σ → Ext g0 H0 g H → Q b H
  | .exc x vh => ∀ g H c od, RelH W C g vh H → RelS W g H sl σ → Ext g0 H0 g H → XRep W g H x c od → Wx c od σ H
def TDO (W : Wd) (C : Con) (Wx : WX) (ω : OFn) : TO := fun σ H Q => ∃ g sl vh, RelH W C g vh H ∧ RelS W g H sl σ ∧ PostO W C Wx g H σ sl (ω sl vh) Q
def DO (W : Wd) (Wx : WX) (X : Cx) (e : Option Expr) (ω : OFn) : Prop := ∀ C, PO X e (TDO W C Wx ω)
theorem po_imp {e : Option Expr} {t t' : TO} (h : PO X e t) (i : ∀ σ H Q, t' σ H Q → t σ H Q) : PO X e t' := ⟨fun pins s σ H Q I q => h.run pins s σ H Q I (i σ H Q q)⟩
theorem do_none : DO W Wx X none oNone := fun C => po_imp po_none fun σ H Q ⟨g, sl, vh, h, hs, q⟩ => q g H h hs (Ext.refl g H)
theorem do_some {e : Expr} (ha : DE W Wx X e φ) : DO W Wx X (some e) (oSome φ) := fun C => po_imp (po_some (ha C)) fun σ H Q ⟨g, sl, vh, h, hs, q⟩ => by
  refine ⟨g, sl, vh, h, hs, ?_⟩
  unfold oSome at q
  cases r : φ sl vh with
  | bad => rw [r] at q; exact q
  | exc x vh1 => rw [r] at q; exact q
  | ok e vh1 =>
    rw [r] at q
    cases e with
    | f o => exact q.elim
    | v d =>
      cases d with
      | int k => exact fun g1 H1 v h1 s1 x1 r1 => ⟨k, by simpa only [RepE, Rep] using r1, q g1 H1 h1 s1 x1⟩
      | _ => exact q.elim
theorem TDO.bind {ω : OFn} {k : Option Int → EF} {Q : VK} (h : RelH W C g vh H) (hs : RelS W g H sl σ) (e0 : Ext g0 H0 g H) (q : PostE W C Wx g0 H0 σ sl (ob ω k sl vh) Q) :
    TDO W C Wx ω σ H (fun b H1 => ∃ g1 vh1, RelH W C g1 vh1 H1 ∧ RelS W g1 H1 sl σ ∧ Ext g0 H0 g1 H1 ∧ Ext g H g1 H1 ∧ PostE W C Wx g0 H0 σ sl (k b sl vh1) Q) := by
  refine ⟨g, sl, vh, h, hs, ?_⟩
  unfold ob at q
  cases r : ω sl vh with
  | bad => rw [r] at q; exact q
  | ok b vh1 =>
    rw [r] at q
    exact fun g1 H1 h1 s1 x1 => ⟨g1, vh1, h1, s1, e0.trans x1, x1, q⟩
  | exc x vh1 =>
    rw [r] at q
    exact fun g1 H1 c od h1 s1 x1 r1 => q g1 H1 c od h1 s1 (e0.trans x1) r1
theorem TDO.mono {φ : OFn} {Q Q' : Option Int → Hp → Prop} (t : TDO W C Wx φ σ H Q) (m : ∀ v H, Q v H → Q' v H) : TDO W C Wx φ σ H Q' := by
  obtain ⟨g, sl, vh, h, hs, q⟩ := t
  refine ⟨g, sl, vh, h, hs, ?_⟩
  cases r : φ sl vh with
  | bad => rw [r] at q; exact q
  | ok e vh1 => rw [r] at q; exact fun g1 H1 h1 s1 x1 => m _ _ (q g1 H1 h1 s1 x1)
  | exc x vh1 => rw [r] at q; exact q
def cutL {α : Type} (xs : List α) (lo hi : Option Int) : List α := (xs.drop (HT.sIx xs.length 0 lo)).take (HT.sIx xs.length xs.length hi - HT.sIx xs.length 0 lo)
def pCut (d : D) (lo hi : Option Int) : Option EV := match d with
  | .lst xs => some (.f (.lst (cutL xs lo hi)))
  | .tup xs => some (.v (.tup (cutL xs lo hi)))
  | .str z => if z.length ≤ lim then vS (cutS z lo hi) else none
  | _ => none
def eCut (φ : EF) (ω υ : OFn) : EF := eb φ fun d => ob ω fun lo => ob υ fun hi _ vh => lift (pCut (view vh d) lo hi) vh
theorem Reps.cut {xs : List D} {vs : List V} (r : Reps W g H xs vs) (lo hi : Option Int) : Reps W g H (cutL xs lo hi) (cutV vs lo hi) := by
  unfold cutL cutV
  rw [r.length]
  exact (r.drop _).take _
theorem cutL_all {xs : List D} {lo hi : Option Int} (h : HT.sIx xs.length 0 lo = 0 ∧ HT.sIx xs.length xs.length hi = xs.length) : cutL xs lo hi = xs := by
  unfold cutL
  rw [h.1, h.2]
  simp
theorem de_cut (hK : X.K = W.K) {lo hi : Option Expr} {ω υ : OFn} {p2 : Pos} (ha : DE W Wx X a φ) (hl : DO W Wx X lo ω) (hh : DO W Wx X hi υ) : DE W Wx X (.Subscript a (.Slice lo hi none p2) pos) (eCut φ ω υ) := fun C =>
  pe_imp (pe_slice (sl_list.or (sl_tupA.or sl_str)) (ha C) (hl C) (hh C)) fun σ H Q ⟨g, sl, vh, h, hs, q⟩ =>
  (TDE.bind h hs (Ext.refl g H) q).mono fun v1 H1 ⟨g2, vh2, d1, i2, s2, x2, x2', p2, q2⟩ =>
  (TDO.bind i2 s2 x2 q2).mono fun lo H3 ⟨g3, vh3, i3, s3, x3, x3', q3⟩ =>
  (TDO.bind i3 s3 x3 q3).mono fun hi H4 ⟨g4, vh4, i4, s4, x4, x4', q4⟩ => by
    have rx := i4.view (Rep.mono x4' _ _ (Rep.mono x3' _ _ p2))
    cases e : view vh4 d1 with
    | lst xs =>
      rw [e] at rx q4
      obtain ⟨a, vs, rfl, h1, r1⟩ := rx.lst
      refine .inl ⟨a, vs, rfl, SqL.of h1, fun p np => ?_⟩
      have x5 := Ext.new (u := .lst (cutV vs lo hi)) i4 np
      exact q4 g4 _ _ (i4.new np) (s4.mono x5) (x4.trans x5) (new_lst i4 np (r1.cut lo hi))
    | tup xs =>
      have rx0 := rx
      rw [e] at rx q4
      obtain ⟨a, vs, rfl, h1, r1⟩ := rx.tup
      refine .inr (.inl ⟨a, vs, rfl, by rw [hK]; exact h1, fun hc => ?_, fun hc p np => ?_⟩)
      · rw [← r1.length] at hc
        refine q4 g4 _ _ i4 s4 x4 ?_
        rw [cutL_all hc]
        rcases rx with rx | ⟨o, a', e', _⟩
        · exact rx
        · cases o <;> cases e'
      · obtain ⟨a1, b1, c1⟩ := new_tup i4 np (r1.cut lo hi)
        exact q4 _ _ _ a1 (s4.mono b1) (x4.trans b1) c1
    | str z =>
      rw [e] at rx q4
      rw [rx.str]
      simp only [pCut] at q4
      split at q4
      · rename_i hc
        exact .inr (.inr ⟨z, rfl, by rw [← lim_eq]; exact hc, q4 g4 H4 _ i4 s4 x4 (by simp [RepE, Rep])⟩)
      · exact q4.elim
    | _ => rw [e] at q4; exact q4.elim

/-! ### attributes -/
/-- which attributes of which classes are plain fields -/
structure Flds (W : Wd) (K : PySem.W.Frag) (fa : Nat → Str → Bool) : Prop where
  ok : ∀ c f, fa c f = true → Cls K (W.cls c) ∧ NoAttr K (W.cls c) f
def fget : List (Str × D) → Str → Option D
  | [], _ => none
  | (k, d) :: r, f => if f = k then some d else fget r f
def pFld (fa : Nat → Str → Bool) (f : Str) : D → Option EV
  | .ins c fs => if fa c f = true then (fget fs f).map EV.v else none
  | _ => none
theorem RepFs.get : ∀ {fs : List (Str × D)} {ws : List (Str × V)} {f : Str} {d : D}, RepFs W g H fs ws → fget fs f = some d → ∃ v, ws.lookup f = some v ∧ Rep W g H d v
  | [], ws, f, d, r, e => by cases e
  | (k, x) :: fs, ws, f, d, r, e => by
    simp only [RepFs] at r
    obtain ⟨v, s, rfl, h1, h2⟩ := r
    unfold fget at e
    by_cases hk : f = k
    · subst hk
      rw [if_pos rfl] at e
      cases e
      exact ⟨v, by simp, h1⟩
    · rw [if_neg hk] at e
      obtain ⟨w, e1, r1⟩ := RepFs.get h2 e
      refine ⟨w, ?_, r1⟩
      rw [List.lookup_cons, beq_eq_false_iff_ne.mpr hk]
      exact e1
theorem de_fld {fa : Nat → Str → Bool} {f : Str} (hK : X.K = W.K) (T : Flds W X.K fa) (ha : DE W Wx X a φ) (hb : attributeBase a f X.env (eval a X.env) = eval a X.env) : DE W Wx X (.Attribute a f pos) (e1 (pFld fa f) φ) :=
  de_1 ha (r := fun x H Q => ∃ a C dx fs v, x = .ref a ∧ H a = some (.ins C dx fs) ∧ Cls X.K C ∧ NoAttr X.K C f ∧ fs.lookup f = some v ∧ Q v H) (by
    intro C g H vh dx x Q h rx q s
    cases dx with
    | ins c fs =>
      obtain ⟨a, dx, gs, rfl, h1, r1⟩ := rx.ins
      simp only [pFld] at s q
      split at s
      · rename_i hc
        obtain ⟨d, e⟩ := opt_map_some s
        obtain ⟨v, e1, rv⟩ := r1.get e
        obtain ⟨t1, t2⟩ := T.ok c f hc
        exact ⟨a, W.cls c, dx, gs, v, rfl, h1, t1, t2, e1, q (.v d) (by rw [if_pos hc, e]; rfl) g H v h (Ext.refl g H) rv⟩
      · cases s
    | _ => cases s) fun ta x => pe_fld x hb
end
end
end PM

/-! PM6: statements without loops, defs, calls. -/
namespace PM
open PySem L2
noncomputable section

inductive RS where
  | nx (sl : Sl) (vh : VH)
  | rt (d : D) (vh : VH)
  | bk (sl : Sl) (vh : VH)
  | ct (sl : Sl) (vh : VH)
  | ex (x : XV) (sl : Sl) (vh : VH)
  | bad
abbrev SF := Sl → VH → RS
def PostS (W : Wd) (C : Con) (Wx : WX) (g0 : Gh) (H0 : Hp) (r : RS) (En : Ends) : Prop :=
  match r with
  | .bad => False
  | .nx sl vh => ∀ g H σ, RelH W C g vh H → RelS W g H sl σ → Ext g0 H0 g H → En.nx σ H
  | .bk sl vh => ∀ g H σ, RelH W C g vh H → RelS W g H sl σ → Ext g0 H0 g H → En.bk σ H
  | .ct sl vh => ∀ g H σ, RelH W C g vh H → RelS W g H sl σ → Ext g0 H0 g H → En.ct σ H
  | .rt d vh => ∀ g H v, RelH W C g vh H → Ext g0 H0 g H → Rep W g H d v → En.rt v H
  | .ex x sl vh => ∀ g H σ c od, RelH W C g vh H → RelS W g H sl σ → Ext g0 H0 g H → XRep W g H x c od → Wx c od σ H
def TDS (W : Wd) (C : Con) (Wx : WX) (δ : SF) : TS := fun En σ H => ∃ g sl vh, RelH W C g vh H ∧ RelS W g H sl σ ∧ PostS W C Wx g H (δ sl vh) En
def DS (W : Wd) (Wx : WX) (X : Cx) (st : Stmt) (δ : SF) : Prop := ∀ C, PS X st (TDS W C Wx δ)
def DSs (W : Wd) (Wx : WX) (X : Cx) (st : List Stmt) (δ : SF) : Prop := ∀ C, PSs X st (TDS W C Wx δ)

def sNext : SF := fun sl vh => .nx sl vh
def sSeq (δ ε : SF) : SF := fun sl vh => match δ sl vh with
  | .nx sl' vh' => ε sl' vh'
  | r => r
def sDrop (φ : EF) : SF := fun sl vh => match φ sl vh with
  | .ok _ vh' => .nx sl vh'
  | .exc x vh' => .ex x sl vh'
  | .bad => .bad
def sRet (φ : EF) : SF := fun sl vh => match φ sl vh with
  | .ok e vh' => .rt e.d vh'
  | .exc x vh' => .ex x sl vh'
  | .bad => .bad
def sRetH (φ : EF) : SF := fun sl vh => match φ sl vh with
  | .ok (.f o) vh' => .rt (.ref vh'.length) (vh' ++ [o])
  | .ok _ _ => .bad
  | .exc x vh' => .ex x sl vh'
  | .bad => .bad
def sRetN : SF := fun _ vh => .rt .non vh
def sIf (τ : TF) (δ ε : SF) : SF := fun sl vh => match τ sl vh with
  | .ok true vh' => δ sl vh'
  | .ok false vh' => ε sl vh'
  | .exc x vh' => .ex x sl vh'
  | .bad => .bad
def sSet (i : Nat) (φ : EF) : SF := fun sl vh => match φ sl vh with
  | .ok e vh' => .nx (sl.set i (some e.d)) vh'
  | .exc x vh' => .ex x sl vh'
  | .bad => .bad
/-- the new object goes onto the virtual heap -/
def sSetH (i : Nat) (φ : EF) : SF := fun sl vh => match φ sl vh with
  | .ok (.f o) vh' => .nx (sl.set i (some (.ref vh'.length))) (vh' ++ [o])
  | .ok _ _ => .bad
  | .exc x vh' => .ex x sl vh'
  | .bad => .bad

section
variable {W : Wd} {C : Con} {Wx : WX} {X : Cx} {g g0 : Gh} {H H0 : Hp} {σ : St} {sl : Sl} {vh : VH} {φ ψ χ : EF} {δ ε : SF} {τ : TF} {pos : Pos} {e : Expr} {st : Stmt} {rest : List Stmt}
theorem PostS.mono {r : RS} {A B : Ends} (q : PostS W C Wx g H r A) (h1 : ∀ σ H, A.nx σ H → B.nx σ H) (h2 : ∀ v H, A.rt v H → B.rt v H) (h3 : ∀ σ H, A.bk σ H → B.bk σ H) (h4 : ∀ σ H, A.ct σ H → B.ct σ H) : PostS W C Wx g H r B := by
  cases r with
  | bad => exact q
  | nx sl vh => exact fun g H σ a b c => h1 _ _ (q g H σ a b c)
  | bk sl vh => exact fun g H σ a b c => h3 _ _ (q g H σ a b c)
  | ct sl vh => exact fun g H σ a b c => h4 _ _ (q g H σ a b c)
  | rt d vh => exact fun g H v a b c => h2 _ _ (q g H v a b c)
  | ex x sl vh => exact q
theorem PostS.at {r : RS} {A : Ends} (e0 : Ext g0 H0 g H) (q : PostS W C Wx g0 H0 r A) : PostS W C Wx g H r A := by
  cases r with
  | bad => exact q
  | nx sl vh => exact fun g H σ a b c => q g H σ a b (e0.trans c)
  | bk sl vh => exact fun g H σ a b c => q g H σ a b (e0.trans c)
  | ct sl vh => exact fun g H σ a b c => q g H σ a b (e0.trans c)
  | rt d vh => exact fun g H v a b c => q g H v a (e0.trans b) c
  | ex x sl vh => exact fun g H σ c od a b d r => q g H σ c od a b (e0.trans d) r
theorem TDS.go {En : Ends} (h : RelH W C g vh H) (hs : RelS W g H sl σ) (e0 : Ext g0 H0 g H) (q : PostS W C Wx g0 H0 (δ sl vh) En) : TDS W C Wx δ En σ H := ⟨g, sl, vh, h, hs, q.at e0⟩
theorem ds_pass : DS W Wx X (.Pass pos) sNext := fun C => ps_imp ps_pass fun En σ H ⟨g, sl, vh, h, hs, q⟩ => q g H σ h hs (Ext.refl g H)
theorem ds_doc {x j pos'} : DS W Wx X (.Expr (.Constant (.str x) j pos) pos') sNext := fun C => ps_imp ps_doc fun En σ H ⟨g, sl, vh, h, hs, q⟩ => q g H σ h hs (Ext.refl g H)
theorem ds_break : DS W Wx X (.Break pos) (fun sl vh => .bk sl vh) := fun C => ps_imp ps_break fun En σ H ⟨g, sl, vh, h, hs, q⟩ => q g H σ h hs (Ext.refl g H)
theorem ds_continue : DS W Wx X (.Continue pos) (fun sl vh => .ct sl vh) := fun C => ps_imp ps_continue fun En σ H ⟨g, sl, vh, h, hs, q⟩ => q g H σ h hs (Ext.refl g H)
/-- what is never come to -/
theorem ds_bad : DS W Wx X st (fun _ _ => .bad) := fun C => ps_imp (ps_never (st := st)) fun En σ H ⟨g, sl, vh, h, hs, q⟩ => q
theorem dss_bad {sts : List Stmt} : DSs W Wx X sts (fun _ _ => .bad) := fun C => pss_imp (pss_never (sts := sts)) fun En σ H ⟨g, sl, vh, h, hs, q⟩ => q
theorem dss_nil : DSs W Wx X [] sNext := fun C => pss_imp pss_nil fun En σ H ⟨g, sl, vh, h, hs, q⟩ => q g H σ h hs (Ext.refl g H)
theorem dss_one (h : DS W Wx X st δ) : DSs W Wx X [st] δ := fun C => pss_one (h C)
theorem dss_cons (h1 : DS W Wx X st δ) (h2 : DSs W Wx X rest ε) : DSs W Wx X (st :: rest) (sSeq δ ε) := fun C => pss_imp (pss_cons (h1 C) (h2 C)) fun En σ H ⟨g, sl, vh, h, hs, q⟩ => by
  refine ⟨g, sl, vh, h, hs, ?_⟩
  unfold sSeq at q
  cases r : δ sl vh with
  | nx sl' vh' => rw [r] at q; exact fun g1 H1 σ1 h1 s1 x1 => TDS.go h1 s1 x1 q
  | bad => rw [r] at q; exact q
  | bk sl vh => rw [r] at q; exact q
  | ct sl vh => rw [r] at q; exact q
  | rt d vh => rw [r] at q; exact q
  | ex x sl vh => rw [r] at q; exact q
/-- a statement that goes on with a value -/
theorem TDE.stm {k : V → Hp → Prop} (h : RelH W C g vh H) (hs : RelS W g H sl σ) (q : match φ sl vh with
    | .ok e vh' => ∀ g1 H1 v, RelH W C g1 vh' H1 → RelS W g1 H1 sl σ → Ext g H g1 H1 → RepE W C g1 H1 e v → k v H1
    | .exc x vh' => ∀ g H0 c od, RelH W C g vh' H0 → RelS W g H0 sl σ → XRep W g H0 x c od → Wx c od σ H0
    | .bad => False) : TDE W C Wx φ σ H k := by
  refine ⟨g, sl, vh, h, hs, ?_⟩
  cases r : φ sl vh with
  | bad => rw [r] at q; exact q
  | ok e vh' => rw [r] at q; exact q
  | exc x vh' => rw [r] at q; exact fun g1 H1 c od a b d e => q g1 H1 c od a b e
theorem ds_expr (he : DE W Wx X e φ) (hsw : swapsWith e none pos.line X.env = pure false := by rfl) : DS W Wx X (.Expr e pos) (sDrop φ) := fun C => ps_imp (ps_expr (he C) hsw) fun En σ H ⟨g, sl, vh, h, hs, q⟩ => by
  refine ⟨g, sl, vh, h, hs, ?_⟩
  unfold sDrop at q
  cases r : φ sl vh with
  | bad => rw [r] at q; exact q
  | ok e vh' => rw [r] at q; exact fun g1 H1 v1 h1 s1 x1 r1 => q g1 H1 σ h1 s1 x1
  | exc x vh' => rw [r] at q; exact fun g1 H1 c od a b d e => q g1 H1 σ c od a b d e
theorem ds_ret (he : DE W Wx X e φ) : DS W Wx X (.Return (some e) pos) (sRet φ) := fun C => ps_imp (ps_ret (he C)) fun En σ H ⟨g, sl, vh, h, hs, q⟩ => by
  refine ⟨g, sl, vh, h, hs, ?_⟩
  unfold sRet at q
  cases r : φ sl vh with
  | bad => rw [r] at q; exact q
  | ok e vh' =>
    rw [r] at q
    intro g1 H1 v1 h1 s1 x1 r1
    obtain ⟨g2, h2, x2, r2⟩ := r1.freeze h1
    exact q g2 H1 v1 h2 (x1.trans x2) r2
  | exc x vh' => rw [r] at q; exact fun g1 H1 c od a b d e => q g1 H1 σ c od a b d e
theorem RepE.lay {o : O} {v : V} (h : RelH W C g vh H) (r : RepE W C g H (.f o) v) : ∃ g', RelH W C g' (vh ++ [o]) H ∧ Ext g H g' H ∧ Rep W g' H (.ref vh.length) v := by
  obtain ⟨p, rfl, ho, nf, np, nfr⟩ := r
  refine ⟨g.put p, h.put ho nf np nfr, Ext.putG g H p, ?_⟩
  simp only [Rep, h.len]
  exact ⟨Nat.lt_succ_self _, by simp [Gh.put]⟩
theorem ds_retH (he : DE W Wx X e φ) : DS W Wx X (.Return (some e) pos) (sRetH φ) := fun C => ps_imp (ps_ret (he C)) fun En σ H ⟨g, sl, vh, h, hs, q⟩ => by
  refine ⟨g, sl, vh, h, hs, ?_⟩
  unfold sRetH at q
  cases r : φ sl vh with
  | bad => rw [r] at q; exact q
  | ok e vh' =>
    rw [r] at q
    cases e with
    | v d => exact q.elim
    | f o =>
      intro g1 H1 v1 h1 s1 x1 r1
      obtain ⟨g2, h2, x2, r2⟩ := r1.lay h1
      exact q g2 H1 v1 h2 (x1.trans x2) r2
  | exc x vh' => rw [r] at q; exact fun g1 H1 c od a b d e => q g1 H1 σ c od a b d e
theorem ds_retN : DS W Wx X (.Return none pos) sRetN := fun C => ps_imp ps_retN fun En σ H ⟨g, sl, vh, h, hs, q⟩ => q g H .non h (Ext.refl g H) (by simp [Rep])
theorem ds_if {c : Expr} {a b : List Stmt} (hc : DT W Wx X c τ) (ha : DSs W Wx X a δ) (hb : DSs W Wx X b ε) : DS W Wx X (.If c a b pos) (sIf τ δ ε) := fun C => ps_imp (ps_if (hc C) (ha C) (hb C)) fun En σ H ⟨g, sl, vh, h, hs, q⟩ => by
  refine ⟨g, sl, vh, h, hs, ?_⟩
  unfold sIf at q
  cases r : τ sl vh with
  | bad => rw [r] at q; exact q
  | ok b vh' =>
    rw [r] at q
    intro g1 H1 h1 s1 x1
    cases b with
    | true => exact TDS.go h1 s1 x1 q
    | false => exact TDS.go h1 s1 x1 q
  | exc x vh' => rw [r] at q; exact fun g1 H1 c od a b d e => q g1 H1 σ c od a b d e
theorem ds_set {i : Nat} {x : Str} {pos' : Pos} (hN : X.N.Nodup) (hi : X.N[i]? = some x) (hx : Loc X.env.scope x) (he : DE W Wx X e φ) (hsw : swapsWith e (some (.Name x pos')) pos.line X.env = pure false := by rfl) (hf : X.fn x = true ∨ X.env.scope.names.lookup x = some .local := by first | exact .inl rfl | exact .inr rfl | assumption) :
    DS W Wx X (.Assign [.Name x pos'] e pos) (sSet i φ) := fun C => ps_imp (ps_set hN hi hx (he C) hsw hf) fun En σ H ⟨g, sl, vh, h, hs, q⟩ => by
  refine ⟨g, sl, vh, h, hs, ?_⟩
  unfold sSet at q
  cases r : φ sl vh with
  | bad => rw [r] at q; exact q
  | ok e vh' =>
    rw [r] at q
    intro g1 H1 v1 h1 s1 x1 r1
    obtain ⟨g2, h2, x2, r2⟩ := r1.freeze h1
    exact q g2 H1 _ h2 ((s1.mono x2).set r2) (x1.trans x2)
  | exc x vh' => rw [r] at q; exact fun g1 H1 c od a b d e => q g1 H1 σ c od a b d e
theorem ds_setH {i : Nat} {x : Str} {pos' : Pos} (hN : X.N.Nodup) (hi : X.N[i]? = some x) (hx : Loc X.env.scope x) (he : DE W Wx X e φ) (hsw : swapsWith e (some (.Name x pos')) pos.line X.env = pure false := by rfl) (hf : X.fn x = true ∨ X.env.scope.names.lookup x = some .local := by first | exact .inl rfl | exact .inr rfl | assumption) :
    DS W Wx X (.Assign [.Name x pos'] e pos) (sSetH i φ) := fun C => ps_imp (ps_set hN hi hx (he C) hsw hf) fun En σ H ⟨g, sl, vh, h, hs, q⟩ => by
  refine ⟨g, sl, vh, h, hs, ?_⟩
  unfold sSetH at q
  cases r : φ sl vh with
  | bad => rw [r] at q; exact q
  | ok e vh' =>
    rw [r] at q
    cases e with
    | v d => exact q.elim
    | f o =>
      intro g1 H1 v1 h1 s1 x1 r1
      obtain ⟨g2, h2, x2, r2⟩ := r1.lay h1
      exact q g2 H1 _ h2 ((s1.mono x2).set r2) (x1.trans x2)
  | exc x vh' => rw [r] at q; exact fun g1 H1 c od a b d e => q g1 H1 σ c od a b d e
end

/-! ### defs -/
/-- at a call: all that is tracked but the virtual heap is to stay -/
def callC (H : Hp) (g : Gh) : Con := ⟨H, fun a => H a ≠ none ∧ ∀ i, i < g.n → g.m i ≠ a, fun a => (H a ≠ none ∧ ∀ i, i < g.n → g.m i ≠ a) ∧ ¬ g.F a⟩
def PostD (W : Wd) (g0 : Gh) (H0 : Hp) (r : R D) (Q : VK) (E : XK) : Prop :=
  match r with
  | .bad => False
  | .ok d vh => ∀ g H v, RelH W (callC H0 g0) g vh H → Ext g0 H0 g H → Rep W g H d v → Q v H
  | .exc x vh => ∀ g H c od, RelH W (callC H0 g0) g vh H → Ext g0 H0 g H → XRep W g H x c od → E c od H
/-- a def's promise, by its denotation -/
def spD (W : Wd) (np : Nat) (Φ : Den) : Sp := fun vs H Q E => ∃ g ds vh, RelH W (callC H g) g vh H ∧ Reps W g H ds vs ∧ ds.length = np ∧ PostD W g H (Φ ds vh) Q E
theorem RelH.call {W C g vh H} (h : RelH W C g vh H) : RelH W (callC H g) g vh H :=
  ⟨h.len, h.vh, h.inj, h.nf, h.ff, fun a ha => ⟨rfl, ha.1⟩, fun i hi ha => ha.2 i hi rfl, fun a ha => ha⟩
theorem RelH.back {W C g vh H g' vh' H'} (h : RelH W C g vh H) (h' : RelH W (callC H g) g' vh' H') : RelH W C g' vh' H' := by
  have k : ∀ a, C.Fr a → (callC H g).Fr a := fun a ha => ⟨(h.fr a ha).2, fun i hi e => h.nfr i hi (by rw [e]; exact ha)⟩
  refine ⟨h'.len, h'.vh, h'.inj, h'.nf, h'.ff, fun a ha => ?_, fun i hi ha => h'.nfr i hi (k _ ha), fun a ha => ⟨(h.pd a ha).1, (h'.pd a ⟨k a (h.pd a ha).1, (h.pd a ha).2⟩).2⟩⟩
  obtain ⟨e1, e2⟩ := h'.fr a (k a ha)
  exact ⟨e1.trans (h.fr a ha).1, e2⟩
structure PFn (W : Wd) (P : Program) (w : World) (mg : Str → Option Value) (base : Heap) (k : Nat) (f : Addr) (fd : FuncData) (ps : List Str) (Φ : Den) : Prop where
  run : ∀ (A : Around) (outer : List Env) (s : Shared) (H : Hp) (args : Args) (us : List Value) (vs : List V) (Q : VK) (E : XK), Room k A → A.guards = some [] → Env0 P w W.K mg base A outer s H → BindsTo s fd args (ps.zip us) → Vals vs us → spD W ps.length Φ vs H Q E →
    codeAny (model P w) A (.call (.ref f) args) (CR (CX P w) outer P w H s Q E) s
theorem PFn.mono {W P w mg base j k f fd ps Φ} (F : PFn W P w mg base j f fd ps Φ) (h : j ≤ k) : PFn W P w mg base k f fd ps Φ := ⟨fun A outer s H args us vs Q E hr => F.run A outer s H args us vs Q E (hr.mono h)⟩
theorem spD.len {W np Φ vs H Q E} (h : spD W np Φ vs H Q E) : vs.length = np := by
  obtain ⟨g, ds, vh, _, r, e, _⟩ := h
  rw [← r.length]; exact e
/-- a denotation that says less -/
def Den.le (Φ Ψ : Den) (np : Nat) : Prop := ∀ ds vh, ds.length = np → Φ ds vh = .bad ∨ Φ ds vh = Ψ ds vh
theorem PFn.weak {W P w mg base k f fd ps Φ Ψ} (F : PFn W P w mg base k f fd ps Ψ) (h : Den.le Φ Ψ ps.length) : PFn W P w mg base k f fd ps Φ := ⟨fun A outer s H args us vs Q E hr hg he hb hv ⟨g, ds, vh, a, b, c, q⟩ =>
  F.run A outer s H args us vs Q E hr hg he hb hv ⟨g, ds, vh, a, b, c, by
    rcases h ds vh c with e | e
    · rw [e] at q; exact q.elim
    · rw [← e]; exact q⟩⟩
end
end PM

/-! PM7: a def by its body; calls. -/
namespace PM
open PySem L2 PySem.Spec PyProof.Rows
noncomputable section

/-- what the body's denotation makes of arguments -/
def slots (n : Nat) (ds : List D) : Sl := ds.map some ++ List.replicate (n - ds.length) none
def outD : RS → R D
  | .rt d vh => .ok d vh
  | .nx _ vh => .ok .non vh
  | .ex x _ vh => .exc x vh
  | _ => .bad
def runD (n : Nat) (δ : SF) : Den := fun ds vh => outD (δ (slots n ds) vh)
theorem relS_slots {W : Wd} {g : Gh} {H : Hp} {N : List Str} {ds : List D} {vs : List V} (r : Reps W g H ds vs) (hl : vs.length ≤ N.length) : RelS W g H (slots N.length ds) (L2.start N vs) := by
  refine ⟨by simp only [slots, L2.start, List.length_append, List.length_map, List.length_replicate]; rw [r.length], fun i d e => ?_⟩
  unfold slots at e
  unfold L2.start
  have hi : i < ds.length := by
    by_cases hi : i < ds.length
    · exact hi
    · rw [List.getElem?_append_right (by simpa using hi)] at e
      rw [List.getElem?_replicate] at e
      split at e <;> cases e
  rw [List.getElem?_append_left (by simpa using hi), List.getElem?_map] at e
  cases e1 : ds[i]? with
  | none => rw [e1] at e; cases e
  | some d' =>
    rw [e1] at e
    cases e
    obtain ⟨v, e2, r2⟩ := r.get e1
    refine ⟨v, ?_, r2⟩
    rw [List.getElem?_append_left (by rw [List.length_map, ← r.length]; exact hi), List.getElem?_map, e2]
    rfl
/-- the exceptions of a def's body -/
abbrev WxE (E : XK) : WX := fun cls d _ H => E cls d H
section
variable {W : Wd} {P : Program} {w : World} {mg : Str → Option Value} {base : Heap} {N ps : List Str} {qual : Str} {scope : Scope} {f : Addr} {cd : Value} {A : Around} {outer : List Env} {s : Shared} {H : Hp} {E : XK} {k : Nat}
theorem cz_of (S : FnScope N ps scope) (hr : Room k (A.deeper (envOfC qual scope s.heap.objs.size f cd))) (hg : A.guards = some []) :
    Cz W (WxE E) k (cxOf (CX P w) P w W.K mg base N qual scope f cd A outer s H E) := by
  refine ⟨rfl, rfl, takes_of rfl rfl rfl rfl, hr, hg, passes_of rfl, S.nd⟩
end
/-- a def as it stands: its text, by places -/
structure Txt (K : PySem.W.Frag) (x qual : Str) (st : Stmt) (f : Addr) (fd : FuncData) : Prop where
  ex : ∃ (oc : Value) (od : Option Addr) (dV kV doc pm : Value) (an : Option Addr) (cdv ct : Value) (osl : Array (Option Value)),
    fd = PySem.W.fnOf x qual (defArgs st) (defBody st) (defScope st) dV kV doc pm an cdv ct ∧ K.lookup f = some ⟨oc, od, .func fd, osl⟩ ∧ PySem.W.codeIn K cdv qual = true
  kp : PySem.W.keepIn K (.ref f) = true
theorem PFn.mk' {W : Wd} {P : Program} {w : World} {mg : Str → Option Value} {base : Heap} {x qual : Str} {st : Stmt} {f : Addr} {fd : FuncData} {N ps : List Str} {k : Nat} {δ : SF}
    (F : Txt W.K x qual st f fd) (S : FnScope N ps (defScope st))
    (body : ∀ (cdv : Value) (A : Around) (outer : List Env) (s : Shared) (H : Hp) (E : XK), Cz W (WxE E) k (cxOf (CX P w) P w W.K mg base N qual (defScope st) f cdv A outer s H E) →
      DSs W (WxE E) (cxOf (CX P w) P w W.K mg base N qual (defScope st) f cdv A outer s H E) (defBody st) δ) :
    PFn W P w mg base (k + 1) f fd ps (runD N.length δ) := by
  obtain ⟨oc, od, dV, kV, doc, pm, an, cdv, ct, osl, rfl, lk, hcd⟩ := F.ex
  constructor
  intro A outer s H args us vs Q E hr hg e0 hb r ⟨g, ds, vh, h, rd, hl, q⟩
  have hlen : vs.length = ps.length := by rw [← rd.length]; exact hl
  have hpl : ps.length ≤ N.length := by
    have := congrArg List.length S.pre
    rw [List.length_take] at this
    omega
  have stay : ∀ b o, base.get? b = some o → s.heap.get? b = some o := fun b o e => (e0.bs b o e).1
  have hK : W.K.In s.heap := e0.mod.kin.keeps stay
  have hlim : s.heap.NoLimit := e0.mod.nolimit.keeps stay
  have kinds : ∀ y ∈ ps.zip us, (defScope st).names.lookup y.1 = some .local ∨
      ((defScope st).names.lookup y.1 = some .cell ∧ ((cellsFrom (s.heap.objs.size + 1) (defScope st).names []).lookup y.1).isSome = true) := by
    rintro ⟨n, v⟩ hy
    rcases S.par n (List.of_mem_zip hy).1 with z | z
    · exact .inl z
    · exact .inr ⟨z, PySem.W.cellsFrom_some _ _ _ (.inl z)⟩
  refine codeAny_call_function hr.depth (hK _ _ lk) rfl S.co S.gen rfl (PySem.W.codeRec_of hK hcd) (hb _ _ _ _ ?_)
  refine wpAny_newFunctionEnv_cells S.kind kinds fun env he s1 x => ?_
  subst he
  refine ⟨hlim.keeps x.toInCall.keep, codeAny_func ?_⟩
  have cz := cz_of (W := W) (P := P) (w := w) (mg := mg) (base := base) (qual := qual) (f := f) (cd := cdv) (outer := outer) (s := s) (H := H) (E := E) S (hr.deeper _) hg
  have I := inv_start (CX := CX P w) (E := E) (P := P) (K := W.K) (mg := mg) (qual := qual) (f := f) (cd := cdv) S hr.hd e0 hlen r x
  have B := body cdv A outer s H E cz (callC H g)
  have q2 : PostS W (callC H g) (WxE E) g H (δ (slots N.length ds) vh) { nx := fun _ H' => Q .non H', rt := Q } := by
    unfold runD outD at q
    cases e : δ (slots N.length ds) vh with
    | bad => rw [e] at q; exact q
    | nx sl vh' => rw [e] at q; exact fun g1 H1 σ1 h1 s1 x1 => q g1 H1 .non h1 x1 (by simp [Rep])
    | rt d vh' => rw [e] at q; exact fun g1 H1 v h1 x1 r1 => q g1 H1 v h1 x1 r1
    | bk sl vh' => rw [e] at q; exact q.elim
    | ct sl vh' => rw [e] at q; exact q.elim
    | ex x sl vh' => rw [e] at q; exact fun g1 H1 σ c od h1 s1 x1 r1 => q g1 H1 c od h1 x1 r1
  refine wpAny_mono (B.run [] s1 (L2.start N vs) H _ I ⟨g, slots N.length ds, vh, h, relS_slots rd (by rw [hlen]; exact hpl), q2⟩) (fun fl s' hfl => ?_) fun e s' hx => hx
  cases fl with
  | ret u =>
    obtain ⟨v, σ', H', J, rv, qq⟩ := hfl
    exact ⟨v, H', J.os, J.bare, J.base, J.hok, rv, qq⟩
  | next =>
    obtain ⟨σ', H', J, qq⟩ := hfl
    exact ⟨V.non, H', J.os, J.bare, J.base, J.hok, rfl, qq⟩
  | brk =>
    obtain ⟨_, _, _, qq⟩ := hfl
    exact qq.elim
  | cont =>
    obtain ⟨_, _, _, qq⟩ := hfl
    exact qq.elim

/-! ### calls -/
/-- how the values of a call (positional, then by keywords ks) become the parameters' -/
structure Pat (W : Wd) (fd : FuncData) (ps : List Str) (np : Nat) (ks : List Str) (arr : List D → List D) : Prop where
  ok : ∀ (s : Shared) (us ws : List Value) (g : Gh) (H : Hp) (ds : List D) (vs : List V), W.K.In s.heap → us.length = np → ws.length = ks.length → Reps W g H ds vs → Vals vs (us ++ ws) →
    ∃ us' vs', BindsTo s fd ⟨us, ks.zip ws⟩ (ps.zip us') ∧ Vals vs' us' ∧ Reps W g H (arr ds) vs' ∧ (arr ds).length = ps.length
theorem Pat.pos {W : Wd} {fd : FuncData} {ps : List Str} (h : ∀ us : List Value, us.length = ps.length → bindArgs fd ⟨us, []⟩ = pure (ps.zip us)) : Pat W fd ps ps.length [] id :=
  ⟨fun s us ws g H ds vs _ h1 h2 r rv => by
    have e : ws = [] := List.eq_nil_of_length_eq_zero h2
    subst e
    rw [List.append_nil] at rv
    exact ⟨us, vs, .of_eq (h us h1), rv, r, by rw [id, r.length, rv.length, h1]⟩⟩
def dCall (arr : List D → List D) (Φ : Den) (α : AF) : EF := ab α fun ds _ vh => match Φ (arr ds) vh with
  | .ok d vh' => .ok (.v d) vh'
  | .exc x vh' => .exc x vh'
  | .bad => .bad
section
variable {W : Wd} {C : Con} {Wx : WX} {X : Cx} {g g0 : Gh} {H H0 : Hp} {σ : L2.St} {sl : Sl} {vh : VH} {k : Nat} {f : Addr} {fd : FuncData} {ps ks : List Str} {Φ : Den} {arr : List D → List D}
/-- a callee runs: what is wanted behind it -/
theorem run_pfn {pins : List (Addr × Obj)} {s : Shared} {Q : VK} {np : Nat} {us ws : List Value} {vs : List V} {ds : List D} (cz : Cz W Wx k X) (F : PFn W X.prog X.w X.mg X.base k f fd ps Φ) (pt : Pat W fd ps np ks arr)
    (I : Inv X pins σ H s) (h : RelH W C g vh H) (hs : RelS W g H sl σ) (e0 : Ext g0 H0 g H) (h1 : us.length = np) (h2 : ws.length = ks.length) (r : Reps W g H ds vs) (rv : Vals vs (us ++ ws))
    (q : PostE W C Wx g0 H0 σ sl (match Φ (arr ds) vh with | .ok d vh' => .ok (.v d) vh' | .exc x vh' => .exc x vh' | .bad => .bad) Q) :
    wpAny (model X.prog X.w) X.A (call (.ref f) us (ks.zip ws)) (EP X pins σ Q) X.xe s := by
  have KI : W.K.In s.heap := by rw [← cz.K]; exact I.kIn
  obtain ⟨us', vs', hb, rv', r', hl⟩ := pt.ok s us ws g H ds vs KI h1 h2 r rv
  have E0 : Env0 X.prog X.w W.K X.mg X.base X.A X.stack s H := by rw [← cz.K]; exact I.env0
  refine wpAny_call (codeAny_mono (F.run X.A X.stack s H ⟨us, ks.zip ws⟩ us' vs' Q (fun c od H' => Wx c od σ H') cz.rm cz.gd E0 hb rv' ⟨g, arr ds, vh, h.call, r', hl, ?_⟩) fun rr s' hq => ?_)
  · cases e : Φ (arr ds) vh with
    | bad => rw [e] at q; exact q.elim
    | ok d vh' => rw [e] at q; exact fun g1 H1 v i1 x1 p1 => q g1 H1 v (h.back i1) (hs.mono x1) (e0.trans x1) p1
    | exc x vh' => rw [e] at q; exact fun g1 H1 c od i1 x1 p1 => q g1 H1 c od (h.back i1) (hs.mono x1) (e0.trans x1) p1
  · cases rr with
    | error e => exact passAt cz.tk σ pins H s e s' I hq
    | ok fl =>
      cases fl with
      | ret u => exact I.after hq
      | next => exact hq.elim
      | brk => exact hq.elim
      | cont => exact hq.elim
/-- f(e, ..), all by their places -/
theorem de_call {x : Str} {p pos : Pos} {e : Expr} {es : List Expr} {α : AF} {np : Nat} (cz : Cz W Wx k X) (F : PFn W X.prog X.w X.mg X.base k f fd ps Φ) (pt : Pat W fd ps np [] arr) (hg : Gl X x) (hm : X.mg x = some (.ref f)) (hk : PySem.W.keepIn W.K (.ref f) = true)
    (ha : DA W Wx X (e :: es) α) (hn : (e :: es).length = np := by rfl) (hdb : (x == ("__debug__" : Str)) = false := by decide) (he : starEach (e :: es) X.env = (false, eval e X.env) :: starEach es X.env := by rfl) (hpl : (backTo pos (starEach es X.env)).any (·.1) = false := by rfl)
    (hal : ∀ sl vh ds vh', α sl vh = .ok ds vh' → ds.length = np) :
    DE W Wx X (.Call (.Name x p) (e :: es) [] pos) (dCall arr Φ α) := fun C => by
  refine ⟨fun pins s σ H Q I ⟨g, sl, vh, h, hs, q⟩ => ?_⟩
  refine wpAny_Call_Name_kw (ld_glob I hg hm ?_ hdb)
  have hk' : PySem.W.keepIn X.K (.ref f) = true := by rw [cz.K]; exact hk
  have T : TDA W C Wx α σ H (fun v1 H1 => ∃ g1 vh1 d1, RelH W C g1 vh1 H1 ∧ RelS W g1 H1 sl σ ∧ Ext g H g1 H1 ∧ Reps W g1 H1 d1 v1 ∧ d1.length = np ∧ PostE W C Wx g H σ sl (match Φ (arr d1) vh1 with | .ok d vh' => .ok (.v d) vh' | .exc x vh' => .exc x vh' | .bad => .bad) Q) := by
    refine ⟨g, sl, vh, h, hs, ?_⟩
    unfold dCall ab at q
    cases r : α sl vh with
    | bad => rw [r] at q; exact q
    | exc x vh1 => rw [r] at q; exact q
    | ok ds vh1 => rw [r] at q; exact fun g1 H1 v1 h1 s1 x1 r1 => ⟨g1, vh1, ds, h1, s1, x1, r1, hal _ _ _ _ r, q⟩
  refine PySem.W.callWith_K (h₀ := X.base) I.ok.mod.kin hk' (thn ((ha C).run pos pins s σ H _ I T) fun us s1 ⟨vs, H1, I1, rv, g1, vh1, d1, h1, s1', x1, r1, l1, q1⟩ => ⟨I1.kIn, ?_⟩) he hpl
  have lu : us.length = np := by rw [← rv.length, ← r1.length]; exact l1
  exact run_pfn (ws := []) (ks := []) cz F pt I1 h1 s1' x1 lu rfl r1 (by rw [List.append_nil]; exact rv) q1
end
end
end PM

/-! PM8: targets, assignments, what loops walk, for, while, list comprehensions. -/
namespace PM
open PySem L2
noncomputable section

/-- a new object is laid onto the virtual heap -/
def eLay (φ : EF) : EF := fun sl vh => match φ sl vh with
  | .ok (.f o) vh' => .ok (.v (.ref vh'.length)) (vh' ++ [o])
  | .ok _ _ => .bad
  | .exc x vh' => .exc x vh'
  | .bad => .bad
section
variable {W : Wd} {C : Con} {Wx : WX} {X : Cx} {g g0 : Gh} {H H0 : Hp} {σ : L2.St} {sl : Sl} {vh : VH} {φ ψ χ : EF} {δ ε : SF} {τ : TF} {pos : Pos} {e : Expr} {st : Stmt} {rest : List Stmt}
theorem de_lay (he : DE W Wx X e φ) : DE W Wx X e (eLay φ) := fun C => pe_imp (he C) fun σ H Q ⟨g, sl, vh, h, hs, q⟩ => by
  refine ⟨g, sl, vh, h, hs, ?_⟩
  unfold eLay at q
  cases r : φ sl vh with
  | bad => rw [r] at q; exact q
  | exc x vh' => rw [r] at q; exact q
  | ok e vh' =>
    rw [r] at q
    cases e with
    | v d => exact q.elim
    | f o =>
      intro g1 H1 v1 h1 s1 x1 r1
      obtain ⟨g2, h2, x2, r2⟩ := r1.lay h1
      exact q g2 H1 v1 h2 (s1.mono x2) (x1.trans x2) r2
end

/-! ### targets -/
abbrev GF := D → Sl → VH → Option (Sl × VH)
abbrev GFs := List D → Sl → VH → Option (Sl × VH)
def PostG (W : Wd) (C : Con) (ix : List Nat) (g : Gh) (H : Hp) (σ : L2.St) (r : Option (Sl × VH)) (Q : L2.St → Hp → Prop) : Prop :=
  match r with
  | none => False
  | some (sl', vh') => ∀ g' H' σ', RelH W C g' vh' H' → RelS W g' H' sl' σ' → Ext g H g' H' → (∀ vs, (∀ i ∈ ix, i ∈ vs) → wipe σ' vs = wipe σ vs) → Q σ' H'
def TDG (W : Wd) (γ : GF) (ix : List Nat) : TG := fun v σ H Q => ∃ C g sl vh d, RelH W C g vh H ∧ RelS W g H sl σ ∧ Rep W g H d v ∧ PostG W C ix g H σ (γ d sl vh) Q
def TDGs (W : Wd) (γ : GFs) (ix : List Nat) : TGs := fun vs σ H Q => ∃ C g sl vh ds, RelH W C g vh H ∧ RelS W g H sl σ ∧ Reps W g H ds vs ∧ PostG W C ix g H σ (γ ds sl vh) Q
def DG (W : Wd) (X : Cx) (tg : Expr) (γ : GF) (ix : List Nat) : Prop := PG X tg (TDG W γ ix)
def DGs (W : Wd) (X : Cx) (tg : List Expr) (γ : GFs) (ix : List Nat) : Prop := PGs X tg (TDGs W γ ix)
section
variable {W : Wd} {C : Con} {Wx : WX} {X : Cx} {k : Nat} {g g0 : Gh} {H H0 : Hp} {σ : L2.St} {sl : Sl} {vh : VH} {φ ψ χ : EF} {δ ε : SF} {τ : TF} {pos : Pos} {e a b : Expr} {st : Stmt} {rest : List Stmt}
theorem pg_imp {tg : Expr} {t t' : TG} (h : PG X tg t) (i : ∀ v σ H Q, t' v σ H Q → t v σ H Q) : PG X tg t' := ⟨fun pins s σ H v u Q I r q => h.run pins s σ H v u Q I r (i v σ H Q q)⟩
theorem pgs_imp {tg : List Expr} {t t' : TGs} (h : PGs X tg t) (i : ∀ v σ H Q, t' v σ H Q → t v σ H Q) : PGs X tg t' := ⟨fun pins s σ H v u Q I r q => h.run pins s σ H v u Q I r (i v σ H Q q)⟩
theorem pg_or {tg : Expr} {t t' : TG} (h : PG X tg t) (h' : PG X tg t') : PG X tg (fun v σ H Q => t v σ H Q ∨ t' v σ H Q) := ⟨fun pins s σ H v u Q I r q => q.elim (h.run pins s σ H v u Q I r) (h'.run pins s σ H v u Q I r)⟩
theorem wipe_set {σ : L2.St} {i : Nat} {o : Option V} : ∀ {vs : List Nat}, i ∈ vs → wipe (σ.set i o) vs = wipe σ vs
  | [], h => by cases h
  | v :: vs, h => by
    unfold wipe
    by_cases hv : i ∈ vs
    · rw [wipe_set hv]
    · have e : i = v := by
        rcases List.mem_cons.mp h with e | e
        · exact e
        · exact absurd e hv
      subst e
      have : ∀ (us : List Nat), i ∉ us → wipe (σ.set i o) us = (wipe σ us).set i o := fun us => by
        induction us with
        | nil => intro _; rfl
        | cons u us ih =>
          intro hu
          simp only [List.mem_cons, not_or] at hu
          unfold wipe
          rw [ih hu.2, List.set_comm _ _ hu.1]
      rw [this vs hv, List.set_set]
theorem wipe_nil : wipe σ [] = σ := rfl
def gNm (i : Nat) : GF := fun d sl vh => some (sl.set i (some d), vh)
theorem dg_name {i : Nat} {x : Str} (hN : X.N.Nodup) (hi : X.N[i]? = some x := by rfl) (hx : Loc X.env.scope x := by first | exact .inl rfl | exact .inr rfl) (hf : X.fn x = true ∨ X.env.scope.names.lookup x = some .local := by first | exact .inl rfl | exact .inr rfl) : DG W X (.Name x pos) (gNm i) [i] :=
  pg_imp (pg_name hN hi hx hf) fun v σ H Q ⟨C, g, sl, vh, d, h, hs, r, q⟩ => q g H _ h (hs.set r) (Ext.refl g H) fun vs hv => wipe_set (hv i (List.mem_singleton.mpr rfl))
def gsNil : GFs := fun ds sl vh => match ds with | [] => some (sl, vh) | _ => none
def gsCons (γ : GF) (γs : GFs) : GFs := fun ds sl vh => match ds with
  | d :: r => match γ d sl vh with
    | some (sl', vh') => γs r sl' vh'
    | none => none
  | [] => none
theorem dgs_nil : DGs W X [] gsNil [] := pgs_imp pgs_nil fun v σ H Q ⟨C, g, sl, vh, ds, h, hs, r, q⟩ => by
  cases ds with
  | nil => simp only [Reps] at r; exact ⟨r, q g H σ h hs (Ext.refl g H) fun vs _ => rfl⟩
  | cons _ _ => exact q.elim
theorem dgs_cons {tg : Expr} {tgs : List Expr} {γ : GF} {γs : GFs} {ix js : List Nat} (h1 : DG W X tg γ ix) (h2 : DGs W X tgs γs js) (hs : (assignEach (tg :: tgs) X.env).map (·.2) = assign tg X.env :: (assignEach tgs X.env).map (·.2) := by rfl) :
    DGs W X (tg :: tgs) (gsCons γ γs) (ix ++ js) := pgs_imp (pgs_cons h1 h2 hs) fun v σ H Q ⟨C, g, sl, vh, ds, h, hs, r, q⟩ => by
  cases ds with
  | nil => exact q.elim
  | cons d ds =>
    simp only [Reps] at r
    obtain ⟨v1, vr, rfl, r1, r2⟩ := r
    refine ⟨v1, vr, rfl, C, g, sl, vh, d, h, hs, r1, ?_⟩
    simp only [gsCons] at q
    cases e : γ d sl vh with
    | none => rw [e] at q; exact q.elim
    | some p =>
      obtain ⟨sl', vh'⟩ := p
      rw [e] at q
      intro g1 H1 σ1 h1 s1 x1 w1
      refine ⟨C, g1, sl', vh', ds, h1, s1, Reps.mono x1 _ _ r2, ?_⟩
      dsimp only at q
      cases e2 : γs ds sl' vh' with
      | none => rw [e2] at q; exact q.elim
      | some p2 =>
        obtain ⟨sl2, vh2⟩ := p2
        rw [e2] at q
        exact fun g2 H2 σ2 h2 s2 x2 w2 => q g2 H2 σ2 h2 s2 (x1.trans x2) fun vs hv => (w2 vs fun i hi => hv i (List.mem_append_right _ hi)).trans (w1 vs fun i hi => hv i (List.mem_append_left _ hi))
def gUnp (n : Nat) (γs : GFs) : GF := fun d sl vh => match view vh d with
  | .tup xs => if xs.length = n then γs xs sl vh else none
  | .lst xs => if xs.length = n then γs xs sl vh else none
  | _ => none
theorem dg_tup {es : List Expr} {kk : Nat} {γs : GFs} {n : Nat} {ix : List Nat} (cz : Cz W Wx k X) (h : DGs W X es γs ix) (hn : (assignEach es X.env).length = n := by rfl) (hst : (assignEach es X.env).findIdx? (·.1) = none := by rfl) : DG W X (.Tuple es kk pos) (gUnp n γs) ix :=
  pg_imp (pg_or (pg_tup cz.calm h hn hst) (pg_unl cz.calm h hn hst)) fun v σ H Q ⟨C, g, sl, vh, d, h, hs, r, q⟩ => by
    have rx := h.view r
    unfold gUnp at q
    cases e : view vh d with
    | tup xs =>
      rw [e] at q rx
      obtain ⟨a, vs, rfl, t, rr⟩ := rx.tup
      dsimp only at q
      split at q
      · rename_i hl
        exact .inl ⟨a, vs, rfl, by rw [cz.K]; exact t, by rw [← rr.length]; exact hl, C, g, sl, vh, xs, h, hs, rr, q⟩
      · exact q.elim
    | lst xs =>
      rw [e] at q rx
      obtain ⟨a, vs, rfl, t, rr⟩ := rx.lst
      dsimp only at q
      split at q
      · rename_i hl
        exact .inr ⟨a, vs, rfl, SqL.of t, by rw [← rr.length]; exact hl, C, g, sl, vh, xs, h, hs, rr, q⟩
      · exact q.elim
    | _ => rw [e] at q; exact q.elim
end

/-! ### o[i] = v -/
def dput (kvs : List (D × D)) (k d : D) : List (D × D) :=
  if (kvs.any fun p => decide (keyD p.1 = keyD k)) = true then kvs.map (fun p => if keyD p.1 = keyD k then (p.1, d) else p) else kvs ++ [(k, d)]
def ostore (o : O) (i d : D) : Option O := match o, i with
  | .lst xs, .int j => (ixN xs.length j).map fun n => .lst (xs.set n d)
  | .dct kvs, k => (keyD k).bind fun _ => if kvs.length < lim then some (.dct (dput kvs k d)) else none
  | _, _ => none
def dstore (o i d : D) (vh : VH) : Option VH := match o with
  | .ref n => (vh[n]?).bind fun u => (ostore u i d).map fun u' => vh.set n u'
  | _ => none
def gSubF (φ ψ : EF) : GF := fun d sl vh => match φ sl vh with
  | .ok ev vh1 => match ψ sl vh1 with
    | .ok iv vh2 => (dstore ev.d iv.d d vh2).map fun vh3 => (sl, vh3)
    | _ => none
  | _ => none
section
variable {W : Wd} {C : Con} {Wx : WX} {X : Cx} {k : Nat} {g g0 : Gh} {H H0 : Hp} {σ : L2.St} {sl : Sl} {vh : VH} {φ ψ χ : EF} {δ ε : SF} {τ : TF} {pos : Pos} {e a b : Expr} {st : Stmt} {rest : List Stmt}
theorem RepKV.length : ∀ {kvs : List (D × D)} {ws : List (Key × V)}, RepKV W g H kvs ws → kvs.length = ws.length
  | [], ws, r => by simp only [RepKV] at r; subst r; rfl
  | (k, d) :: kvs, ws, r => by
    simp only [RepKV] at r
    obtain ⟨k', v, s, rfl, _, _, h2⟩ := r
    simp [RepKV.length h2]
theorem RepKV.any {y : D} {ky : Key} (hy : keyD y = some ky) : ∀ {kvs : List (D × D)} {ws : List (Key × V)}, RepKV W g H kvs ws → (kvs.any fun p => decide (keyD p.1 = keyD y)) = (ws.any fun kv => decide (kv.1 = ky))
  | [], ws, r => by simp only [RepKV] at r; subst r; rfl
  | (k, d) :: kvs, ws, r => by
    simp only [RepKV] at r
    obtain ⟨k', v, s, rfl, e, _, h2⟩ := r
    rw [List.any_cons, List.any_cons, RepKV.any hy h2]
    congr 1
    rw [e, hy]
    by_cases hk : k' = ky
    · subst hk; simp
    · simp [hk]
theorem RepKV.map {y : D} {ky : Key} {d : D} {v : V} (hy : keyD y = some ky) (rd : Rep W g H d v) : ∀ {kvs : List (D × D)} {ws : List (Key × V)}, RepKV W g H kvs ws → RepKV W g H (kvs.map (fun p => if keyD p.1 = keyD y then (p.1, d) else p)) (ws.map (fun kv => if kv.1 = ky then (kv.1, v) else kv))
  | [], ws, r => by simp only [RepKV] at r; subst r; simp [RepKV]
  | (k, d0) :: kvs, ws, r => by
    simp only [RepKV] at r
    obtain ⟨k', v0, s, rfl, e, h1, h2⟩ := r
    rw [List.map_cons, List.map_cons]
    by_cases hk : k' = ky
    · subst hk
      dsimp only
      rw [if_pos (by rw [e, hy]), if_pos rfl]
      simp only [RepKV]
      exact ⟨k', v, _, rfl, e, rd, RepKV.map hy rd h2⟩
    · dsimp only
      rw [if_neg (by rw [e, hy]; exact fun z => hk (Option.some.inj z)), if_neg hk]
      simp only [RepKV]
      exact ⟨k', v0, _, rfl, e, h1, RepKV.map hy rd h2⟩
theorem RepKV.append : ∀ {xs ys : List (D × D)} {vs ws : List (Key × V)}, RepKV W g H xs vs → RepKV W g H ys ws → RepKV W g H (xs ++ ys) (vs ++ ws)
  | [], ys, vs, ws, h, k => by simp only [RepKV] at h; subst h; exact k
  | (x, d) :: xs, ys, vs, ws, h, k => by
    simp only [RepKV] at h
    obtain ⟨k', v, r, rfl, h0, h1, h2⟩ := h
    simp only [List.cons_append, RepKV]
    exact ⟨k', v, r ++ ws, rfl, h0, h1, RepKV.append h2 k⟩
theorem RepKV.put {y : D} {ky : Key} {d : D} {v : V} (hy : keyD y = some ky) (rd : Rep W g H d v) {kvs : List (D × D)} {ws : List (Key × V)} (r : RepKV W g H kvs ws) : RepKV W g H (dput kvs y d) (putK ws ky v) := by
  unfold dput putK
  rw [r.any hy]
  split
  · exact r.map hy rd
  · exact r.append (by simp only [RepKV]; exact ⟨ky, v, [], rfl, hy, rd, rfl⟩)
theorem Ext.ndk {p : Addr} {u : HO} {i : Nat} (h : RelH W C g vh H) (hi : i < g.n) : True := trivial
theorem dg_sub (cz : Cz W Wx k X) (ha : DE W Wx X a φ) (hb : DE W Wx X b ψ) (he : ∀ v, assign (.Subscript a b pos) X.env v = (do
      let ov ← holding [v] (eval a X.env)
      let iv ← holding [v, ov] (eval b X.env)
      standAt pos
      holding [v, ov, iv] (setItem ov iv v)
      release [v, ov, iv] []) := by intro _; rfl) : DG W X (.Subscript a b pos) (gSubF φ ψ) [] := by
  have pset : PSet X (fun o i v H Q => rSetL o i v H Q ∨ rSetD o i v H Q) := fun pins s σ H o i v ov iv u Q I ro ri rv h => h.elim (set_list pins s σ H o i v ov iv u Q I ro ri rv) (set_dict (hu_of cz.rm) pins s σ H o i v ov iv u Q I ro ri rv)
  refine ⟨fun pins s σ H v u Q I r ⟨C, g, sl, vh, d, h, hs, rd, q⟩ => ?_⟩
  refine (pg_sub (ha C) (hb C) pset he).run pins s σ H v u Q I r ?_
  refine ⟨g, sl, vh, h, hs, ?_⟩
  unfold gSubF at q
  cases e1 : φ sl vh with
  | bad => rw [e1] at q; exact q.elim
  | exc x vh' => rw [e1] at q; exact q.elim
  | ok ev vh1 =>
    rw [e1] at q
    dsimp only at q
    intro g1 H1 v1 h1 s1 x1 r1
    obtain ⟨g2, h2, x2, r2⟩ := r1.freeze h1
    refine ⟨g2, sl, vh1, h2, s1.mono x2, ?_⟩
    cases e2 : ψ sl vh1 with
    | bad => rw [e2] at q; exact q.elim
    | exc x vh' => rw [e2] at q; exact q.elim
    | ok iv vh2 =>
      rw [e2] at q
      dsimp only at q
      intro g3 H3 v3 h3 s3 x3 r3
      obtain ⟨g4, h4, x4, r4⟩ := r3.freeze h3
      have xx := x3.trans x4
      have ro := Rep.mono xx _ _ r2
      have rd' := Rep.mono ((x1.trans x2).trans xx) _ _ rd
      have ss := s3.mono x4
      cases eo : ev.d with
      | ref n =>
        rw [eo] at q ro
        simp only [Rep] at ro
        obtain ⟨hn, rfl⟩ := ro
        have hl : n < vh2.length := by rw [h4.len]; exact hn
        simp only [dstore, List.getElem?_eq_getElem hl, Option.bind_some] at q
        have ob := h4.vh n _ (List.getElem?_eq_getElem hl)
        cases eu : vh2[n] with
        | lst xs =>
          rw [eu] at q ob
          obtain ⟨ws, o1, o2⟩ := ob
          cases ei : iv.d with
          | int j =>
            rw [ei] at q r4
            simp only [Rep] at r4
            subst r4
            simp only [ostore] at q
            cases ej : ixN xs.length j with
            | none => rw [ej] at q; exact q.elim
            | some m =>
              rw [ej] at q
              refine .inl ⟨_, ws, j, m, rfl, rfl, o1, by rw [← o2.length]; exact ej, ?_⟩
              have xw := Ext.write (u := .lst (ws.set m v)) h4 hn
              exact q g4 _ σ (h4.write hn ⟨_, upd_same, Reps.mono xw _ _ (o2.set m rd')⟩) (ss.mono xw) (((x1.trans x2).trans xx).trans xw) fun _ _ => rfl
          | _ => rw [ei] at q; exact q.elim
        | dct kvs =>
          rw [eu] at q ob
          obtain ⟨ws, o1, o2⟩ := ob
          have q : PostG W C [] g H σ (((((keyD iv.d).bind fun _ => if kvs.length < lim then some (O.dct (dput kvs iv.d d)) else none)).map fun u' => vh2.set n u').map fun vh3 => (sl, vh3)) Q := by
            cases ei : iv.d <;> rw [ei] at q <;> exact q
          cases ek : keyD iv.d with
          | none => rw [ek] at q; exact q.elim
          | some y =>
            rw [ek] at q
            dsimp only [Option.bind_some] at q
            split at q
            · rename_i hlim
              have ey := keyD_kV (h4.view r4) (by
                have : view vh2 iv.d = iv.d := by cases h : iv.d <;> rw [h] at ek <;> first | rfl | cases ek
                rw [this]; exact ek)
              subst ey
              have xw := Ext.write (u := .dK (putK ws y v)) h4 hn
              refine .inr ⟨_, _, rfl, DPut.k o1 (by rw [← o2.length, ← lim_eq]; exact hlim), ?_⟩
              exact q g4 _ σ (h4.write hn ⟨_, upd_same, RepKV.mono xw _ _ (o2.put ek rd')⟩) (ss.mono xw) (((x1.trans x2).trans xx).trans xw) fun _ _ => rfl
            · exact q.elim
        | _ => rw [eu] at q; cases ei : iv.d <;> rw [ei] at q <;> exact q.elim
      | _ => rw [eo] at q; exact q.elim
end

/-! ### target = value -/
def sAsg (φ : EF) (γ : GF) : SF := fun sl vh => match φ sl vh with
  | .ok ev vh1 => match γ ev.d sl vh1 with
    | some (sl', vh') => .nx sl' vh'
    | none => .bad
  | .exc x vh' => .ex x sl vh'
  | .bad => .bad
/-- a, b = x, y -/
def sPar (i j : Nat) (α : AF) : SF := fun sl vh => match α sl vh with
  | .ok [d, e] vh' => .nx ((sl.set i (some d)).set j (some e)) vh'
  | .ok _ _ => .bad
  | .exc x vh' => .ex x sl vh'
  | .bad => .bad
section
variable {W : Wd} {C : Con} {Wx : WX} {X : Cx} {k : Nat} {g g0 : Gh} {H H0 : Hp} {σ : L2.St} {sl : Sl} {vh : VH} {φ ψ χ : EF} {δ ε : SF} {τ : TF} {pos : Pos} {e a b : Expr} {st : Stmt} {rest : List Stmt}
theorem ds_asg {tg : Expr} {γ : GF} {ix : List Nat} (he : DE W Wx X e φ) (hg : DG W X tg γ ix) (hs : swapsWithSole [tg] e pos.line X.env = pure false := by rfl) (hw : swappedStores [tg] e X.env = pure none := by rfl)
    (h1 : (assignEach [tg] X.env).map (·.2) = [assign tg X.env] := by rfl) : DS W Wx X (.Assign [tg] e pos) (sAsg φ γ) := fun C => ps_imp (ps_asg (he C) hg hs hw h1) fun En σ H ⟨g, sl, vh, h, hs, q⟩ => by
  refine ⟨g, sl, vh, h, hs, ?_⟩
  unfold sAsg at q
  cases r : φ sl vh with
  | bad => rw [r] at q; exact q
  | exc x vh' => rw [r] at q; exact fun g1 H1 c od a b d e => q g1 H1 σ c od a b d e
  | ok e vh' =>
    rw [r] at q
    intro g1 H1 v1 h1 s1 x1 r1
    obtain ⟨g2, h2, x2, r2⟩ := r1.freeze h1
    refine ⟨C, g2, sl, vh', _, h2, s1.mono x2, r2, ?_⟩
    dsimp only at q
    cases r3 : γ e.d sl vh' with
    | none => rw [r3] at q; exact q.elim
    | some p =>
      obtain ⟨sl', vh''⟩ := p
      rw [r3] at q
      exact fun g3 H3 σ3 h3 s3 x3 _ => q g3 H3 σ3 h3 s3 ((x1.trans x2).trans x3)
theorem ds_par {i j : Nat} {x y : Str} {px py pt : Pos} {kt k2 pt2} {α : AF} (cz : Cz W Wx k X) (ha : DA W Wx X [a, b] α) (hi : X.N[i]? = some x := by rfl) (hj : X.N[j]? = some y := by rfl) (hij : i ≠ j := by decide)
    (hx : X.env.scope.names.lookup x = some .local := by rfl) (hy : X.env.scope.names.lookup y = some .local := by rfl)
    (hw : swappedStores [.Tuple [.Name x px, .Name y py] kt pt] (.Tuple [a, b] k2 pt2) X.env = pure (some [x, y]) := by rfl)
    (hs : swapsWithSole [.Tuple [.Name x px, .Name y py] kt pt] (.Tuple [a, b] k2 pt2) pos.line X.env = pure false := by rfl) :
    DS W Wx X (.Assign [.Tuple [.Name x px, .Name y py] kt pt] (.Tuple [a, b] k2 pt2) pos) (sPar i j α) := fun C => ps_imp (ps_par cz.calm cz.nd hi hj hij hx hy (ha C) hw hs) fun En σ H ⟨g, sl, vh, h, hs, q⟩ => by
  refine ⟨g, sl, vh, h, hs, ?_⟩
  unfold sPar at q
  cases r : α sl vh with
  | bad => rw [r] at q; exact q
  | exc x vh' => rw [r] at q; exact fun g1 H1 c od a b d e => q g1 H1 σ c od a b d e
  | ok ds vh' =>
    rw [r] at q
    rcases ds with _ | ⟨d, _ | ⟨e, _ | ⟨f, ds⟩⟩⟩
    · exact q.elim
    · exact q.elim
    · intro g1 H1 vs h1 s1 x1 r1
      simp only [Reps] at r1
      obtain ⟨v, r, rfl, r2, w, r', rfl, r3, rfl⟩ := r1
      exact ⟨v, w, rfl, q g1 H1 _ h1 ((s1.set r2).set r3) x1⟩
    · exact q.elim
end
end
end PM

/-! PM9: what loops walk, for, while, list comprehensions. -/
namespace PM
open PySem L2
noncomputable section

/-- the items of what is walked; which object has to stay as it is -/
structure IV where
  items : List D
  gd : Option (Nat × O)
abbrev IF := Sl → VH → R IV
noncomputable def gdB : Option (Nat × O) → VH → Bool
  | none, _ => true
  | some (n, o), vh => @decide (vh[n]? = some o) (Classical.propDecidable _)
def YI (W : Wd) (J : It) (items : List D) (gd : Option (Nat × O)) (g1 : Gh) (H1 : Hp) : Prop := ∀ (C : Con) (i : Nat) g vh H, RelH W C g vh H → Ext g1 H1 g H → gdB gd vh = true →
  (items.length ≤ i → J.stop i H) ∧ ∀ d, items[i]? = some d → J.go i H ∧ ∀ x H', J.yld i H x H' → ∃ g', RelH W C g' vh H' ∧ Ext g H g' H' ∧ Rep W g' H' d x
def PostI (W : Wd) (C : Con) (Wx : WX) (g0 : Gh) (H0 : Hp) (σ : L2.St) (sl : Sl) (r : R IV) (Q : It → Hp → Prop) : Prop :=
  match r with
  | .bad => False
  | .ok iv vh => ∀ g H J, RelH W C g vh H → RelS W g H sl σ → Ext g0 H0 g H → YI W J iv.items iv.gd g H → Q J H
  | .exc x vh => ∀ g H c od, RelH W C g vh H → RelS W g H sl σ → Ext g0 H0 g H → XRep W g H x c od → Wx c od σ H
def TDI (W : Wd) (C : Con) (Wx : WX) (ι : IF) : TI := fun σ H Q => ∃ g sl vh, RelH W C g vh H ∧ RelS W g H sl σ ∧ PostI W C Wx g H σ sl (ι sl vh) Q
def DI (W : Wd) (Wx : WX) (X : Cx) (tg e : Expr) (ι : IF) : Prop := ∀ C, PI X tg e (TDI W C Wx ι)
def ivOf (vh : VH) (d : D) : Option IV := match d with
  | .tup xs => some ⟨xs, none⟩
  | .lst xs => some ⟨xs, none⟩
  | .scr ns => some ⟨ns.map D.int, none⟩
  | .ref n => match vh[n]? with
    | some (.lst xs) => some ⟨xs, some (n, .lst xs)⟩
    | _ => none
  | _ => none
def iVal (φ : EF) : IF := fun sl vh => match φ sl vh with
  | .ok e vh' => match ivOf vh' e.d with
    | some iv => .ok iv vh'
    | none => .bad
  | .exc x vh' => .exc x vh'
  | .bad => .bad
def rngI (lo : Int) (n : Nat) : List D := (List.range n).map fun (i : Nat) => D.int (lo + (i : Int))
noncomputable def iRg1 (φ : EF) : IF := fun sl vh => match φ sl vh with
  | .ok (.v (.int j)) vh' => @ite _ (j < 2 ^ 62 ∧ -(2 ^ 62) ≤ j) (Classical.propDecidable _) (.ok ⟨rngI 0 j.toNat, none⟩ vh') .bad
  | .ok _ _ => .bad
  | .exc x vh' => .exc x vh'
  | .bad => .bad
noncomputable def iRg2 (α : AF) : IF := fun sl vh => match α sl vh with
  | .ok [.int i, .int j] vh' => @ite _ ((-(2 ^ 62) ≤ i ∧ i < 2 ^ 62) ∧ -(2 ^ 62) ≤ j ∧ j < 2 ^ 62) (Classical.propDecidable _) (.ok ⟨rngI i (j - i).toNat, none⟩ vh') .bad
  | .ok _ _ => .bad
  | .exc x vh' => .exc x vh'
  | .bad => .bad
section
variable {W : Wd} {C : Con} {Wx : WX} {X : Cx} {k : Nat} {g g0 : Gh} {H H0 : Hp} {σ : L2.St} {sl : Sl} {vh : VH} {φ ψ χ : EF} {δ ε : SF} {τ : TF} {pos : Pos} {e a b tg : Expr} {st : Stmt} {rest : List Stmt}
theorem pi_imp {t t' : TI} (h : PI X tg e t) (i : ∀ σ H Q, t' σ H Q → t σ H Q) : PI X tg e t' := ⟨fun pins s σ H Q I q => h.run pins s σ H Q I (i σ H Q q)⟩
theorem pi_or {t t' : TI} (h : PI X tg e t) (h' : PI X tg e t') : PI X tg e (fun σ H Q => t σ H Q ∨ t' σ H Q) := ⟨fun pins s σ H Q I q => q.elim (h.run pins s σ H Q I) (h'.run pins s σ H Q I)⟩
theorem sqL_inj {K : PySem.W.Frag} {a : Addr} {xs ys : List V} (h : H a = some (.lst xs)) (h' : ∀ y, SqL K H a y → y = ys) : xs = ys := h' xs (SqL.of h)
theorem yi_tup {K : PySem.W.Frag} (hK : K = W.K) {xs : List D} {vs : List V} {a : Addr} (t : TupF W g0 H0 a vs) (r : Reps W g0 H0 xs vs) : YI W (Itt K a) xs none g0 H0 := by
  intro C i g vh H h x _
  have t' : SqT K H a vs := by
    subst hK
    rcases t with ⟨f, t⟩ | t
    · exact SqT.of (x.keep a _ f trivial t)
    · exact sqT_noH t
  have r' := Reps.mono x _ _ r
  refine ⟨fun hi => ⟨vs, t', by rw [← r'.length]; exact hi⟩, fun d hd => ?_⟩
  obtain ⟨v, hv, rv⟩ := r'.get hd
  refine ⟨⟨vs, v, t', hv⟩, fun y H' ⟨e1, e2⟩ => ?_⟩
  subst e1
  have e3 := e2 vs t'
  rw [hv] at e3
  cases e3
  exact ⟨g, h, Ext.refl g _, rv⟩
theorem yi_lst {K : PySem.W.Frag} {xs : List D} {vs : List V} {a : Addr} (f : g0.F a) (t : H0 a = some (.lst vs)) (r : Reps W g0 H0 xs vs) : YI W (Itl K a) xs none g0 H0 := by
  intro C i g vh H h x _
  have t' : SqL K H a vs := SqL.of (x.keep a _ f trivial t)
  have r' := Reps.mono x _ _ r
  refine ⟨fun hi => ⟨vs, t', by rw [← r'.length]; exact hi⟩, fun d hd => ?_⟩
  obtain ⟨v, hv, rv⟩ := r'.get hd
  refine ⟨⟨vs, v, t', hv⟩, fun y H' ⟨e1, e2⟩ => ?_⟩
  subst e1
  have e3 := e2 vs t'
  rw [hv] at e3
  cases e3
  exact ⟨g, h, Ext.refl g _, rv⟩
theorem yi_scr {K : PySem.W.Frag} (hK : K = W.K) {ns : List Int} {a : Addr} (t : (g0.F a ∧ ∃ o, H0 a = some (.frz o (.lst (ns.map V.int)))) ∨ SqL W.K noH a (ns.map V.int)) : YI W (Itl K a) (ns.map D.int) none g0 H0 := by
  intro C i g vh H h x _
  have t' : SqL K H a (ns.map V.int) := by
    subst hK
    rcases t with ⟨f, o, t⟩ | t
    · exact .inl (.inr ⟨o, x.keep a _ f trivial t⟩)
    · exact sqL_noH t
  refine ⟨fun hi => ⟨_, t', by simpa using hi⟩, fun d hd => ?_⟩
  rw [List.getElem?_map] at hd
  cases hn : ns[i]? with
  | none => rw [hn] at hd; cases hd
  | some j =>
    rw [hn] at hd
    cases hd
    have hv : (ns.map V.int)[i]? = some (V.int j) := by rw [List.getElem?_map, hn]; rfl
    refine ⟨⟨_, _, t', hv⟩, fun y H' ⟨e1, e2⟩ => ?_⟩
    subst e1
    have e3 := e2 _ t'
    rw [hv] at e3
    cases e3
    exact ⟨g, h, Ext.refl g _, by simp only [Rep]⟩
theorem yi_ref {K : PySem.W.Frag} {n : Nat} {xs : List D} (hn : n < g0.n) : YI W (Itl K (g0.m n)) xs (some (n, .lst xs)) g0 H0 := by
  intro C i g vh H h x hg
  have hg : vh[n]? = some (.lst xs) := by
    unfold gdB at hg
    exact @of_decide_eq_true _ (Classical.propDecidable _) hg
  obtain ⟨vs, t, r'⟩ := h.vh n _ hg
  rw [x.m n hn] at t
  have t' : SqL K H (g0.m n) vs := SqL.of t
  refine ⟨fun hi => ⟨vs, t', by rw [← r'.length]; exact hi⟩, fun d hd => ?_⟩
  obtain ⟨v, hv, rv⟩ := r'.get hd
  refine ⟨⟨vs, v, t', hv⟩, fun y H' ⟨e1, e2⟩ => ?_⟩
  subst e1
  have e3 := e2 vs t'
  rw [hv] at e3
  cases e3
  exact ⟨g, h, Ext.refl g _, rv⟩
theorem yi_range {lo : Int} {n : Nat} : YI W (Itr lo n) (rngI lo n) none g0 H0 := by
  intro C i g vh H h x _
  unfold rngI
  refine ⟨fun hi => by simpa [Itr] using hi, fun d hd => ?_⟩
  rw [List.getElem?_map] at hd
  cases hn : (List.range n)[i]? with
  | none => rw [hn] at hd; cases hd
  | some j =>
    rw [hn] at hd
    cases hd
    obtain ⟨h1, h2⟩ := List.getElem?_eq_some_iff.mp hn
    simp at h1 h2
    subst h2
    refine ⟨h1, fun y H' ⟨e1, e2⟩ => ?_⟩
    subst e1 e2
    exact ⟨g, h, Ext.refl g _, by simp only [Rep]⟩
theorem di_val (hK : X.K = W.K) (he : DE W Wx X e φ) : DI W Wx X tg e (iVal φ) := fun C =>
  pi_imp (pi_or (pi_list (he C)) (pi_tup (he C))) fun σ H Q ⟨g, sl, vh, h, hs, q⟩ => by
    unfold iVal at q
    cases r : φ sl vh with
    | bad => rw [r] at q; exact q.elim
    | exc x vh' => rw [r] at q; exact .inl ⟨g, sl, vh, h, hs, by rw [r]; exact q⟩
    | ok ev vh' =>
      rw [r] at q
      dsimp only at q
      cases ei : ivOf vh' ev.d with
      | none => rw [ei] at q; exact q.elim
      | some iv =>
        rw [ei] at q
        cases ed : ev.d with
        | tup xs =>
          rw [ed] at ei
          cases ei
          refine .inr ⟨g, sl, vh, h, hs, ?_⟩
          rw [r]
          intro g1 H1 v1 h1 s1 x1 r1
          obtain ⟨g2, h2, x2, r2⟩ := r1.freeze h1
          rw [ed] at r2
          simp only [Rep] at r2
          obtain ⟨a, vs, rfl, t, rr⟩ := r2
          exact ⟨a, rfl, ⟨vs, by rw [hK]; exact t.sq⟩, q g2 H1 _ h2 (s1.mono x2) (x1.trans x2) (yi_tup hK t rr)⟩
        | lst xs =>
          rw [ed] at ei
          cases ei
          refine .inl ⟨g, sl, vh, h, hs, ?_⟩
          rw [r]
          intro g1 H1 v1 h1 s1 x1 r1
          obtain ⟨g2, h2, x2, r2⟩ := r1.freeze h1
          rw [ed] at r2
          simp only [Rep] at r2
          obtain ⟨a, vs, rfl, f, t, rr⟩ := r2
          exact ⟨a, rfl, ⟨vs, SqL.of t⟩, q g2 H1 _ h2 (s1.mono x2) (x1.trans x2) (yi_lst f t rr)⟩
        | scr ns =>
          rw [ed] at ei
          cases ei
          refine .inl ⟨g, sl, vh, h, hs, ?_⟩
          rw [r]
          intro g1 H1 v1 h1 s1 x1 r1
          obtain ⟨g2, h2, x2, r2⟩ := r1.freeze h1
          rw [ed] at r2
          have rw2 : RepW W g2 H1 (.scr ns) v1 := .inl r2
          simp only [Rep] at r2
          obtain ⟨a, rfl, t⟩ := r2
          obtain ⟨a', e1, t'⟩ := rw2.scr
          cases e1
          exact ⟨a, rfl, ⟨_, by rw [hK]; exact t'⟩, q g2 H1 _ h2 (s1.mono x2) (x1.trans x2) (yi_scr hK t)⟩
        | ref n =>
          rw [ed] at ei
          simp only [ivOf] at ei
          cases en : vh'[n]? with
          | none => rw [en] at ei; cases ei
          | some o =>
            rw [en] at ei
            cases o with
            | lst xs =>
              cases ei
              refine .inl ⟨g, sl, vh, h, hs, ?_⟩
              rw [r]
              intro g1 H1 v1 h1 s1 x1 r1
              obtain ⟨g2, h2, x2, r2⟩ := r1.freeze h1
              rw [ed] at r2
              simp only [Rep] at r2
              obtain ⟨hn, rfl⟩ := r2
              obtain ⟨vs, t, rr⟩ := h2.vh n _ en
              exact ⟨_, rfl, ⟨vs, SqL.of t⟩, q g2 H1 _ h2 (s1.mono x2) (x1.trans x2) (yi_ref hn)⟩
            | _ => cases ei
        | _ => rw [ed] at ei; cases ei
theorem di_rg1 {p : Pos} (hg : Gl X "range") (hm : X.mg "range" = none) (ha : DE W Wx X a φ) (hs : starEach [a] X.env = [(false, eval a X.env)] := by rfl) : DI W Wx X tg (.Call (.Name "range" p) [a] [] pos) (iRg1 φ) := fun C =>
  pi_imp (pi_range1 hg hm (pa_cons (ha C) pa_nil (by rw [hs]; rfl)) hs) fun σ H Q ⟨g, sl, vh, h, hs, q⟩ => by
    refine ⟨g, sl, vh, h, hs, ?_⟩
    unfold iRg1 at q
    cases r : φ sl vh with
    | bad => rw [r] at q; exact q
    | exc x vh' => rw [r] at q; exact q
    | ok ev vh' =>
      rw [r] at q
      cases ev with
      | f o => exact q.elim
      | v d =>
        cases d with
        | int j =>
          dsimp only at q
          split at q
          · rename_i hc
            intro g1 H1 v1 h1 s1 x1 r1
            simp only [RepE, Rep] at r1
            subst r1
            exact ⟨j, rfl, hc.2, hc.1, q g1 H1 _ h1 s1 x1 yi_range⟩
          · exact q.elim
        | _ => exact q.elim
theorem di_rg2 {p : Pos} {α : AF} (hg : Gl X "range") (hm : X.mg "range" = none) (ha : DA W Wx X [a, b] α) (hs : starEach [a, b] X.env = [(false, eval a X.env), (false, eval b X.env)] := by rfl) (hs2 : starEach [b] X.env = [(false, eval b X.env)] := by rfl) : DI W Wx X tg (.Call (.Name "range" p) [a, b] [] pos) (iRg2 α) := fun C =>
  pi_imp (pi_range2 hg hm (ha C) hs hs2) fun σ H Q ⟨g, sl, vh, h, hs, q⟩ => by
    refine ⟨g, sl, vh, h, hs, ?_⟩
    unfold iRg2 at q
    cases r : α sl vh with
    | bad => rw [r] at q; exact q
    | exc x vh' => rw [r] at q; exact q
    | ok ds vh' =>
      rw [r] at q
      rcases ds with _ | ⟨d, _ | ⟨e, _ | ⟨f, ds⟩⟩⟩
      · exact q.elim
      · cases d <;> exact q.elim
      · cases d with
        | int i =>
          cases e with
          | int j =>
            dsimp only at q
            split at q
            · rename_i hc
              intro g1 H1 v1 h1 s1 x1 r1
              simp only [Reps, Rep] at r1
              obtain ⟨_, _, rfl, rfl, _, _, rfl, rfl, rfl⟩ := r1
              exact ⟨i, j, rfl, ⟨hc.1.1, hc.1.2, hc.2.1, hc.2.2⟩, q g1 H1 _ h1 s1 x1 yi_range⟩
            · exact q.elim
          | _ => exact q.elim
        | _ => cases e <;> exact q.elim
      · cases d <;> (try exact q.elim) <;> cases e <;> exact q.elim
end

/-! ### for -/
noncomputable def sLoop (gd : Option (Nat × O)) (γ : GF) (δ : SF) : List D → SF
  | [], sl, vh => if gdB gd vh = true then .nx sl vh else .bad
  | d :: ds, sl, vh => if gdB gd vh = true then (match γ d sl vh with
    | none => .bad
    | some (sl', vh') => match δ sl' vh' with
      | .nx s v => sLoop gd γ δ ds s v
      | .ct s v => sLoop gd γ δ ds s v
      | .bk s v => .nx s v
      | r => r) else .bad
noncomputable def sFor (ι : IF) (γ : GF) (δ : SF) : SF := fun sl vh => match ι sl vh with
  | .ok iv vh' => sLoop iv.gd γ δ iv.items sl vh'
  | .exc x vh' => .ex x sl vh'
  | .bad => .bad
def sWhile (τ : TF) (δ : SF) : Nat → SF
  | 0 => fun _ _ => .bad
  | n + 1 => fun sl vh => match τ sl vh with
    | .ok true vh' => (match δ sl vh' with
      | .nx s v => sWhile τ δ n s v
      | .ct s v => sWhile τ δ n s v
      | .bk s v => .nx s v
      | r => r)
    | .ok false vh' => .nx sl vh'
    | .exc x vh' => .ex x sl vh'
    | .bad => .bad
section
variable {W : Wd} {C : Con} {Wx : WX} {X : Cx} {k : Nat} {g g0 : Gh} {H H0 : Hp} {σ : L2.St} {sl : Sl} {vh : VH} {φ ψ χ : EF} {δ ε : SF} {τ : TF} {pos : Pos} {e a b tg : Expr} {st : Stmt} {rest : List Stmt}
theorem ds_for {ι : IF} {γ : GF} {ix : List Nat} {iter : Expr} {body : List Stmt} (cz : Cz W Wx k X) (hi : DI W Wx X tg iter ι) (hg : DG W X tg γ ix) (hb : DSs W Wx X body δ)
    (hs : ∀ x, foldedSetIterable iter X.env x = pure x := by intro _; rfl) : DS W Wx X (.For tg iter body [] pos) (sFor ι γ δ) := fun C =>
  ps_imp (ps_for cz.own cz.calm (hi C) hg (hb C) hs) fun En σ H ⟨g, sl, vh, h, hs, q⟩ => by
    refine ⟨g, sl, vh, h, hs, ?_⟩
    unfold sFor at q
    cases r : ι sl vh with
    | bad => rw [r] at q; exact q
    | exc x vh' => rw [r] at q; exact fun g1 H1 c od a b d e => q g1 H1 σ c od a b d e
    | ok iv vh' =>
      rw [r] at q
      intro g1 H1 J h1 s1 x1 y1
      dsimp only at q
      refine ⟨fun i m σ H => m = iv.items.length - i ∧ i ≤ iv.items.length ∧ ∃ g sl vh, RelH W C g vh H ∧ RelS W g H sl σ ∧ Ext g1 H1 g H ∧ PostS W C Wx g1 H1 (sLoop iv.gd γ δ (iv.items.drop i) sl vh) En,
        ⟨_, rfl, Nat.zero_le _, g1, sl, vh', h1, s1, Ext.refl g1 H1, by rw [List.drop_zero]; exact q.at x1⟩, ?_⟩
      rintro i m σ2 H2 ⟨rfl, hi, g2, sl2, vh2, h2, s2, x2, q2⟩
      by_cases hlt : i < iv.items.length
      · rw [List.drop_eq_getElem_cons hlt] at q2
        unfold sLoop at q2
        split at q2
        · rename_i hgd
          obtain ⟨_, yy⟩ := y1 C i g2 vh2 H2 h2 x2 hgd
          obtain ⟨go, yy⟩ := yy _ (List.getElem?_eq_getElem hlt)
          refine .inr ⟨go, fun σ H => ∃ g sl vh, RelH W C g vh H ∧ RelS W g H sl σ ∧ Ext g1 H1 g H ∧ PostS W C Wx g1 H1 (sLoop iv.gd γ δ (iv.items.drop (i + 1)) sl vh) En,
            fun σ' H' n => ⟨_, by omega, rfl, hlt, n⟩, fun x H3 hy => ?_⟩
          obtain ⟨g3, h3, x3, r3⟩ := yy x H3 hy
          refine ⟨C, g3, sl2, vh2, _, h3, s2.mono x3, r3, ?_⟩
          cases eg : γ iv.items[i] sl2 vh2 with
          | none => rw [eg] at q2; exact q2.elim
          | some p =>
            obtain ⟨sl4, vh4⟩ := p
            rw [eg] at q2
            dsimp only at q2
            intro g4 H4 σ4 h4 s4 x4 _
            refine ⟨g4, sl4, vh4, h4, s4, ?_⟩
            have xx := (x2.trans x3).trans x4
            cases ed : δ sl4 vh4 with
            | bad => rw [ed] at q2; exact q2.elim
            | nx s v => rw [ed] at q2; exact fun g5 H5 σ5 h5 s5 x5 => ⟨g5, s, v, h5, s5, xx.trans x5, q2⟩
            | ct s v => rw [ed] at q2; exact fun g5 H5 σ5 h5 s5 x5 => ⟨g5, s, v, h5, s5, xx.trans x5, q2⟩
            | bk s v => rw [ed] at q2; exact fun g5 H5 σ5 h5 s5 x5 => q2 g5 H5 σ5 h5 s5 (xx.trans x5)
            | rt d v => rw [ed] at q2; exact fun g5 H5 v5 h5 x5 r5 => q2 g5 H5 v5 h5 (xx.trans x5) r5
            | ex x s v => rw [ed] at q2; exact fun g5 H5 σ5 c od h5 s5 x5 r5 => q2 g5 H5 σ5 c od h5 s5 (xx.trans x5) r5
        · exact q2.elim
      · have ei : iv.items.length ≤ i := Nat.le_of_not_lt hlt
        rw [List.drop_eq_nil_of_le ei] at q2
        unfold sLoop at q2
        split at q2
        · rename_i hgd
          exact .inl ⟨(y1 C i g2 vh2 H2 h2 x2 hgd).1 ei, q2 g2 H2 σ2 h2 s2 x2⟩
        · exact q2.elim
theorem ds_while {c : Expr} {body : List Stmt} (cz : Cz W Wx k X) (n : Nat) (hc : DT W Wx X c τ) (hb : DSs W Wx X body δ) : DS W Wx X (.While c body [] pos) (sWhile τ δ n) := fun C =>
  ps_imp (ps_while cz.own (hc C) (hb C)) fun En σ H ⟨g, sl, vh, h, hs, q⟩ => by
    refine ⟨fun m σ1 H1 => ∃ g1 sl1 vh1, RelH W C g1 vh1 H1 ∧ RelS W g1 H1 sl1 σ1 ∧ Ext g H g1 H1 ∧ PostS W C Wx g H (sWhile τ δ m sl1 vh1) En, ⟨n, g, sl, vh, h, hs, Ext.refl g H, q⟩, ?_⟩
    rintro m σ1 H1 ⟨g1, sl1, vh1, h1, s1, x1, q1⟩
    cases m with
    | zero => exact q1.elim
    | succ m =>
      unfold sWhile at q1
      refine ⟨g1, sl1, vh1, h1, s1, ?_⟩
      cases r : τ sl1 vh1 with
      | bad => rw [r] at q1; exact q1
      | exc x vh' => rw [r] at q1; exact fun g2 H2 c od a b d e => q1 g2 H2 σ1 c od a b (x1.trans d) e
      | ok bb vh2 =>
        rw [r] at q1
        intro g2 H2 h2 s2 x2
        cases bb with
        | false => exact q1 g2 H2 σ1 h2 s2 (x1.trans x2)
        | true =>
          rw [if_pos rfl]
          refine ⟨fun σ H' => ∃ g1 sl1 vh1, RelH W C g1 vh1 H' ∧ RelS W g1 H' sl1 σ ∧ Ext g H g1 H' ∧ PostS W C Wx g H (sWhile τ δ m sl1 vh1) En, fun σ' H' n => ⟨m, Nat.lt_succ_self _, n⟩, g2, sl1, vh2, h2, s2, ?_⟩
          dsimp only at q1
          have xx := x1.trans x2
          cases ed : δ sl1 vh2 with
          | bad => rw [ed] at q1; exact q1.elim
          | nx s v => rw [ed] at q1; exact fun g5 H5 σ5 h5 s5 x5 => ⟨g5, s, v, h5, s5, xx.trans x5, q1⟩
          | ct s v => rw [ed] at q1; exact fun g5 H5 σ5 h5 s5 x5 => ⟨g5, s, v, h5, s5, xx.trans x5, q1⟩
          | bk s v => rw [ed] at q1; exact fun g5 H5 σ5 h5 s5 x5 => q1 g5 H5 σ5 h5 s5 (xx.trans x5)
          | rt d v => rw [ed] at q1; exact fun g5 H5 v5 h5 x5 r5 => q1 g5 H5 v5 h5 (xx.trans x5) r5
          | ex x s v => rw [ed] at q1; exact fun g5 H5 σ5 c od h5 s5 x5 r5 => q1 g5 H5 σ5 c od h5 s5 (xx.trans x5) r5
end
end
end PM

/-! PM10: list comprehensions. -/
namespace PM
open PySem L2
noncomputable section

def wipeS (sl : Sl) : List Nat → Sl
  | [] => sl
  | v :: vs => (wipeS sl vs).set v none
noncomputable def lcLoop (gd : Option (Nat × O)) (γ : GF) (τ : TF) (φ : EF) (sl : Sl) : List D → List D → VH → R (List D)
  | [], acc, vh => if gdB gd vh = true then .ok acc vh else .bad
  | d :: ds, acc, vh => if gdB gd vh = true then (match γ d sl vh with
    | none => .bad
    | some (sl', vh1) => match τ sl' vh1 with
      | .ok true vh2 => (match φ sl' vh2 with
        | .ok e vh3 => if acc.length < lim then lcLoop gd γ τ φ sl ds (acc ++ [e.d]) vh3 else .bad
        | _ => .bad)
      | .ok false vh2 => lcLoop gd γ τ φ sl ds acc vh2
      | _ => .bad) else .bad
noncomputable def eLc (ι : IF) (γ : GF) (τ : TF) (φ : EF) (vs : List Nat) : EF := fun sl vh => match ι sl vh with
  | .ok iv vh1 => (match lcLoop iv.gd γ τ φ (wipeS sl vs) iv.items [] vh1 with
    | .ok acc vh2 => .ok (.f (.lst acc)) vh2
    | _ => .bad)
  | .exc x vh' => .exc x vh'
  | .bad => .bad
abbrev WF : WX := fun _ _ _ _ => False
def tYesF : TF := fun _ vh => .ok true vh
def DTs (W : Wd) (Wx : WX) (X : Cx) (es : List Expr) (φ : TF) : Prop := ∀ C, PTs X es (TDT W C Wx φ)
section
variable {W : Wd} {C : Con} {Wx : WX} {X : Cx} {k : Nat} {g g0 : Gh} {H H0 : Hp} {σ : L2.St} {sl : Sl} {vh : VH} {φ ψ χ : EF} {δ ε : SF} {τ : TF} {pos : Pos} {e a b tg : Expr} {st : Stmt} {rest : List Stmt}
theorem pts_imp {es : List Expr} {t t' : TT} (h : PTs X es t) (i : ∀ σ H Q, t' σ H Q → t σ H Q) : PTs X es t' := ⟨fun pins s σ H Q I q => h.run pins s σ H Q I (i σ H Q q)⟩
theorem dts_nil : DTs W Wx X [] tYesF := fun C => pts_imp pts_nil fun σ H Q ⟨g, sl, vh, h, hs, q⟩ => q g H h hs (Ext.refl g H)
theorem dts_one (h : DT W Wx X a τ) : DTs W Wx X [a] τ := fun C => pts_one (h C)
theorem Cz.blk (cz : Cz W Wx k X) (s : Shared) (H : Hp) (scope : Scope) (cenv : Env) (fp : List Addr) : Cz W WF k (X.blk s H scope cenv fp) :=
  ⟨cz.K, cz.calm, fun u s' ⟨a, B, sI, pins, σ, H, cls, d, e, I, nb, up, sky, na, os, ag, w⟩ => w.elim, cz.rm, cz.gd, PassesOwn.never, cz.nd⟩
theorem RelS.wipe (h : RelS W g H sl σ) : ∀ vs : List Nat, RelS W g H (wipeS sl vs) (wipe σ vs)
  | [] => h
  | v :: vs => by
    have ih := RelS.wipe h vs
    unfold wipeS L2.wipe
    refine ⟨by simpa using ih.1, fun i d e => ?_⟩
    by_cases hi : v = i
    · subst hi
      by_cases hv : v < (wipeS sl vs).length
      · rw [List.getElem?_set_self hv] at e; cases e
      · rw [List.getElem?_eq_none (by simpa using hv)] at e; cases e
    · rw [List.getElem?_set_ne hi] at e
      obtain ⟨w, e1, r⟩ := ih.2 i d e
      exact ⟨w, by rw [List.getElem?_set_ne hi]; exact e1, r⟩
theorem nx_of {H : Hp} {D : Addr} {u : HO} (e : H D = some u) (n : ∀ p, u ≠ .ext p) : ∀ q, H D ≠ some (LamX.CodeO D q) := fun q z => n _ (Option.some.inj (e.symm.trans z))
theorem nx_none {H : Hp} {D : Addr} (e : H D = none) : ∀ q, H D ≠ some (LamX.CodeO D q) := fun q z => by rw [e] at z; cases z
theorem nx_lst {H : Hp} {D : Addr} {vs : List V} (e : H D = some (.lst vs)) : ∀ q, H D ≠ some (LamX.CodeO D q) := nx_of e fun _ z => by cases z
theorem nx_dK {H : Hp} {D : Addr} {ws : List (Key × V)} (e : H D = some (.dK ws)) : ∀ q, H D ≠ some (LamX.CodeO D q) := nx_of e fun _ z => by cases z
theorem Ext.upd {p : Addr} {u : HO} (nf : ¬ g.F p) (nx : ∀ q, H p ≠ some (LamX.CodeO p q)) : Ext g H g (upd H p u) := by
  have ne : ∀ a, g.F a → a ≠ p := fun a f e => nf (by rw [← e]; exact f)
  exact ⟨fun _ x => x, fun _ _ => rfl, Nat.le_refl _, fun a w f _ r => by rw [upd_ne (ne a f)]; exact r, fun a w f r => by unfold Rd at r ⊢; rw [upd_ne (ne a f)]; exact r,
    fun a w f r => by unfold Rd at r ⊢; rw [upd_ne (ne a f)]; exact r, fun a q r => by rw [upd_ne fun z => nx q (by rw [← z]; exact r)]; exact r⟩
/-- a pending object: nobody's -/
structure Pend (C : Con) (g : Gh) (D : Addr) : Prop where
  nf : ¬ g.F D
  np : ∀ i, i < g.n → g.m i ≠ D
  nfr : ¬ C.Fr D
/-- it is kept as it is -/
def keepC (C : Con) (H : Hp) (D : Addr) : Con := ⟨H, fun a => C.Fr a ∨ a = D, fun a => C.Pd a ∨ a = D⟩
theorem RelH.keep {D : Addr} (h : RelH W C g vh H) (p : Pend C g D) (hD : H D ≠ none) : RelH W (keepC C H D) g vh H :=
  ⟨h.len, h.vh, h.inj, h.nf, h.ff, fun a ha => ⟨rfl, ha.elim (fun x => (h.fr a x).2) fun x => by rw [x]; exact hD⟩, fun i hi ha => ha.elim (h.nfr i hi) (p.np i hi),
    fun a ha => ha.elim (fun x => ⟨.inl (h.pd a x).1, (h.pd a x).2⟩) fun x => ⟨.inr x, by rw [x]; exact p.nf⟩⟩
theorem RelH.unkeep {D : Addr} {g' : Gh} {vh' : VH} {H' : Hp} (h : RelH W C g vh H) (p : Pend C g D) (h' : RelH W (keepC C H D) g' vh' H') : RelH W C g' vh' H' ∧ Pend C g' D ∧ H' D = H D :=
  ⟨⟨h'.len, h'.vh, h'.inj, h'.nf, h'.ff, fun a ha => ⟨(h'.fr a (.inl ha)).1.trans (h.fr a ha).1, (h'.fr a (.inl ha)).2⟩, fun i hi ha => h'.nfr i hi (.inl ha),
    fun a ha => ⟨(h.pd a ha).1, (h'.pd a (.inl ha)).2⟩⟩, ⟨(h'.pd D (.inr rfl)).2, fun i hi e => h'.nfr i hi (.inr e), p.nfr⟩, (h'.fr D (.inr rfl)).1⟩
/-- it is written -/
theorem RelH.pend {D : Addr} {u : HO} (h : RelH W C g vh H) (p : Pend C g D) (nx : ∀ q, H D ≠ some (LamX.CodeO D q)) : RelH W C g vh (upd H D u) where
  len := h.len
  vh := fun i o e => by
    have hi : i < g.n := by rw [← h.len]; exact (List.getElem?_eq_some_iff.mp e).1
    exact (h.vh i o e).mono (Ext.upd p.nf nx) (upd_ne (p.np i hi))
  inj := h.inj
  nf := h.nf
  ff := fun a ha => by
    rw [upd_ne fun z => p.nf (by rw [← z]; exact ha)]
    exact h.ff a ha
  fr := fun a ha => by
    rw [upd_ne fun z => p.nfr (by rw [← z]; exact ha)]
    exact h.fr a ha
  nfr := h.nfr
  pd := h.pd
theorem lc_imp {ι : IF} {γ : GF} {ix vs : List Nat} {Q : VK} (hix : ∀ i ∈ ix, i ∈ vs) (h : RelH W C g vh H) (hs : RelS W g H sl σ) (q : PostE W C Wx g H σ sl (eLc ι γ τ φ vs sl vh) Q) :
    tLc (TDI W C Wx ι) (TDG W γ ix) (fun σ H Q => ∃ C, TDT W C WF τ σ H Q) (fun σ H Q => ∃ C, TDE W C WF φ σ H Q) vs σ H Q := by
  refine ⟨g, sl, vh, h, hs, ?_⟩
  unfold eLc at q
  cases r : ι sl vh with
  | bad => rw [r] at q; exact q
  | exc x vh' => rw [r] at q; exact q
  | ok iv vh1 =>
    rw [r] at q
    intro g1 H1 J h1 s1 x1 y1 D hD
    dsimp only at q
    obtain ⟨f1, f2, f3⟩ := h1.free hD
    have q : PostE W C Wx g H σ sl (match lcLoop iv.gd γ τ φ (wipeS sl vs) iv.items [] vh1 with | .ok acc vh2 => .ok (.f (.lst acc)) vh2 | _ => .bad) Q := q
    have p1 : Pend C g1 D := ⟨f1, f2, f3⟩
    refine ⟨fun i m H2 => m = iv.items.length - i ∧ i ≤ iv.items.length ∧ ∃ g2 vh2 acc vals, RelH W C g2 vh2 H2 ∧ Pend C g2 D ∧ Ext g1 H1 g2 H2 ∧ H2 D = some (.lst vals) ∧ Reps W g2 H2 acc vals ∧
        PostE W C Wx g H σ sl (match lcLoop iv.gd γ τ φ (wipeS sl vs) (iv.items.drop i) acc vh2 with | .ok acc vh2 => .ok (.f (.lst acc)) vh2 | _ => .bad) Q,
      ⟨_, rfl, Nat.zero_le _, g1, vh1, [], [], h1.pend p1 (nx_none hD), p1, Ext.upd f1 (nx_none hD), upd_same, Reps.nil, by rw [List.drop_zero]; exact q⟩, ?_⟩
    rintro i m H2 ⟨rfl, hi, g2, vh2, acc, vals, h2, p2, x2, e2, r2, q2⟩
    by_cases hlt : i < iv.items.length
    · rw [List.drop_eq_getElem_cons hlt] at q2
      unfold lcLoop at q2
      by_cases hgd : gdB iv.gd vh2 = true
      · rw [if_pos hgd] at q2
        have hk := h2.keep p2 (by rw [e2]; exact fun z => by cases z)
        obtain ⟨_, yy⟩ := y1 _ i g2 vh2 H2 hk x2 hgd
        obtain ⟨go, yy⟩ := yy _ (List.getElem?_eq_getElem hlt)
        refine .inr ⟨go, fun H2 => ∃ g2 vh2 acc vals, RelH W C g2 vh2 H2 ∧ Pend C g2 D ∧ Ext g1 H1 g2 H2 ∧ H2 D = some (.lst vals) ∧ Reps W g2 H2 acc vals ∧
          PostE W C Wx g H σ sl (match lcLoop iv.gd γ τ φ (wipeS sl vs) (iv.items.drop (i + 1)) acc vh2 with | .ok acc vh2 => .ok (.f (.lst acc)) vh2 | _ => .bad) Q,
          fun H' n => ⟨_, by omega, rfl, hlt, n⟩, fun x H3 hy => ?_⟩
        obtain ⟨g3, h3, x3, r3⟩ := yy x H3 hy
        have s3 : RelS W g3 H3 (wipeS sl vs) (wipe σ vs) := RelS.mono (x2.trans x3) (s1.wipe vs)
        refine ⟨_, g3, wipeS sl vs, vh2, _, h3, s3, r3, ?_⟩
        cases eg : γ iv.items[i] (wipeS sl vs) vh2 with
        | none => rw [eg] at q2; exact q2.elim
        | some p =>
          obtain ⟨sl4, vh4⟩ := p
          rw [eg] at q2
          dsimp only at q2
          intro g4 H4 σ4 h4 s4 x4 w4
          have w4' : wipe σ4 vs = wipe σ vs := by
            rw [w4 vs hix]
            have idem : ∀ (us ws : List Nat), (∀ i ∈ us, i ∈ ws) → wipe (wipe σ us) ws = wipe σ ws := fun us => by
              induction us with
              | nil => intro ws _; rfl
              | cons u us ih =>
                intro ws hw
                show wipe ((wipe σ us).set u none) ws = _
                rw [wipe_set (hw u (List.mem_cons_self ..)), ih ws fun i hi => hw i (List.mem_cons_of_mem _ hi)]
            exact idem vs vs fun i hi => hi
          refine ⟨w4', _, g4, sl4, vh4, h4, s4, ?_⟩
          cases et : τ sl4 vh4 with
          | bad => rw [et] at q2; exact q2.elim
          | exc x vh' => rw [et] at q2; exact q2.elim
          | ok bb vh5 =>
            rw [et] at q2
            intro g5 H5 h5 s5 x5
            have xx := ((x2.trans x3).trans x4).trans x5
            have xy := (x3.trans x4).trans x5
            cases bb with
            | false =>
              rw [if_neg Bool.false_ne_true]
              obtain ⟨h6, p6, e6⟩ := h2.unkeep p2 h5
              exact ⟨g5, vh5, acc, vals, h6, p6, xx, e6.trans e2, Reps.mono xy _ _ r2, q2⟩
            | true =>
              rw [if_pos rfl]
              refine ⟨_, g5, sl4, vh5, h5, s5, ?_⟩
              dsimp only at q2
              cases ee : φ sl4 vh5 with
              | bad => rw [ee] at q2; exact q2.elim
              | exc x vh' => rw [ee] at q2; exact q2.elim
              | ok ev vh6 =>
                rw [ee] at q2
                dsimp only at q2
                by_cases hlim : acc.length < lim
                · rw [if_pos hlim] at q2
                  intro g6 H6 v6 h6 s6 x6 r6
                  obtain ⟨g7, h7, x7, r7⟩ := r6.freeze h6
                  obtain ⟨h8, p8, e8⟩ := h2.unkeep p2 h7
                  have xz := xy.trans (x6.trans x7)
                  have xu := Ext.upd (H := H6) (u := .lst (vals ++ [v6])) p8.nf (nx_lst (e8.trans e2))
                  refine ⟨vals, e8.trans e2, by rw [← r2.length, ← lim_eq]; exact hlim, g7, vh6, acc ++ [ev.d], vals ++ [v6], h8.pend p8 (nx_lst (e8.trans e2)), p8, (x2.trans xz).trans xu, upd_same, ?_, q2⟩
                  exact Reps.mono xu _ _ ((Reps.mono xz _ _ r2).append (Reps.one r7))
                · rw [if_neg hlim] at q2; exact q2.elim
      · rw [if_neg hgd] at q2; exact q2.elim
    · have ei : iv.items.length ≤ i := Nat.le_of_not_lt hlt
      rw [List.drop_eq_nil_of_le ei] at q2
      unfold lcLoop at q2
      by_cases hgd : gdB iv.gd vh2 = true
      · rw [if_pos hgd] at q2
        refine .inl ⟨(y1 C i g2 vh2 H2 h2 x2 hgd).1 ei, ?_⟩
        exact q2 g2 H2 (.ref D) h2 (RelS.mono x2 s1) (x1.trans x2) ⟨D, rfl, ⟨vals, e2, r2⟩, p2.nf, p2.np, p2.nfr⟩
      · rw [if_neg hgd] at q2; exact q2.elim
variable {elt iter : Expr} {ifs : List Expr} {scope : Scope} {ι : IF} {γ : GF} {ix : List Nat}
theorem de_lc (own : List (Str × Nat)) (cz : Cz W Wx k X) (hi : DI W Wx X tg iter ι) (ok : blkC X.N X.env.scope scope own = true)
    (hg : ∀ (s : Shared) (H : Hp) (C : Addr) (cl : List (Str × Addr)) (fp : List Addr), Cz W WF k (X.blk s H scope (compEnvC scope cl C X.env) fp) → DG W (X.blk s H scope (compEnvC scope cl C X.env) fp) tg γ ix)
    (ht : ∀ (s : Shared) (H : Hp) (C : Addr) (cl : List (Str × Addr)) (fp : List Addr), Cz W WF k (X.blk s H scope (compEnvC scope cl C X.env) fp) → DTs W WF (X.blk s H scope (compEnvC scope cl C X.env) fp) ifs τ)
    (he : ∀ (s : Shared) (H : Hp) (C : Addr) (cl : List (Str × Addr)) (fp : List Addr), Cz W WF k (X.blk s H scope (compEnvC scope cl C X.env) fp) → DE W WF (X.blk s H scope (compEnvC scope cl C X.env) fp) elt φ)
    (hix : ∀ i ∈ ix, i ∈ own.map (·.2) := by decide) (hs : ∀ x, foldedSetIterable iter X.env x = pure x := by intro _; rfl) :
    DE W Wx X (.ListComp elt [⟨tg, iter, ifs, 0⟩] scope pos) (eLc ι γ τ φ (own.map (·.2))) := fun C =>
  pe_imp (pe_lc cz.calm cz.nd (hi C) (blkOk_by ok) (fun s H C cl fp => hg s H C cl fp (cz.blk ..)) (fun s H C cl fp => ⟨fun pins s' σ H Q I ⟨C', q⟩ => ((ht s _ C cl fp (cz.blk ..)) C').run pins s' σ H Q I q⟩)
    (fun s H C cl fp => ⟨fun pins s' σ H Q I ⟨C', q⟩ => ((he s _ C cl fp (cz.blk ..)) C').run pins s' σ H Q I q⟩) hs) fun σ H Q ⟨g, sl, vh, h, hs, q⟩ => lc_imp hix h hs q
theorem TDE.lay {Q : VK} (t : TDE W C Wx (eLay φ) σ H Q) : TDE W C Wx φ σ H Q := by
  obtain ⟨g, sl, vh, h, hs, q⟩ := t
  refine ⟨g, sl, vh, h, hs, ?_⟩
  unfold eLay at q
  cases r : φ sl vh with
  | bad => rw [r] at q; exact q
  | exc x vh' => rw [r] at q; exact q
  | ok e vh' =>
    rw [r] at q
    cases e with
    | v d => exact q.elim
    | f o =>
      intro g1 H1 v1 h1 s1 x1 r1
      obtain ⟨g2, h2, x2, r2⟩ := r1.lay h1
      exact q g2 H1 v1 h2 (s1.mono x2) (x1.trans x2) r2
theorem TDS.set {i : Nat} {En : Ends} (t : TDS W C Wx (sSet i φ) En σ H) : TDE W C Wx φ σ H (fun v H' => En.nx (σ.set i (some v)) H') := by
  obtain ⟨g, sl, vh, h, hs, q⟩ := t
  refine ⟨g, sl, vh, h, hs, ?_⟩
  unfold sSet at q
  cases r : φ sl vh with
  | bad => rw [r] at q; exact q
  | ok e vh' =>
    rw [r] at q
    intro g1 H1 v1 h1 s1 x1 r1
    obtain ⟨g2, h2, x2, r2⟩ := r1.freeze h1
    exact q g2 H1 _ h2 ((s1.mono x2).set r2) (x1.trans x2)
  | exc x vh' => rw [r] at q; exact fun g1 H1 c od a b d e => q g1 H1 σ c od a b d e
/-- name = [..] on one line, a local -/
theorem ds_setLc {i : Nat} {y : Str} {py spos : Pos} (own : List (Str × Nat)) (cz : Cz W Wx k X) (hi : DI W Wx X tg iter ι) (ok : blkC X.N X.env.scope scope own = true)
    (hg : ∀ (s : Shared) (H : Hp) (C : Addr) (cl : List (Str × Addr)) (fp : List Addr), Cz W WF k (X.blk s H scope (compEnvC scope cl C X.env) fp) → DG W (X.blk s H scope (compEnvC scope cl C X.env) fp) tg γ ix)
    (ht : ∀ (s : Shared) (H : Hp) (C : Addr) (cl : List (Str × Addr)) (fp : List Addr), Cz W WF k (X.blk s H scope (compEnvC scope cl C X.env) fp) → DTs W WF (X.blk s H scope (compEnvC scope cl C X.env) fp) ifs τ)
    (he : ∀ (s : Shared) (H : Hp) (C : Addr) (cl : List (Str × Addr)) (fp : List Addr), Cz W WF k (X.blk s H scope (compEnvC scope cl C X.env) fp) → DE W WF (X.blk s H scope (compEnvC scope cl C X.env) fp) elt φ)
    (hy : X.N[i]? = some y := by rfl) (hyl : X.env.scope.names.lookup y = some .local := by rfl)
    (hsw : swapsWith (.ListComp elt [⟨tg, iter, ifs, 0⟩] scope pos) (some (.Name y py)) spos.line X.env = pure true := by rfl)
    (hix : ∀ i ∈ ix, i ∈ own.map (·.2) := by decide) (hs : ∀ x, foldedSetIterable iter X.env x = pure x := by intro _; rfl) :
    DS W Wx X (.Assign [.Name y py] (.ListComp elt [⟨tg, iter, ifs, 0⟩] scope pos) spos) (sSet i (eLc ι γ τ φ (own.map (·.2)))) := fun C =>
  ps_imp (ps_setLc (tt := fun σ H Q => ∃ C, TDT W C WF τ σ H Q) (te := fun σ H Q => ∃ C, TDE W C WF φ σ H Q) cz.calm cz.nd hy hyl hsw (hi C) (blkOk_by ok) (fun s H C cl fp => hg s H C cl fp (cz.blk ..)) (fun s H C cl fp => ⟨fun pins s' σ H Q I ⟨C', q⟩ => ((ht s _ C cl fp (cz.blk ..)) C').run pins s' σ H Q I q⟩)
    (fun s H C cl fp => ⟨fun pins s' σ H Q I ⟨C', q⟩ => ((he s _ C cl fp (cz.blk ..)) C').run pins s' σ H Q I q⟩) hs) fun En σ H t => by
    obtain ⟨g, sl, vh, h, hs, q⟩ := TDS.set t
    exact lc_imp hix h hs q
theorem ds_setLcH {i : Nat} {y : Str} {py spos : Pos} (own : List (Str × Nat)) (cz : Cz W Wx k X) (hi : DI W Wx X tg iter ι) (ok : blkC X.N X.env.scope scope own = true)
    (hg : ∀ (s : Shared) (H : Hp) (C : Addr) (cl : List (Str × Addr)) (fp : List Addr), Cz W WF k (X.blk s H scope (compEnvC scope cl C X.env) fp) → DG W (X.blk s H scope (compEnvC scope cl C X.env) fp) tg γ ix)
    (ht : ∀ (s : Shared) (H : Hp) (C : Addr) (cl : List (Str × Addr)) (fp : List Addr), Cz W WF k (X.blk s H scope (compEnvC scope cl C X.env) fp) → DTs W WF (X.blk s H scope (compEnvC scope cl C X.env) fp) ifs τ)
    (he : ∀ (s : Shared) (H : Hp) (C : Addr) (cl : List (Str × Addr)) (fp : List Addr), Cz W WF k (X.blk s H scope (compEnvC scope cl C X.env) fp) → DE W WF (X.blk s H scope (compEnvC scope cl C X.env) fp) elt φ)
    (hy : X.N[i]? = some y := by rfl) (hyl : X.env.scope.names.lookup y = some .local := by rfl)
    (hsw : swapsWith (.ListComp elt [⟨tg, iter, ifs, 0⟩] scope pos) (some (.Name y py)) spos.line X.env = pure true := by rfl)
    (hix : ∀ i ∈ ix, i ∈ own.map (·.2) := by decide) (hs : ∀ x, foldedSetIterable iter X.env x = pure x := by intro _; rfl) :
    DS W Wx X (.Assign [.Name y py] (.ListComp elt [⟨tg, iter, ifs, 0⟩] scope pos) spos) (sSet i (eLay (eLc ι γ τ φ (own.map (·.2))))) := fun C =>
  ps_imp (ps_setLc (tt := fun σ H Q => ∃ C, TDT W C WF τ σ H Q) (te := fun σ H Q => ∃ C, TDE W C WF φ σ H Q) cz.calm cz.nd hy hyl hsw (hi C) (blkOk_by ok) (fun s H C cl fp => hg s H C cl fp (cz.blk ..)) (fun s H C cl fp => ⟨fun pins s' σ H Q I ⟨C', q⟩ => ((ht s _ C cl fp (cz.blk ..)) C').run pins s' σ H Q I q⟩)
    (fun s H C cl fp => ⟨fun pins s' σ H Q I ⟨C', q⟩ => ((he s _ C cl fp (cz.blk ..)) C').run pins s' σ H Q I q⟩) hs) fun En σ H t => by
    obtain ⟨g, sl, vh, h, hs, q⟩ := (TDS.set t).lay
    exact lc_imp hix h hs q
end
end
end PM

/-! PM11: built-ins by name, methods of lists, repr, keyword calls. -/
namespace PM
open PySem L2
noncomputable section

section
variable {W : Wd} {C : Con} {Wx : WX} {X : Cx} {k : Nat} {g g0 : Gh} {H H0 : Hp} {σ : L2.St} {sl : Sl} {vh : VH} {φ ψ χ : EF} {α : AF} {pos : Pos} {e a b : Expr} {x : Str} {p0 : Pos} {id : String} {r : List V → Hp → VK → Prop}
theorem de_b1 {p : D → Option EV} (hc : CallR X (.builtin id) r) (hp : Prim1 W X (fun x H Q => r [x] H Q) p) (hg : Gl X x) (hm : X.mg x = none) (ha : DE W Wx X a φ) (hv : bootBuiltins x = some (.builtin id) := by rfl) (hn : x ≠ "__name__" := by decide) (hdb : (x == ("__debug__" : Str)) = false := by decide)
    (he : starEach (a :: []) X.env = (false, eval a X.env) :: starEach [] X.env := by rfl) (hpl : (backTo pos (starEach [] X.env)).any (·.1) = false := by rfl) : DE W Wx X (.Call (.Name x p0) [a] [] pos) (e1 p φ) :=
  de_1 ha hp fun ta h => pe_imp (pe_callB hc hg hm hv (pa_cons h pa_nil he) hn hdb he hpl) fun σ H Q q => q
theorem de_t1 {p : D → Option EV} (hc : CallR X (.type id) r) (hp : Prim1 W X (fun x H Q => r [x] H Q) p) (hg : Gl X x) (hm : X.mg x = none) (ha : DE W Wx X a φ) (hv : bootBuiltins x = some (.type id) := by rfl) (hn : x ≠ "__name__" := by decide) (hdb : (x == ("__debug__" : Str)) = false := by decide)
    (he : starEach (a :: []) X.env = (false, eval a X.env) :: starEach [] X.env := by rfl) (hpl : (backTo pos (starEach [] X.env)).any (·.1) = false := by rfl) : DE W Wx X (.Call (.Name x p0) [a] [] pos) (e1 p φ) :=
  de_1 ha hp fun ta h => pe_imp (pe_callTy hc hg hm hv (pa_cons h pa_nil he) hn hdb he hpl) fun σ H Q q => q
theorem de_b2 {p : D → D → Option EV} (hc : CallR X (.builtin id) r) (hp : Prim2 W X (fun x y H Q => r [x, y] H Q) p) (hg : Gl X x) (hm : X.mg x = none) (ha : DE W Wx X a φ) (hb : DE W Wx X b ψ) (hv : bootBuiltins x = some (.builtin id) := by rfl) (hn : x ≠ "__name__" := by decide) (hdb : (x == ("__debug__" : Str)) = false := by decide)
    (he : starEach (a :: [b]) X.env = (false, eval a X.env) :: starEach [b] X.env := by rfl) (he2 : starEach (b :: []) X.env = (false, eval b X.env) :: starEach [] X.env := by rfl) (hpl : (backTo pos (starEach [b] X.env)).any (·.1) = false := by rfl) : DE W Wx X (.Call (.Name x p0) [a, b] [] pos) (e2 p φ ψ) :=
  de_2 ha hb hp fun ta tb h h' => pe_imp (pe_callB hc hg hm hv (pa_cons h (pa_cons h' pa_nil he2) he) hn hdb he hpl) fun σ H Q q => q
end

/-! ### numbers -/
def bAbs : D → Option EV
  | .int i => vI (if i < 0 then -i else i)
  | _ => none
def bInt : D → Option EV
  | .int i => vI i
  | .bl b => vI (if b then 1 else 0)
  | _ => none
def bMax : D → D → Option EV
  | .int i, .int j => vI (if j > i then j else i)
  | _, _ => none
def bMin : D → D → Option EV
  | .int i, .int j => vI (if j < i then j else i)
  | _, _ => none
def bLen : D → Option EV
  | .str x => if x.length ≤ lim then vI x.length else none
  | .lst xs => vI xs.length
  | .tup xs => vI xs.length
  | .scr xs => vI xs.length
  | .dct kvs => vI kvs.length
  | _ => none
section
variable {W : Wd} {C : Con} {Wx : WX} {X : Cx} {k : Nat} {g g0 : Gh} {H H0 : Hp} {σ : L2.St} {sl : Sl} {vh : VH} {φ ψ χ : EF} {α : AF} {pos : Pos} {e a b : Expr} {x : Str} {p0 : Pos} {id : String} {r : List V → Hp → VK → Prop}
theorem p_abs : Prim1 W X (fun x H Q => ∃ i, [x] = [V.int i] ∧ Q (.int (if i < 0 then -i else i)) H) bAbs := by
  intro C g H vh dx x Q h rx q s
  cases dx <;> try (simp [bAbs] at s; done)
  rw [rx.int]
  exact ⟨_, rfl, q _ rfl g H _ h (Ext.refl g H) (by simp only [RepE, Rep])⟩
theorem p_int : Prim1 W X (fun x H Q => (∃ i, [x] = [V.int i] ∧ Q (.int i) H) ∨ ∃ k, [x] = [V.bl k] ∧ Q (.int (if k then 1 else 0)) H) bInt := by
  intro C g H vh dx x Q h rx q s
  cases dx <;> try (simp [bInt] at s; done)
  · rw [rx.bl]
    exact .inr ⟨_, rfl, q _ rfl g H _ h (Ext.refl g H) (by simp only [RepE, Rep])⟩
  · rw [rx.int]
    exact .inl ⟨_, rfl, q _ rfl g H _ h (Ext.refl g H) (by simp only [RepE, Rep])⟩
theorem p_max : Prim2 W X (fun x y H Q => ∃ i j, [x, y] = [V.int i, V.int j] ∧ Q (.int (if j > i then j else i)) H) bMax := by
  intro C g H vh dx dy x y Q h rx ry q s
  cases dx <;> cases dy <;> try (simp [bMax] at s; done)
  rw [rx.int, ry.int]
  exact ⟨_, _, rfl, q _ rfl g H _ h (Ext.refl g H) (by simp only [RepE, Rep])⟩
theorem p_min : Prim2 W X (fun x y H Q => ∃ i j, [x, y] = [V.int i, V.int j] ∧ Q (.int (if j < i then j else i)) H) bMin := by
  intro C g H vh dx dy x y Q h rx ry q s
  cases dx <;> cases dy <;> try (simp [bMin] at s; done)
  rw [rx.int, ry.int]
  exact ⟨_, _, rfl, q _ rfl g H _ h (Ext.refl g H) (by simp only [RepE, Rep])⟩
theorem de_abs (hg : Gl X "abs") (hm : X.mg "abs" = none) (ha : DE W Wx X a φ) (he : starEach (a :: []) X.env = (false, eval a X.env) :: starEach [] X.env := by rfl) : DE W Wx X (.Call (.Name "abs" p0) [a] [] pos) (e1 bAbs φ) := de_b1 call_abs p_abs hg hm ha (he := he)
theorem de_intB (hg : Gl X "int") (hm : X.mg "int" = none) (ha : DE W Wx X a φ) (he : starEach (a :: []) X.env = (false, eval a X.env) :: starEach [] X.env := by rfl) : DE W Wx X (.Call (.Name "int" p0) [a] [] pos) (e1 bInt φ) := de_t1 call_int1 p_int hg hm ha (he := he)
theorem de_max (hc : X.calm = true) (hg : Gl X "max") (hm : X.mg "max" = none) (ha : DE W Wx X a φ) (hb : DE W Wx X b ψ) (he : starEach (a :: [b]) X.env = (false, eval a X.env) :: starEach [b] X.env := by rfl) (he2 : starEach (b :: []) X.env = (false, eval b X.env) :: starEach [] X.env := by rfl) (hpl : (backTo pos (starEach [b] X.env)).any (·.1) = false := by rfl) :
    DE W Wx X (.Call (.Name "max" p0) [a, b] [] pos) (e2 bMax φ ψ) := de_b2 (call_max2 hc) p_max hg hm ha hb (he := he) (he2 := he2) (hpl := hpl)
theorem de_min (hc : X.calm = true) (hg : Gl X "min") (hm : X.mg "min" = none) (ha : DE W Wx X a φ) (hb : DE W Wx X b ψ) (he : starEach (a :: [b]) X.env = (false, eval a X.env) :: starEach [b] X.env := by rfl) (he2 : starEach (b :: []) X.env = (false, eval b X.env) :: starEach [] X.env := by rfl) (hpl : (backTo pos (starEach [b] X.env)).any (·.1) = false := by rfl) :
    DE W Wx X (.Call (.Name "min" p0) [a, b] [] pos) (e2 bMin φ ψ) := de_b2 (call_min2 hc) p_min hg hm ha hb (he := he) (he2 := he2) (hpl := hpl)
theorem call_lenDR : CallR X (.builtin "len") (fun xs H Q => ∃ a kvs, xs = [V.ref a] ∧ Rd H a (.dK kvs) ∧ Q (.int kvs.length) H) := by
  intro pins s σ H xs us Q I r h
  obtain ⟨a, kvs, rfl, hk, q⟩ := h
  obtain ⟨u, rfl, rr⟩ := vals1 r
  cases rr
  exact d_len I hk fun t s' I' => ⟨.int kvs.length, H, I', ⟨t, rfl⟩, q⟩
theorem p_len (hK : X.K = W.K) : Prim1 W X (fun x H Q => (∃ y n, [x] = [y] ∧ LenV X.K y H n ∧ Q (.int n) H) ∨ ∃ a kvs, [x] = [V.ref a] ∧ Rd H a (.dK kvs) ∧ Q (.int kvs.length) H) bLen := by
  intro C g H vh dx x Q h rx q s
  cases dx <;> try (simp [bLen] at s; done)
  · rw [rx.str]
    have hc := isSome_ite s
    exact .inl ⟨_, _, rfl, ⟨by rw [← lim_eq]; exact hc, rfl⟩, q _ (if_pos hc) g H _ h (Ext.refl g H) (by simp only [RepE, Rep])⟩
  · obtain ⟨a, vs, rfl, h1, r1⟩ := rx.tup
    exact .inl ⟨_, vs.length, rfl, .inr ⟨vs, by rw [hK]; exact h1, rfl⟩, q _ rfl g H _ h (Ext.refl g H) (by simp only [RepE, Rep, r1.length])⟩
  · obtain ⟨a, vs, rfl, h1, r1⟩ := rx.lst
    exact .inl ⟨_, vs.length, rfl, .inl ⟨vs, SqL.of h1, rfl⟩, q _ rfl g H _ h (Ext.refl g H) (by simp only [RepE, Rep, r1.length])⟩
  · obtain ⟨a, ws, rfl, h1, r1⟩ := rx.dct
    exact .inr ⟨a, ws, rfl, h1, q _ rfl g H _ h (Ext.refl g H) (by simp only [RepE, Rep, r1.length])⟩
  · rename_i ns
    obtain ⟨a, rfl, h1⟩ := rx.scr
    exact .inl ⟨_, _, rfl, .inl ⟨_, by rw [hK]; exact h1, rfl⟩, q _ rfl g H _ h (Ext.refl g H) (by simp only [RepE, Rep, List.length_map])⟩
theorem de_len (hK : X.K = W.K) (hg : Gl X "len") (hm : X.mg "len" = none) (ha : DE W Wx X a φ) (he : starEach (a :: []) X.env = (false, eval a X.env) :: starEach [] X.env := by rfl) : DE W Wx X (.Call (.Name "len" p0) [a] [] pos) (e1 bLen φ) :=
  de_b1 (call_len.or call_lenDR) (p_len hK) hg hm ha (he := he)

/-! ### tuple(..), list(..), {} -/
def bTup : D → Option EV
  | .tup xs => some (.v (.tup xs))
  | .lst xs => some (.v (.tup xs))
  | .scr ns => some (.v (.tup (ns.map D.int)))
  | _ => none
def bLst : D → Option EV
  | .tup xs => some (.f (.lst xs))
  | .lst xs => some (.f (.lst xs))
  | .scr ns => some (.f (.lst (ns.map D.int)))
  | _ => none
theorem RepW.nref {d : D} {v : V} (r : RepW W g H d v) (h : ∀ o, d ≠ O.toD o) : Rep W g H d v := by
  rcases r with r | ⟨o, a, e, _⟩
  · exact r
  · exact absurd e (h o)
theorem reps_ints : ∀ ns : List Int, Reps W g H (ns.map D.int) (ns.map V.int)
  | [] => by simp [Reps]
  | n :: ns => Reps.cons (by simp only [Rep]) (reps_ints ns)
theorem p_tupc (hK : X.K = W.K) : Prim1 W X (fun x H Q => ∃ p ys, [x] = [V.ref p] ∧ ((SqL X.K H p ys ∧ ∀ l, H l = none → Q (.ref l) (upd H l (.tup ys))) ∨ (SqT X.K H p ys ∧ Q (.ref p) H))) bTup := by
  intro C g H vh dx x Q h rx q s
  cases dx <;> try (simp [bTup] at s; done)
  · obtain ⟨a, vs, e, h1, r1⟩ := rx.tup
    subst e
    exact ⟨_, vs, rfl, .inr ⟨by rw [hK]; exact h1, q _ rfl g H _ h (Ext.refl g H) (rx.nref fun o => by cases o <;> exact fun z => by cases z)⟩⟩
  · obtain ⟨a, vs, rfl, h1, r1⟩ := rx.lst
    refine ⟨_, vs, rfl, .inl ⟨SqL.of h1, fun p np => ?_⟩⟩
    obtain ⟨a1, b1, c1⟩ := new_tup h np r1
    exact q _ rfl _ _ _ a1 b1 c1
  · obtain ⟨a, rfl, h1⟩ := rx.scr
    refine ⟨_, _, rfl, .inl ⟨by rw [hK]; exact h1, fun p np => ?_⟩⟩
    obtain ⟨a1, b1, c1⟩ := new_tup h np (reps_ints _)
    exact q _ rfl _ _ _ a1 b1 c1
theorem p_lstc (hK : X.K = W.K) : Prim1 W X (fun x H Q => ∃ p ys, [x] = [V.ref p] ∧ (SqL X.K H p ys ∨ SqT X.K H p ys) ∧ ∀ l, H l = none → Q (.ref l) (upd H l (.lst ys))) bLst := by
  intro C g H vh dx x Q h rx q s
  cases dx <;> try (simp [bLst] at s; done)
  · obtain ⟨a, vs, rfl, h1, r1⟩ := rx.tup
    exact ⟨_, vs, rfl, .inr (by rw [hK]; exact h1), fun p np => q _ rfl _ _ _ (h.new np) (Ext.new h np) (new_lst h np r1)⟩
  · obtain ⟨a, vs, rfl, h1, r1⟩ := rx.lst
    exact ⟨_, vs, rfl, .inl (SqL.of h1), fun p np => q _ rfl _ _ _ (h.new np) (Ext.new h np) (new_lst h np r1)⟩
  · obtain ⟨a, rfl, h1⟩ := rx.scr
    exact ⟨_, _, rfl, .inl (by rw [hK]; exact h1), fun p np => q _ rfl _ _ _ (h.new np) (Ext.new h np) (new_lst h np (reps_ints _))⟩
theorem de_tupc (hK : X.K = W.K) (hg : Gl X "tuple") (hm : X.mg "tuple" = none) (ha : DE W Wx X a φ) (he : starEach (a :: []) X.env = (false, eval a X.env) :: starEach [] X.env := by rfl) : DE W Wx X (.Call (.Name "tuple" p0) [a] [] pos) (e1 bTup φ) :=
  de_t1 call_tuple_of (p_tupc hK) hg hm ha (he := he)
theorem de_lstc (hK : X.K = W.K) (hg : Gl X "list") (hm : X.mg "list" = none) (ha : DE W Wx X a φ) (he : starEach (a :: []) X.env = (false, eval a X.env) :: starEach [] X.env := by rfl) : DE W Wx X (.Call (.Name "list" p0) [a] [] pos) (e1 bLst φ) :=
  de_t1 call_list_of (p_lstc hK) hg hm ha (he := he)
def eD0 : EF := fun _ vh => .ok (.f (.dct [])) vh
theorem de_dict0 : DE W Wx X (.Dict [] [] pos) eD0 := fun C => pe_imp pe_dnewK fun σ H Q ⟨g, sl, vh, h, hs, q⟩ p np => by
  have x := Ext.new (u := .dK []) h np
  exact q g _ _ (h.new np) (hs.mono x) x (new_obj h np ⟨[], upd_same, by simp [RepKV]⟩)
/-- dict(pairs) -/
def kvOf : List D → Option (List (D × D))
  | [] => some []
  | .tup [k, d] :: r => match keyD k, kvOf r with
    | some _, some l => some ((k, d) :: l)
    | _, _ => none
  | _ => none
def dmerge (kvs more : List (D × D)) : List (D × D) := more.foldl (fun acc p => dput acc p.1 p.2) kvs
def bDct : D → Option EV
  | .lst xs => (kvOf xs).map fun l => .f (.dct (dmerge [] l))
  | _ => none
theorem RepKV.merge : ∀ {more : List (D × D)} {rs : List (Key × V)} {kvs : List (D × D)} {ws : List (Key × V)}, RepKV W g H more rs → RepKV W g H kvs ws → RepKV W g H (dmerge kvs more) (mergeK ws rs)
  | [], rs, kvs, ws, r, q => by simp only [RepKV] at r; subst r; exact q
  | (k, d) :: more, rs, kvs, ws, r, q => by
    simp only [RepKV] at r
    obtain ⟨k', v, s, rfl, e, h1, h2⟩ := r
    show RepKV W g H (dmerge (dput kvs k d) more) (mergeK (putK ws k' v) s)
    exact RepKV.merge h2 (q.put e h1)
theorem kvOf_rep (hK : X.K = W.K) : ∀ {xs : List D} {vs : List V} {l : List (D × D)}, Reps W g H xs vs → kvOf xs = some l →
    ∃ (ps : List Addr) (kvs : List (Key × V)), vs = ps.map V.ref ∧ Paired (fun p kv => SqT X.K H p [kV kv.1, kv.2]) ps kvs ∧ RepKV W g H l kvs
  | [], vs, l, r, e => by
    simp only [Reps] at r
    cases e
    exact ⟨[], [], by rw [r]; rfl, .nil, by simp [RepKV]⟩
  | x :: xs, vs, l, r, e => by
    simp only [Reps] at r
    obtain ⟨v, vr, rfl, h1, h2⟩ := r
    cases x with
    | tup ys =>
      rcases ys with _ | ⟨k, _ | ⟨d, _ | ⟨z, ys⟩⟩⟩ <;> try (cases e; done)
      simp only [kvOf] at e
      cases ek : keyD k with
      | none => rw [ek] at e; cases e
      | some y =>
        cases el : kvOf xs with
        | none => rw [ek, el] at e; cases e
        | some l' =>
          rw [ek, el] at e
          cases e
          obtain ⟨ps, kvs, rfl, p2, r2⟩ := kvOf_rep hK h2 el
          simp only [Rep] at h1
          obtain ⟨a, ws, rfl, t, rr⟩ := h1
          simp only [Reps] at rr
          obtain ⟨vk, _, rfl, rk, vd, _, rfl, rd, rfl⟩ := rr
          have evk : vk = kV y := keyD_kV (.inl rk) ek
          subst evk
          refine ⟨a :: ps, (y, vd) :: kvs, rfl, .cons (by rw [hK]; exact t.sq) p2, ?_⟩
          simp only [RepKV]
          exact ⟨y, vd, kvs, rfl, ek, rd, r2⟩
    | _ => cases e
theorem p_dct (hK : X.K = W.K) : Prim1 W X (fun x H Q => ∃ (a : Addr) (ps : List Addr) (kvs : List (Key × V)), [x] = [V.ref a] ∧ SqL X.K H a (ps.map V.ref) ∧ Paired (fun p kv => SqT X.K H p [kV kv.1, kv.2]) ps kvs ∧
    ∀ p, H p = none → Q (.ref p) (upd H p (.dK (mergeK [] kvs)))) bDct := by
  intro C g H vh dx x Q h rx q s
  cases dx <;> try (simp [bDct] at s; done)
  obtain ⟨a, vs, rfl, h1, r1⟩ := rx.lst
  simp only [bDct] at s q
  obtain ⟨l, e⟩ := opt_map_some s
  obtain ⟨ps, kvs, rfl, pr, rk⟩ := kvOf_rep hK r1 e
  refine ⟨a, ps, kvs, rfl, SqL.of h1, pr, fun p np => ?_⟩
  have rm : RepKV W g H (dmerge [] l) (mergeK [] kvs) := rk.merge (by simp [RepKV])
  exact q (.f (.dct (dmerge [] l))) (by rw [e]; rfl) _ _ _ (h.new np) (Ext.new h np) (new_obj h np ⟨_, upd_same, RepKV.mono (Ext.new h np) _ _ rm⟩)
theorem de_dct (hK : X.K = W.K) (hc : X.calm = true) (hg : Gl X "dict") (hm : X.mg "dict" = none) (ha : DE W Wx X a φ) (he : starEach (a :: []) X.env = (false, eval a X.env) :: starEach [] X.env := by rfl) : DE W Wx X (.Call (.Name "dict" p0) [a] [] pos) (e1 bDct φ) :=
  de_t1 (call_dictP hc) (p_dct hK) hg hm ha (he := he)

/-! ### repr -/
def kvPy : List (D × D) → Option (List (PyData × PyData))
  | [] => some []
  | (k, d) :: r => match keyD k, toPy k, scV d, toPy d, kvPy r with
    | some _, some a, some _, some b, some l => some ((a, b) :: l)
    | _, _, _, _, _ => none
def pyR : D → Option PyData
  | .dct kvs => (kvPy kvs).map .dict
  | d => toPy d
def bRepr (d : D) : Option EV := (pyR d).bind fun p => if (p.showable && decide (p.depth ≤ 64) && decide (p.shown.length ≤ lim)) = true then vS p.shown else none

def keyPy : Key → PyData
  | .inl i => .int i
  | .inr x => .str x
def atomPy : V → Option PyData
  | .non => some .none
  | .bl b => some (.bool b)
  | .int i => some (.int i)
  | .str x => some (.str x)
  | _ => none
def FlatKV : List (Key × V) → List (PyData × PyData) → Prop := Paired fun kv p => p.1 = keyPy kv.1 ∧ atomPy kv.2 = some p.2
theorem atom_reads {h : Heap} {v : V} {u : Value} {p : PyData} (r : RelV v u) (e : atomPy v = some p) : Reads h u p [] := by
  cases v with
  | non => cases e; cases r; exact .none
  | bl b => cases e; cases r; exact .bool b
  | int i => cases e; obtain ⟨t, rfl⟩ := r; exact .int i t
  | str x => cases e; obtain ⟨t, rfl⟩ := r; exact .str x t
  | _ => cases e
theorem key_reads {h : Heap} {k : Key} {u : Value} (r : keyIs k u = true) : Reads h u (keyPy k) [] := by
  rcases keyIs_shape r with ⟨i, t, e1, e2⟩ | ⟨x, t, e1, e2⟩ <;> subst e1 <;> subst e2
  · exact .int i t
  · exact .str x t
theorem flat_reads {P : Program} {w : World} {h : Heap} : ∀ {ws : List (Key × V)} {vs : List (Key × Value)} {es : List DictEntry} {kvs : List (PyData × PyData)}, KV ws vs → Pairs (mixKind P w) es vs → FlatKV ws kvs →
    ReadsAll h (es.map (·.key)) (kvs.map (·.1)) [] ∧ ReadsAll h (es.map (·.val)) (kvs.map (·.2)) []
  | _, _, _, _, .nil, p, f => by cases p; cases f; exact ⟨.nil, .nil⟩
  | _, _, _, _, .cons h1 h2, p, f => by
    cases p with
    | cons p1 p2 p3 =>
      cases f with
      | cons f1 f2 =>
        obtain ⟨r1, r2⟩ := flat_reads (h := h) h2 p3 f2
        rename_i a b l1 l2 e es' b2 l3
        obtain ⟨x1, x2⟩ := h1
        obtain ⟨y1, y2⟩ := f1
        refine ⟨?_, ?_⟩
        · rw [List.map_cons, List.map_cons, y1, x1]
          exact ReadsAll.cons (as := []) (bs := []) (key_reads p1) r1
        · rw [List.map_cons, List.map_cons, p2]
          exact ReadsAll.cons (as := []) (bs := []) (atom_reads x2 y2) r2
def ReadV (K : PySem.W.Frag) (H : Hp) (x : V) (p : PyData) : Prop := (Dp K H x p ∧ p.hasDict = false) ∨ ∃ a ws kvs, x = .ref a ∧ Rd H a (.dK ws) ∧ FlatKV ws kvs ∧ p = .dict kvs
def ReprOk (p : PyData) : Prop := p.showable = true ∧ p.depth ≤ 64 ∧ p.shown.length ≤ sizeLine
theorem call_reprX (hu : X.A.units + 66 < cLine) (hg : X.A.guards = some []) : CallR X (.builtin "repr") (fun xs H Q => ∃ x p, xs = [x] ∧ ReadV X.K H x p ∧ ReprOk p ∧ Q (.str p.shown) H) := by
  intro pins s σ H xs us Q I r h
  obtain ⟨x, p, rfl, rd, ⟨o1, o2, o3⟩, q⟩ := h
  obtain ⟨u, rfl, rr⟩ := vals1 r
  have fin : ∀ h' u tk, (∀ b o, s.heap.get? b = some o → h'.get? b = some o) → EP X pins σ Q (.str p.shown u) { s with heap := h', toks := tk } := fun h' u tk hk => ⟨.str p.shown, H, I.kept fun b o e => hk b o e, ⟨u, rfl⟩, q⟩
  rcases rd with ⟨dp, nd⟩ | ⟨a, ws, kvs, rfl, rk, fl, rfl⟩
  · obtain ⟨as, rs⟩ := Dp.reads I p x u dp rr
    cases p with
    | none => cases dp; cases rr; exact PySem.P.repr_of_none ⟨.str _, H, I.tok _, ⟨_, rfl⟩, q⟩
    | bool b =>
      cases dp; cases rr
      refine PySem.P.repr_of_bool ⟨.str _, H, I.tok _, ⟨_, rfl⟩, ?_⟩
      cases b <;> exact q
    | int i =>
      cases dp
      obtain ⟨t, rfl⟩ := rr
      simp only [PyData.showable, decide_eq_true_eq] at o1
      exact PySem.P.repr_of_int o1 ⟨.str _, H, I.tok _, ⟨_, rfl⟩, q⟩
    | str z =>
      cases dp
      obtain ⟨t, rfl⟩ := rr
      exact PySem.P.repr_of_str ⟨.str _, H, I.tok _, ⟨_, rfl⟩, q⟩ o3
    | list ds =>
      cases dp
      cases rr
      exact repr_of_reads' rs o1 (PyData.noDict_hsm nd) hg (by omega) (fun _ _ e => e) fin o3
    | tuple ds =>
      cases dp
      cases rr
      exact repr_of_reads' rs o1 (PyData.noDict_hsm nd) hg (by omega) (fun _ _ e => e) fin o3
    | dict kvs => cases dp
  · cases rr
    obtain ⟨hz, hm, vs, kv, o, es, ep, ho, ex, hd, _, pr, _⟩ : ObjOk X.prog X.w H s.heap a (.dK ws) := by
      rcases rk with hk | ⟨o, hk⟩
      · exact I.hok a _ hk
      · exact (I.hok a _ hk).2
    obtain ⟨r1, r2⟩ := flat_reads (h := s.heap) kv pr fl
    refine repr_of_reads' (Reads.dict ho ex.1 hd r1 r2) o1 (fun _ z => ?_) hg (by omega) (fun _ _ e => e) fin o3
    simp only [List.append_nil, List.mem_singleton] at z
    rw [← z] at hm
    simp at hm
mutual
theorem toPy_noDict : ∀ {d : D} {p : PyData}, toPy d = some p → p.hasDict = false
  | .non, p, e => by simp only [toPy, Option.some.injEq] at e; subst e; rfl
  | .bl _, p, e => by simp only [toPy, Option.some.injEq] at e; subst e; rfl
  | .int _, p, e => by simp only [toPy, Option.some.injEq] at e; subst e; rfl
  | .str _, p, e => by simp only [toPy, Option.some.injEq] at e; subst e; rfl
  | .lst xs, p, e => by
    simp only [toPy, Option.map_eq_some_iff] at e
    obtain ⟨ps, e1, rfl⟩ := e
    simp only [PyData.hasDict]
    exact toPys_noDict e1
  | .tup xs, p, e => by
    simp only [toPy, Option.map_eq_some_iff] at e
    obtain ⟨ps, e1, rfl⟩ := e
    simp only [PyData.hasDict]
    exact toPys_noDict e1
  | .dct _, p, e => by simp only [toPy] at e; cases e
  | .st _, p, e => by simp only [toPy] at e; cases e
  | .ins _ _, p, e => by simp only [toPy] at e; cases e
  | .ref _, p, e => by simp only [toPy] at e; cases e
  | .fn _, p, e => by simp only [toPy] at e; cases e
  | .cls _, p, e => by simp only [toPy] at e; cases e
  | .ty _, p, e => by simp only [toPy] at e; cases e
  | .scr _, p, e => by simp only [toPy] at e; cases e
theorem toPys_noDict : ∀ {ds : List D} {ps : List PyData}, toPys ds = some ps → PyData.hasDictAll ps = false
  | [], ps, e => by simp only [toPys, Option.some.injEq] at e; subst e; rfl
  | d :: ds, ps, e => by
    simp only [toPys] at e
    cases e1 : toPy d with
    | none => rw [e1] at e; cases e
    | some a =>
      cases e2 : toPys ds with
      | none => rw [e1, e2] at e; cases e
      | some b =>
        rw [e1, e2] at e
        cases e
        simp only [PyData.hasDictAll, toPy_noDict e1, toPys_noDict e2]
        rfl
end
theorem key_py {k : D} {y : Key} {p : PyData} (e : keyD k = some y) (h : toPy k = some p) : p = keyPy y := by
  cases k with
  | int i => simp only [keyD, Option.some.injEq] at e; subst e; simp only [toPy, Option.some.injEq] at h; subst h; rfl
  | str i => simp only [keyD, Option.some.injEq] at e; subst e; simp only [toPy, Option.some.injEq] at h; subst h; rfl
  | _ => cases e
theorem atom_py {d : D} {v v' : V} {p : PyData} (r : Rep W g H d v) (e : scV d = some v') (h : toPy d = some p) : atomPy v = some p := by
  cases d with
  | non => simp only [Rep] at r; simp only [toPy, Option.some.injEq] at h; subst r h; rfl
  | bl i => simp only [Rep] at r; simp only [toPy, Option.some.injEq] at h; subst r h; rfl
  | int i => simp only [Rep] at r; simp only [toPy, Option.some.injEq] at h; subst r h; rfl
  | str i => simp only [Rep] at r; simp only [toPy, Option.some.injEq] at h; subst r h; rfl
  | _ => cases e
theorem kvPy_flat : ∀ {kvs : List (D × D)} {ws : List (Key × V)} {ps : List (PyData × PyData)}, RepKV W g H kvs ws → kvPy kvs = some ps → FlatKV ws ps
  | [], ws, ps, r, e => by
    simp only [RepKV] at r
    simp only [kvPy, Option.some.injEq] at e
    subst r e
    exact .nil
  | (k, d) :: kvs, ws, ps, r, e => by
    simp only [RepKV] at r
    obtain ⟨k', v, s, rfl, e0, h1, h2⟩ := r
    simp only [kvPy] at e
    split at e
    · rename_i q1 q2 q3 q4 q5
      cases e
      exact .cons ⟨key_py e0 q2, atom_py h1 q3 q4⟩ (kvPy_flat h2 q5)
    · cases e
theorem p_repr (hK : X.K = W.K) : Prim1 W X (fun x H Q => ∃ y p, [x] = [y] ∧ ReadV X.K H y p ∧ ReprOk p ∧ Q (.str p.shown) H) bRepr := by
  intro C g H vh dx x Q h rx q s
  simp only [bRepr] at s q
  cases e : pyR dx with
  | none => rw [e] at s; cases s
  | some p =>
    rw [e] at s q
    simp only [Option.bind_some] at s q
    have hc := isSome_ite s
    have hc' := hc
    simp only [Bool.and_eq_true, decide_eq_true_eq] at hc'
    refine ⟨x, p, rfl, ?_, ⟨hc'.1.1, hc'.1.2, by rw [← lim_eq]; exact hc'.2⟩, q _ (if_pos hc) g H _ h (Ext.refl g H) (by simp only [RepE, Rep])⟩
    rw [hK]
    by_cases hd : ∃ kvs, dx = .dct kvs
    · obtain ⟨kvs, rfl⟩ := hd
      simp only [pyR] at e
      obtain ⟨ps, e1, rfl⟩ := Option.map_eq_some_iff.mp e
      obtain ⟨a, ws, rfl, h1, r1⟩ := rx.dct
      exact .inr ⟨a, ws, ps, rfl, h1, kvPy_flat r1 e1, rfl⟩
    · have e : toPy dx = some p := by cases dx <;> first | exact e | exact absurd ⟨_, rfl⟩ hd
      exact .inl ⟨rx.dp e, toPy_noDict e⟩
theorem hu66 {k : Nat} (r : Room k X.A) : X.A.units + 66 < cLine := by have := r.un; omega
theorem de_repr {k : Nat} (hK : X.K = W.K) (hr : Room k X.A) (hgd : X.A.guards = some []) (hg : Gl X "repr") (hm : X.mg "repr" = none) (ha : DE W Wx X a φ) (he : starEach (a :: []) X.env = (false, eval a X.env) :: starEach [] X.env := by rfl) : DE W Wx X (.Call (.Name "repr" p0) [a] [] pos) (e1 bRepr φ) :=
  de_b1 (call_reprX (hu66 hr) hgd) (p_repr hK) hg hm ha (he := he)
end
end
end PM

/-! PM12: methods of built-in types, slices with a step, keyword calls. -/
namespace PM
open PySem L2
noncomputable section

/-! ### methods -/
def tyD (T : String) : D → Bool
  | .lst _ => T == "list"
  | .scr _ => T == "list"
  | .str _ => T == "str"
  | .int _ => T == "int"
  | .st _ => T == "set"
  | _ => false
/-- dicts: those that no loop walks, so only those of the virtual heap -/
def tyVH (T : String) (vh : VH) (d : D) : Bool := tyD T (view vh d) || (match d with
  | .ref n => (match vh[n]? with | some (.dct _) => T == "dict" | _ => false)
  | _ => false)
abbrev MP := D → List D → VH → Option (EV × VH)
def PrimM (W : Wd) (X : Cx) (r : V → List V → Hp → VK → Prop) (p : MP) : Prop :=
  ∀ C g H vh d ds x xs (Q : VK), RelH W C g vh H → Rep W g H d x → Reps W g H ds xs → (∀ e vh', p d ds vh = some (e, vh') → ∀ g' H' v, RelH W C g' vh' H' → Ext g H g' H' → RepE W C g' H' e v → Q v H') → (p d ds vh).isSome → r x xs H Q
def liftM : Option (EV × VH) → R EV
  | some (e, vh) => .ok e vh
  | none => .bad
def eM (T : String) (p : MP) (φ : EF) (α : AF) : EF := eb φ fun d sl vh => if tyVH T vh d = true then ab α (fun ds _ vh => liftM (p d ds vh)) sl vh else .bad
section
variable {W : Wd} {C : Con} {Wx : WX} {X : Cx} {k : Nat} {g g0 : Gh} {H H0 : Hp} {σ : L2.St} {sl : Sl} {vh : VH} {φ ψ χ : EF} {α : AF} {e a b o : Expr} {es : List Expr} {x name : Str} {p0 apos cpos pos : Pos} {T id : String} {r : V → List V → Hp → VK → Prop} {p : MP}
theorem tyV_of (hK : X.K = W.K) {d : D} {v : V} (h : RelH W C g vh H) (r : Rep W g H d v) (t : tyVH T vh d = true) : tyV X.K T v H := by
  unfold tyVH at t
  rw [Bool.or_eq_true] at t
  rcases t with t | t
  · have rx := h.view r
    cases e : view vh d with
    | lst xs =>
      rw [e] at rx t
      obtain ⟨a, vs, rfl, h1, _⟩ := rx.lst
      exact .inl ⟨by simpa [tyD] using t, vs, SqL.of h1⟩
    | scr xs =>
      rw [e] at rx t
      obtain ⟨a, rfl, h1⟩ := rx.scr
      exact .inl ⟨by simpa [tyD] using t, _, by rw [hK]; exact h1⟩
    | str z => rw [e] at rx t; rw [rx.str]; show T = "str"; simpa [tyD] using t
    | int z => rw [e] at rx t; rw [rx.int]; show T = "int"; simpa [tyD] using t
    | st xs =>
      rw [e] at rx t
      rcases rx with rx | ⟨o, a, e2, rfl, ho⟩
      · simp only [Rep] at rx
        obtain ⟨a, S, n, rfl, _, h1, _⟩ := rx
        exact .inr (.inr (.inr ⟨by simpa [tyD] using t, S, n, h1⟩))
      · cases o <;> cases e2
        obtain ⟨S, n, h1, _⟩ := ho
        exact .inr (.inr (.inr ⟨by simpa [tyD] using t, S, n, h1⟩))
    | _ => rw [e] at t; cases t
  · cases d with
    | ref n =>
      dsimp only at t
      cases en : vh[n]? with
      | none => rw [en] at t; cases t
      | some o =>
        rw [en] at t
        cases o with
        | dct kvs =>
          simp only [Rep] at r
          obtain ⟨hn, rfl⟩ := r
          obtain ⟨ws, h1, _⟩ := h.vh n _ en
          exact .inr (.inr (.inl ⟨by simpa using t, .inl ⟨ws, h1⟩⟩))
        | _ => cases t
    | _ => cases t
theorem m_imp {ta : TA} (hK : X.K = W.K) (hp : PrimM W X r p) (h : RelH W C g vh H) (hs : RelS W g H sl σ) {Q : VK} (ht : ta = TDA W C Wx α) (q : PostE W C Wx g H σ sl (eM T p φ α sl vh) Q) :
    TDE W C Wx φ σ H fun x H1 => tyV X.K T x H1 ∧ ta σ H1 fun xs H2 => r x xs H2 Q := by
  subst ht
  refine (TDE.bind h hs (Ext.refl g H) q).mono fun v1 H1 ⟨g2, vh2, d1, i2, s2, x2, x2', p2, q2⟩ => ?_
  split at q2
  · rename_i ht
    refine ⟨tyV_of hK i2 p2 ht, ?_⟩
    refine (TDA.bind i2 s2 x2 q2).mono fun vs H3 ⟨g3, vh3, ds, i3, s3, x3, x3', p3, q3⟩ => ?_
    refine hp C g3 H3 vh3 d1 ds v1 vs Q i3 (Rep.mono x3' _ _ p2) p3 (fun e vh' he g' H' v h' x' r' => ?_) ?_
    · rw [he] at q3
      exact q3 g' H' v h' (s3.mono x') (x3.trans x') r'
    · cases e : p d1 ds vh3 with
      | none => rw [e] at q3; exact q3.elim
      | some _ => rfl
  · exact q2.elim
theorem de_bm (hK : X.K = W.K) (pa : PlainAttrs T) (slot : Slot T name id) (hty : typeOf (.builtin id) = pure (.type "method_descriptor")) (hm : MtR X id r) (hp : PrimM W X r p) (ho : DE W Wx X o φ) (ha : DA W Wx X (e :: es) α)
    (hbase : attributeBase o name X.env (eval o X.env) = eval o X.env := by rfl)
    (hfew : ((backTo cpos (starEach (e :: es) X.env)).all (fun x => !x.1) && (backToKw cpos (keywordEach [] X.env)).all (fun x => x.1.isSome)
      && decide ((e :: es).length + ([] : List Keyword).length + (if ([] : List Keyword).isEmpty then 0 else 1) < 30)) = true := by rfl)
    (hline : (apos.endLine == cpos.line) = true := by rfl) (hs : starEach (e :: es) X.env = (false, eval e X.env) :: starEach es X.env := by rfl) (hplain : (backTo cpos (starEach es X.env)).any (·.1) = false := by rfl) :
    DE W Wx X (.Call (.Attribute o name apos) (e :: es) [] cpos) (eM T p φ α) := fun C =>
  pe_imp (pe_bm pa slot hty hm (ho C) (ha C) hbase hfew hline hs hplain) fun σ H Q ⟨g, sl, vh, h, hs, q⟩ => m_imp hK hp h hs rfl q
theorem de_bm0 (hK : X.K = W.K) (pa : PlainAttrs T) (slot : Slot T name id) (hty : typeOf (.builtin id) = pure (.type "method_descriptor")) (hm : MtR X id r) (hp : PrimM W X r p) (ho : DE W Wx X o φ)
    (hbase : attributeBase o name X.env (eval o X.env) = eval o X.env := by rfl) (hline : (apos.endLine == cpos.line) = true := by rfl) :
    DE W Wx X (.Call (.Attribute o name apos) [] [] cpos) (eM T p φ aNil) := fun C =>
  pe_imp (pe_bm0 pa slot hty hm (ho C) hbase hline) fun σ H Q ⟨g, sl, vh, h, hs, q⟩ =>
    (m_imp (ta := TDA W C Wx aNil) hK hp h hs rfl q).mono fun x H1 ⟨t, g1, sl1, vh1, _, _, q1⟩ => ⟨t, by
      rename_i h1 h2
      exact q1 g1 H1 [] h1 h2 (Ext.refl g1 H1) Reps.nil⟩
/-- xs.index(y) -/
def mIndex : MP := fun d ds vh => match view vh d, ds with
  | .lst xs, [y] => match scV y, scVs xs with
    | some a, some bs => (bs.findIdx? fun z => eqV z a).map fun j => (.v (.int (j : Nat)), vh)
    | _, _ => none
  | _, _ => none
theorem scVs_flat' {xs : List D} {bs : List V} (e : scVs xs = some bs) : bs.all flatV = true := scVs_flat e
theorem pm_index (hK : X.K = W.K) : PrimM W X (rIndex X.K) mIndex := by
  intro C g H vh d ds x xs Q h rx rs q s
  have rv := h.view rx
  unfold mIndex at s q
  cases e : view vh d with
  | lst zs =>
    rw [e] at s q rv
    obtain ⟨a, vs, rfl, h1, r1⟩ := rv.lst
    rcases ds with _ | ⟨y, _ | ⟨y2, ds⟩⟩
    · cases s
    · simp only [Reps] at rs
      obtain ⟨v, _, rfl, ry, rfl⟩ := rs
      dsimp only at s q
      cases e1 : scV y with
      | none => rw [e1] at s; cases s
      | some b =>
        cases e2 : scVs zs with
        | none => rw [e1, e2] at s; cases s
        | some bs =>
          rw [e1, e2] at s q
          obtain ⟨j, ej⟩ := opt_map_some s
          have q' := q (.v (.int (j : Nat))) vh (by dsimp only; rw [ej]; rfl) g H (.int (j : Nat)) h (Ext.refl g H) (by simp only [RepE, Rep])
          have evs : vs = bs := r1.sc e2
          have evb : v = b := RepW.sc (.inl ry) e1
          subst evs evb
          obtain ⟨hj, h3, h4⟩ := List.findIdx?_eq_some_iff_getElem.mp ej
          refine ⟨a, vs, v, j, vs[j], rfl, rfl, SqL.of h1, scV_flat e1, scVs_flat e2, List.getElem?_eq_getElem hj, h3, fun m z' hm hz => ?_, q'⟩
          have := h4 m hm
          rw [List.getElem?_eq_getElem (Nat.lt_trans hm hj)] at hz
          cases hz
          simpa using this
    · cases s
  | _ => rw [e] at s; cases s
theorem de_index (hK : X.K = W.K) (ho : DE W Wx X o φ) (ha : DA W Wx X [a] α)
    (hbase : attributeBase o "index" X.env (eval o X.env) = eval o X.env := by rfl)
    (hfew : ((backTo cpos (starEach (a :: []) X.env)).all (fun x => !x.1) && (backToKw cpos (keywordEach [] X.env)).all (fun x => x.1.isSome)
      && decide ((a :: []).length + ([] : List Keyword).length + (if ([] : List Keyword).isEmpty then 0 else 1) < 30)) = true := by rfl)
    (hline : (apos.endLine == cpos.line) = true := by rfl) (hs : starEach (a :: []) X.env = (false, eval a X.env) :: starEach [] X.env := by rfl) : DE W Wx X (.Call (.Attribute o "index" apos) [a] [] cpos) (eM "list" mIndex φ α) :=
  de_bm hK PySem.F.plainAttrs_list PySem.F.slot_list_index PySem.F.type_list_index mt_index (pm_index hK) ho ha hbase hfew hline hs
/-- xs.append(y) -/
def mAppend : MP := fun d ds vh => match d, ds with
  | .ref n, [y] => (match vh[n]? with
    | some (.lst xs) => if xs.length < lim then some (.v .non, vh.set n (.lst (xs ++ [y]))) else none
    | _ => none)
  | _, _ => none
theorem pm_append : PrimM W X rAppend mAppend := by
  intro C g H vh d ds x xs Q h rx rs q s
  unfold mAppend at s q
  cases d with
  | ref n =>
    rcases ds with _ | ⟨y, _ | ⟨y2, ds⟩⟩
    · cases s
    · simp only [Reps] at rs
      obtain ⟨v, _, rfl, ry, rfl⟩ := rs
      simp only [Rep] at rx
      obtain ⟨hn, rfl⟩ := rx
      dsimp only at s q
      cases en : vh[n]? with
      | none => rw [en] at s; cases s
      | some o =>
        rw [en] at s q
        cases o with
        | lst zs =>
          have hc := isSome_ite s
          obtain ⟨vs, h1, r1⟩ := h.vh n _ en
          have xw := Ext.write (u := .lst (vs ++ [v])) h hn
          refine ⟨_, vs, v, rfl, rfl, h1, by rw [← r1.length, ← lim_eq]; exact hc, ?_⟩
          exact q _ _ (if_pos hc) g _ _ (h.write hn ⟨_, upd_same, Reps.mono xw _ _ (r1.append (Reps.one ry))⟩) xw (by simp only [RepE, Rep])
        | _ => cases s
    · cases s
  | _ => cases s
theorem de_append (hK : X.K = W.K) (ho : DE W Wx X o φ) (ha : DA W Wx X [a] α)
    (hbase : attributeBase o "append" X.env (eval o X.env) = eval o X.env := by rfl)
    (hfew : ((backTo cpos (starEach (a :: []) X.env)).all (fun x => !x.1) && (backToKw cpos (keywordEach [] X.env)).all (fun x => x.1.isSome)
      && decide ((a :: []).length + ([] : List Keyword).length + (if ([] : List Keyword).isEmpty then 0 else 1) < 30)) = true := by rfl)
    (hline : (apos.endLine == cpos.line) = true := by rfl) (hs : starEach (a :: []) X.env = (false, eval a X.env) :: starEach [] X.env := by rfl) : DE W Wx X (.Call (.Attribute o "append" apos) [a] [] cpos) (eM "list" mAppend φ α) :=
  de_bm hK PySem.F.plainAttrs_list PySem.F.slot_list_append PySem.F.type_list_append mt_append pm_append ho ha hbase hfew hline hs

/-! ### xs[lo:hi:st] of a list -/
def pickIx (lo hi st : Option Int) (n : Nat) : List Nat := sliceRange (sliceBounds lo hi st n).1 (sliceBounds lo hi st n).2.1 (sliceBounds lo hi st n).2.2
def pick {α : Type} (xs : List α) (lo hi st : Option Int) : List α := (pickIx lo hi st xs.length).filterMap (xs[·]?)
def pPick (d : D) (lo hi st : Option Int) : Option EV := match d with
  | .lst xs => if st ≠ some 0 ∧ (pick xs lo hi st).length ≤ lim then some (.f (.lst (pick xs lo hi st))) else none
  | _ => none
def ePick (φ : EF) (ω υ θ : OFn) : EF := eb φ fun d => ob ω fun lo => ob υ fun hi => ob θ fun st _ vh => lift (pPick (view vh d) lo hi st) vh
theorem Reps.pick {xs : List D} {vs : List V} (r : Reps W g H xs vs) : ∀ is : List Nat, Reps W g H (is.filterMap (xs[·]?)) (is.filterMap (vs[·]?))
  | [] => by simp [Reps]
  | i :: is => by
    by_cases hi : i < xs.length
    · obtain ⟨v, e1, e2⟩ := r.get (List.getElem?_eq_getElem hi)
      rw [List.filterMap_cons_some (List.getElem?_eq_getElem hi), List.filterMap_cons_some e1]
      exact Reps.cons e2 (r.pick is)
    · rw [List.filterMap_cons_none (List.getElem?_eq_none (by omega)), List.filterMap_cons_none (List.getElem?_eq_none (by rw [← r.length]; omega))]
      exact r.pick is
theorem Vals.pick {vs : List V} {us : List Value} (r : Vals vs us) : ∀ is : List Nat, Vals (is.filterMap (vs[·]?)) (is.filterMap (us[·]?))
  | [] => .nil
  | i :: is => by
    by_cases hi : i < vs.length
    · obtain ⟨u, e1, e2⟩ := r.get (List.getElem?_eq_getElem hi)
      rw [List.filterMap_cons_some (List.getElem?_eq_getElem hi), List.filterMap_cons_some e1]
      exact .cons e2 (Vals.pick r is)
    · rw [List.filterMap_cons_none (List.getElem?_eq_none (by omega)), List.filterMap_cons_none (List.getElem?_eq_none (by rw [← r.length]; omega))]
      exact Vals.pick r is
def tPick (K : PySem.W.Frag) (te : TE) (tl th ts : TO) : TE := fun σ H Q => te σ H fun x H1 => tl σ H1 fun lo H2 => th σ H2 fun hi H3 => ts σ H3 fun st H4 => ∃ a xs, x = .ref a ∧ SqL K H4 a xs ∧ st ≠ some 0 ∧ (pick xs lo hi st).length ≤ sizeLine ∧ ∀ p, H4 p = none → Q (.ref p) (upd H4 p (.lst (pick xs lo hi st)))
open PySem.Spec PyProof.Rows in
theorem pe_pick {lo hi st : Option Expr} {te : TE} {tl th ts : TO} {p3 : Pos} (hst : st ≠ none) (he : PE X e te) (hl : PO X lo tl) (hh : PO X hi th) (hs : PO X st ts)
    (hsub : ∀ v sl, subscripted (.Slice lo hi st p3) false v sl = operate [v, sl] (getItem v sl) := by intro _ _; with_unfolding_all rfl) : PE X (.Subscript e (.Slice lo hi st p3) pos) (tPick X.K te tl th ts) := by
  refine ⟨fun pins s σ H Q I h => ?_⟩
  refine Subscript_ (thn (he.run pins s σ H _ I h) fun v s1 ⟨x, H1, I1, r1, q1⟩ => ?_)
  refine wpAny_Slice (thn (hl.run pins s1 σ H1 _ I1 q1) fun vl s2 ⟨l, H2, I2, pl, q2⟩ => ?_)
  refine thn (hh.run pins s2 σ H2 _ I2 q2) fun vu s3 ⟨u, H3, I3, pu, q3⟩ => ?_
  refine thn (hs.run pins s3 σ H3 _ I3 q3) fun vs s4 ⟨t, H4, I4, ps, a, xs, ex, hx, h0, hz, q⟩ => ?_
  subst ex
  cases r1
  have I5 : Inv X pins σ H4 { s4 with heap := s4.heap.push { cls := .type "slice", data := .fields #[vl, vu, vs] } } := I4.kept (t' := s4.toks) fun b ob q => Heap.get?_push_of_some _ q
  obtain ⟨its, r, ht, hz'⟩ := I5.list hx
  have hlen := r.length
  show wpAny (model X.prog X.w) X.A (subscriptTail e (.Slice lo hi st p3) (.ref a) (.ref s4.heap.objs.size)) (EP X pins σ Q) X.xe { s4 with heap := s4.heap.push { cls := .type "slice", data := .fields #[vl, vu, vs] } }
  refine tail_any (ops := [.ref a, .ref s4.heap.objs.size]) ht.isList.typeIs (PySem.slot_list_getitem.lookup) ?_ (hsub _ _)
  refine wpAny_getItem_list_slice ht.isList (Heap.IsSliceOf.new _ vl vu vs) pl pu ps h0 ?_ (by rw [List.size_toArray]; omega)
  have e1 : slicePick its.toArray l u t = (PM.pick its l u t).toArray := by
    unfold slicePick PM.pick pickIx
    rw [List.size_toArray]
    simp
  rw [e1]
  have rp : Vals (PM.pick xs l u t) (PM.pick its l u t) := by
    unfold PM.pick
    rw [hlen]
    exact Vals.pick r _
  refine ⟨.ref _, _, I5.laid (t' := s4.toks) (o := .lst (PM.pick xs l u t)) (fun b ob q => Heap.get?_push_of_some _ q) (Nat.le_refl _) ?_, rfl, q _ (I5.hok.fresh (Nat.le_refl _))⟩
  exact ⟨hz, _, 0, rp, Heap.get?_push_size _ rfl⟩
theorem pick_all {α : Type} (xs : List α) : (List.range xs.length).filterMap (xs[·]?) = xs := by
  have := PySem.W.krv_all xs.toArray
  simpa using this
theorem pick_rev {α : Type} (xs : List α) : pick xs none none (some (-1)) = xs.reverse := by
  unfold pick pickIx
  rw [PySem.W.krv_bounds]
  show (sliceRange ((xs.length : Int) - 1) (-1) (-1)).filterMap (xs[·]?) = _
  rw [PySem.W.krv_sliceRange, PySem.W.krv_range, List.filterMap_reverse, pick_all]
theorem pick_fwd {α : Type} (xs : List α) : pick xs none none (some 1) = xs := by
  obtain ⟨h1, h2, h3⟩ := slice_bounds none none xs.length
  have e : pickIx none none (some 1) xs.length = pickIx none none none xs.length := by unfold pickIx; rfl
  unfold pick
  rw [e]
  unfold pickIx
  rw [h1, h2, h3]
  simp only [sliceRange_one]
  have e2 : (List.range (HT.sIx xs.length xs.length none - HT.sIx xs.length 0 none)).map (HT.sIx xs.length 0 none + ·) = List.range xs.length := by
    have z : HT.sIx xs.length 0 none = 0 := rfl
    have z2 : HT.sIx xs.length xs.length none = xs.length := rfl
    rw [z, z2]
    simp
  rw [e2]
  exact pick_all xs
theorem de_pick (hK : X.K = W.K) {lo hi st : Option Expr} {ω υ θ : OFn} {p3 : Pos} (hst : st ≠ none) (ha : DE W Wx X e φ) (hl : DO W Wx X lo ω) (hh : DO W Wx X hi υ) (hs : DO W Wx X st θ)
    (hsub : ∀ v sl, subscripted (.Slice lo hi st p3) false v sl = operate [v, sl] (getItem v sl) := by intro _ _; with_unfolding_all rfl) : DE W Wx X (.Subscript e (.Slice lo hi st p3) pos) (ePick φ ω υ θ) := fun C =>
  pe_imp (pe_pick hst (ha C) (hl C) (hh C) (hs C) hsub) fun σ H Q ⟨g, sl, vh, h, hs, q⟩ =>
  (TDE.bind h hs (Ext.refl g H) q).mono fun v1 H1 ⟨g2, vh2, d1, i2, s2, x2, x2', p2, q2⟩ =>
  (TDO.bind i2 s2 x2 q2).mono fun lo H3 ⟨g3, vh3, i3, s3, x3, x3', q3⟩ =>
  (TDO.bind i3 s3 x3 q3).mono fun hi H4 ⟨g4, vh4, i4, s4, x4, x4', q4⟩ =>
  (TDO.bind i4 s4 x4 q4).mono fun st H5 ⟨g5, vh5, i5, s5, x5, x5', q5⟩ => by
    have rx := i5.view (Rep.mono x5' _ _ (Rep.mono x4' _ _ (Rep.mono x3' _ _ p2)))
    cases e : view vh5 d1 with
    | lst xs =>
      rw [e] at rx q5
      obtain ⟨a, vs, rfl, h1, r1⟩ := rx.lst
      simp only [pPick] at q5
      split at q5
      · rename_i hc
        have rp : Reps W g5 H5 (pick xs lo hi st) (pick vs lo hi st) := by
          unfold PM.pick
          rw [r1.length]
          exact r1.pick _
        refine ⟨a, vs, rfl, SqL.of h1, hc.1, by rw [← rp.length, ← lim_eq]; exact hc.2, fun p np => ?_⟩
        have x6 := Ext.new (u := .lst (pick vs lo hi st)) i5 np
        exact q5 g5 _ _ (i5.new np) (s5.mono x6) (x5.trans x6) (new_lst i5 np rp)
      · exact q5.elim
    | _ => rw [e] at q5; exact q5.elim
end
end
end PM

/-! PM13: how calls bind; calls with keywords; defs that call themselves. -/
namespace PM
open PySem L2
noncomputable section

def pickAt {α : Type} (src : List Nat) (xs : List α) : List α := src.filterMap (xs[·]?)
theorem pickAt_length {α : Type} {xs : List α} : ∀ {src : List Nat}, (∀ i ∈ src, i < xs.length) → (pickAt src xs).length = src.length
  | [], _ => rfl
  | i :: is, h => by
    unfold pickAt
    rw [List.filterMap_cons_some (List.getElem?_eq_getElem (h i (List.mem_cons_self ..)))]
    simp only [List.length_cons]
    exact congrArg Nat.succ (pickAt_length fun j hj => h j (List.mem_cons_of_mem _ hj))
theorem Reps.pickAt {W : Wd} {g : Gh} {H : Hp} {xs : List D} {vs : List V} (r : Reps W g H xs vs) (is : List Nat) : Reps W g H (pickAt is xs) (pickAt is vs) := r.pick is
theorem Vals.pickAt {vs : List V} {us : List Value} (r : Vals vs us) (is : List Nat) : Vals (pickAt is vs) (pickAt is us) := Vals.pick r is
theorem vals_split {vs : List V} {us ws : List Value} (h : Vals vs (us ++ ws)) : ∃ v1 v2, vs = v1 ++ v2 ∧ Vals v1 us ∧ Vals v2 ws := by
  induction us generalizing vs with
  | nil => exact ⟨[], vs, rfl, .nil, h⟩
  | cons u us ih =>
    cases h with
    | cons h1 h2 =>
      obtain ⟨v1, v2, rfl, r1, r2⟩ := ih h2
      exact ⟨_ :: v1, v2, rfl, .cons h1 r1, r2⟩
section
variable {W : Wd} {x qual : Str} {st : Stmt} {dvs : List V} {kws : List (Str × V)} {f : Addr} {fd : FuncData} {ps : List Str}
abbrev Fun (K : PySem.W.Frag) (x qual : Str) (st : Stmt) (dvs : List V) (kws : List (Str × V)) (f : Addr) (fd : FuncData) : Prop := FunD K x qual (defArgs st) (defBody st) (defScope st) dvs kws f fd
theorem txt_of (F : Fun W.K x qual st dvs kws f fd) : Txt W.K x qual st f fd := by
  obtain ⟨oc, od, dV, kV, doc, pm, an, cdv, ct, osl, h1, h2, h3, _, _⟩ := F.ex
  exact ⟨⟨oc, od, dV, kV, doc, pm, an, cdv, ct, osl, h1, h2, h3⟩, F.kp⟩
abbrev arrOf (src : List Nat) (md : List D) : List D → List D := fun ds => pickAt src (ds ++ md)
/-- no default is wanted, the def has none but keyword-only ones -/
theorem Pat.full (F : Fun W.K x qual st [] kws f fd) (n : Nat) (ks : List Str) (src : List Nat) (hs : src.length = ps.length) (hi : ∀ i ∈ src, i < n + ks.length)
    (h : ∀ (kV doc pm : Value) (an : Option Addr) (cdv ct : Value) (us ws : List Value), us.length = n → ws.length = ks.length →
      bindArgs (PySem.W.fnOf x qual (defArgs st) (defBody st) (defScope st) .none kV doc pm an cdv ct) ⟨us, ks.zip ws⟩ = pure (ps.zip (pickAt src (us ++ ws)))) : Pat W fd ps n ks (arrOf src []) := by
  refine ⟨fun s us ws g H ds vs _ h1 h2 r rv => ?_⟩
  obtain ⟨oc, od, dV, kV, doc, pm, an, cdv, ct, osl, rfl, lk, hcd, hD, hK⟩ := F.ex
  rcases hD with ⟨_, rfl⟩ | ⟨e, _⟩
  · have hl : ds.length = n + ks.length := by rw [r.length, rv.length, List.length_append, h1, h2]
    refine ⟨pickAt src (us ++ ws), pickAt src vs, .of_eq (h kV doc pm an cdv ct us ws h1 h2), Vals.pickAt rv src, ?_, ?_⟩
    · unfold arrOf
      rw [List.append_nil]
      exact r.pickAt src
    · unfold arrOf
      rw [List.append_nil, pickAt_length (by rw [hl]; exact hi), hs]
  · exact absurd rfl e
/-- keyword-only defaults ms are wanted, there are no others -/
theorem Pat.d0 (F : Fun W.K x qual st [] kws f fd) (n : Nat) (ks : List Str) (ms : List (Str × V)) (md : List D) (src : List Nat) (hk : kws ≠ []) (hms : ∀ q ∈ ms, q ∈ kws) (hmd : ∀ g H, Reps W g H md (ms.map (·.2)))
    (hs : src.length = ps.length) (hi : ∀ i ∈ src, i < n + ks.length + ms.length)
    (h : ∀ (D : Addr) (doc pm : Value) (an : Option Addr) (cdv ct : Value) (us ws mv : List Value), us.length = n → ws.length = ks.length → mv.length = ms.length →
      KwChain D ((ms.map (·.1)).zip mv) (bindArgs (PySem.W.fnOf x qual (defArgs st) (defBody st) (defScope st) .none (.ref D) doc pm an cdv ct) ⟨us, ks.zip ws⟩) (ps.zip (pickAt src (us ++ ws ++ mv)))) : Pat W fd ps n ks (arrOf src md) := by
  refine ⟨fun s us ws g H ds vs X h1 h2 r rv => ?_⟩
  obtain ⟨oc, od, dV, kV, doc, pm, an, cdv, ct, osl, rfl, lk, hcd, hD, hK⟩ := F.ex
  rcases hD with ⟨_, rfl⟩ | ⟨e, _⟩
  · rcases hK with e | ⟨D, rfl, hq⟩
    · exact absurd e hk
    · obtain ⟨mv, hl, rk, hks⟩ := kwd_vals (ms := ms) fun q hm => hq q (hms q hm)
      have hl1 : ds.length = n + ks.length := by rw [r.length, rv.length, List.length_append, h1, h2]
      have hl2 : md.length = ms.length := by rw [(hmd g H).length, List.length_map]
      refine ⟨pickAt src (us ++ ws ++ mv), pickAt src (vs ++ ms.map (·.2)), BindsTo.of_looks fun M => KwChain.looks X hks (h D doc pm an cdv ct us ws mv h1 h2 hl), Vals.pickAt (rv.append rk) src, (r.append (hmd g H)).pickAt src, ?_⟩
      unfold arrOf
      rw [pickAt_length (by rw [List.length_append, hl1, hl2]; exact hi), hs]
  · exact absurd rfl e
/-- defaults stand (wanted or not), keyword-only ones too -/
theorem Pat.dn (F : Fun W.K x qual st dvs kws f fd) (n : Nat) (ks : List Str) (ms : List (Str × V)) (dd md : List D) (src : List Nat) (hd : dvs ≠ []) (hk : ms ≠ [] → kws ≠ []) (hms : ∀ q ∈ ms, q ∈ kws) (hdd : ∀ g H, Reps W g H dd dvs) (hmd : ∀ g H, Reps W g H md (ms.map (·.2)))
    (hs : src.length = ps.length) (hi : ∀ i ∈ src, i < n + ks.length + dvs.length + ms.length)
    (h : ∀ (T D : Addr) (kV doc pm : Value) (an : Option Addr) (cdv ct : Value) (us ws its mv : List Value), (ms ≠ [] → kV = .ref D) → us.length = n → ws.length = ks.length → its.length = dvs.length → mv.length = ms.length →
      ∃ k, bindArgs (PySem.W.fnOf x qual (defArgs st) (defBody st) (defScope st) (.ref T) kV doc pm an cdv ct) ⟨us, ks.zip ws⟩ = seqItems? (.ref T) >>= k ∧ KwChain D ((ms.map (·.1)).zip mv) (k (some its.toArray)) (ps.zip (pickAt src (us ++ ws ++ its ++ mv)))) : Pat W fd ps n ks (arrOf src (dd ++ md)) := by
  refine ⟨fun s us ws g H ds vs X h1 h2 r rv => ?_⟩
  obtain ⟨oc, od, dV, kV, doc, pm, an, cdv, ct, osl, rfl, lk, hcd, hD, hK⟩ := F.ex
  rcases hD with ⟨e, _⟩ | ⟨_, T, o, its, m, rfl, lT, oT, rT⟩
  · exact absurd e hd
  · have fin : ∀ (D : Addr) (mv : List Value), (ms ≠ [] → kV = .ref D) → mv.length = ms.length → Vals (ms.map (·.2)) mv → (∀ q ∈ (ms.map (·.1)).zip mv, PySem.W.nsIn W.K D q.1 = some (some q.2)) → ∃ us' vs',
        BindsTo s (PySem.W.fnOf x qual (defArgs st) (defBody st) (defScope st) (.ref T) kV doc pm an cdv ct) ⟨us, ks.zip ws⟩ (ps.zip us') ∧ Vals vs' us' ∧ Reps W g H (arrOf src (dd ++ md) ds) vs' ∧ (arrOf src (dd ++ md) ds).length = ps.length := by
      intro D mv hkV hl rk hks
      have hl1 : ds.length = n + ks.length := by rw [r.length, rv.length, List.length_append, h1, h2]
      have hl2 : md.length = ms.length := by rw [(hmd g H).length, List.length_map]
      have hl3 : dd.length = dvs.length := (hdd g H).length
      obtain ⟨k, e1, e2⟩ := h T D kV doc pm an cdv ct us ws its mv hkV h1 h2 rT.length.symm hl
      have q : pickAt src (ds ++ (dd ++ md)) = arrOf src (dd ++ md) ds := rfl
      refine ⟨pickAt src (us ++ ws ++ its ++ mv), pickAt src (vs ++ (dvs ++ ms.map (·.2))), BindsTo.of_looks fun M => ?_, ?_, (r.append ((hdd g H).append (hmd g H))).pickAt src, ?_⟩
      · rw [e1]
        exact looks_items X lT oT (KwChain.looks X hks e2)
      · have := Vals.pickAt ((rv.append rT).append rk) src
        rw [List.append_assoc vs] at this
        exact this
      · unfold arrOf
        rw [pickAt_length (by rw [List.length_append, List.length_append, hl1, hl2, hl3]; intro i hi'; have := hi i hi'; omega), hs]
    by_cases hm : ms = []
    · subst hm
      exact fin 0 [] (fun z => absurd rfl z) rfl .nil fun q hq => by cases hq
    · rcases hK with e | ⟨D, rfl, hq⟩
      · exact absurd e (hk hm)
      · obtain ⟨mv, hl, rk, hks⟩ := kwd_vals (ms := ms) fun q hm => hq q (hms q hm)
        exact fin D mv (fun _ => rfl) hl rk hks
theorem Pat.pos0 (F : Fun W.K x qual st [] kws f fd) (h : ∀ (kV doc pm : Value) (an : Option Addr) (cdv ct : Value) (us : List Value), us.length = ps.length → bindArgs (PySem.W.fnOf x qual (defArgs st) (defBody st) (defScope st) .none kV doc pm an cdv ct) ⟨us, []⟩ = pure (ps.zip us)) : Pat W fd ps ps.length [] id := by
  obtain ⟨oc, od, dV, kV, doc, pm, an, cdv, ct, osl, rfl, lk, hcd, hD, hK⟩ := F.ex
  rcases hD with ⟨_, rfl⟩ | ⟨e, _⟩
  · exact Pat.pos fun us hl => h kV doc pm an cdv ct us hl
  · exact absurd rfl e
end

/-! ### calls with keywords -/
def DK (W : Wd) (Wx : WX) (X : Cx) (kws : List Keyword) (α : AF) : Prop := ∀ C, PK X kws (TDA W C Wx α)
def aApp (α β : AF) : AF := fun sl vh => match α sl vh with
  | .bad => .bad
  | .exc x vh' => .exc x vh'
  | .ok ds vh' => match β sl vh' with
    | .bad => .bad
    | .exc x vh'' => .exc x vh''
    | .ok es vh'' => .ok (ds ++ es) vh''
section
variable {W : Wd} {C : Con} {Wx : WX} {X : Cx} {g g0 : Gh} {H H0 : Hp} {σ : L2.St} {sl : Sl} {vh : VH} {k np : Nat} {f : Addr} {fd : FuncData} {ps ks : List Str} {Φ : Den} {arr : List D → List D} {α β : AF} {φ : EF} {x : Str} {p pos kpos : Pos} {e : Expr} {es : List Expr} {kws : List Keyword} {nm : Option Str}
theorem pk_imp {t t' : TA} (h : PK X kws t) (i : ∀ σ H Q, t' σ H Q → t σ H Q) : PK X kws t' := ⟨fun pos pins s σ H Q I q => h.run pos pins s σ H Q I (i σ H Q q)⟩
theorem cons_imp {ta : TE} {tr : TA} (ha : ta = TDE W C Wx φ) (hr : tr = TDA W C Wx α) {Q : List V → Hp → Prop} (t : TDA W C Wx (aCons φ α) σ H Q) : tCons ta tr σ H Q := by
  subst ha hr
  obtain ⟨g, sl, vh, h, hs, q⟩ := t
  refine ⟨g, sl, vh, h, hs, ?_⟩
  unfold aCons at q
  cases r : φ sl vh with
  | bad => rw [r] at q; exact q
  | exc x vh1 => rw [r] at q; exact q
  | ok e vh1 =>
    rw [r] at q
    intro g1 H1 v1 h1 s1 x1 r1
    obtain ⟨g2, h2, x2, r2⟩ := r1.freeze h1
    refine ⟨g2, sl, vh1, h2, s1.mono x2, ?_⟩
    dsimp only at q
    cases r3 : α sl vh1 with
    | bad => rw [r3] at q; exact q
    | exc x vh2 => rw [r3] at q; exact fun g3 H3 c od h3 s3 x3 p3 => q g3 H3 c od h3 s3 ((x1.trans x2).trans x3) p3
    | ok ds vh2 =>
      rw [r3] at q
      exact fun g3 H3 vs h3 s3 x3 p3 => q g3 H3 _ h3 s3 ((x1.trans x2).trans x3) (Reps.cons (Rep.mono x3 _ _ r2) p3)
theorem dk_nil : DK W Wx X [] aNil := fun C => pk_imp pk_nil fun σ H Q ⟨g, sl, vh, h, hs, q⟩ => q g H [] h hs (Ext.refl g H) Reps.nil
theorem dk_cons (ha : DE W Wx X e φ) (hr : DK W Wx X kws α) : DK W Wx X (⟨nm, e, kpos⟩ :: kws) (aCons φ α) := fun C => pk_imp (pk_cons (ha C) (hr C)) fun σ H Q t => cons_imp rfl rfl t
/-- f(e, .., k = v, ..) -/
theorem de_callK (cz : Cz W Wx k X) (F : PFn W X.prog X.w X.mg X.base k f fd ps Φ) (pt : Pat W fd ps np ks arr) (hg : Gl X x) (hm : X.mg x = some (.ref f)) (hk : PySem.W.keepIn W.K (.ref f) = true)
    (ha : DA W Wx X (e :: es) α) (hb : DK W Wx X kws β) (hn : (e :: es).length = np := by rfl) (hall : (backToKw pos (keywordEach kws X.env)).all (·.1.isSome) = true := by rfl) (hks : (backToKw pos (keywordEach kws X.env)).filterMap (·.1) = ks := by rfl)
    (hdb : (x == ("__debug__" : Str)) = false := by decide) (he : starEach (e :: es) X.env = (false, eval e X.env) :: starEach es X.env := by rfl)
    (hpl : ((backTo pos (starEach (e :: es) X.env)).any (·.1) || (backToKw pos (keywordEach kws X.env)).any (·.1.isNone)) = false := by rfl)
    (hal : ∀ sl vh ds vh', α sl vh = .ok ds vh' → ds.length = np) (hbl : ∀ sl vh ds vh', β sl vh = .ok ds vh' → ds.length = ks.length) :
    DE W Wx X (.Call (.Name x p) (e :: es) kws pos) (dCall arr Φ (aApp α β)) := fun C => by
  refine ⟨fun pins s σ H Q I ⟨g, sl, vh, h, hs, q⟩ => ?_⟩
  refine wpAny_Call_Name_kw (ld_glob I hg hm ?_ hdb)
  have hk' : PySem.W.keepIn X.K (.ref f) = true := by rw [cz.K]; exact hk
  have T : TDA W C Wx α σ H (fun v1 H1 => ∃ g1 vh1 d1, RelH W C g1 vh1 H1 ∧ RelS W g1 H1 sl σ ∧ Ext g H g1 H1 ∧ Reps W g1 H1 d1 v1 ∧ d1.length = np ∧
      TDA W C Wx β σ H1 (fun v2 H2 => ∃ g2 vh2 d2, RelH W C g2 vh2 H2 ∧ RelS W g2 H2 sl σ ∧ Ext g1 H1 g2 H2 ∧ Reps W g2 H2 d2 v2 ∧ d2.length = ks.length ∧ PostE W C Wx g H σ sl (match Φ (arr (d1 ++ d2)) vh2 with | .ok d vh' => .ok (.v d) vh' | .exc x vh' => .exc x vh' | .bad => .bad) Q)) := by
    refine ⟨g, sl, vh, h, hs, ?_⟩
    unfold dCall ab aApp at q
    cases r : α sl vh with
    | bad => rw [r] at q; exact q
    | exc x vh1 => rw [r] at q; exact q
    | ok ds vh1 =>
      rw [r] at q
      intro g1 H1 v1 h1 s1 x1 r1
      refine ⟨g1, vh1, ds, h1, s1, x1, r1, hal _ _ _ _ r, g1, sl, vh1, h1, s1, ?_⟩
      dsimp only at q
      cases r2 : β sl vh1 with
      | bad => rw [r2] at q; exact q
      | exc x vh2 => rw [r2] at q; exact fun g2 H2 c od h2 s2 x2 rr => q g2 H2 c od h2 s2 (x1.trans x2) rr
      | ok es vh2 => rw [r2] at q; exact fun g2 H2 v2 h2 s2 x2 rr => ⟨g2, vh2, es, h2, s2, x2, rr, hbl _ _ _ _ r2, q⟩
  refine PySem.W.callWith_KW (h₀ := X.base) I.ok.mod.kin hk' hall (thn ((ha C).run pos pins s σ H _ I T) fun us s1 ⟨vs, H1, I1, rv, g1, vh1, d1, h1, s1', x1, r1, l1, t2⟩ => ?_) hpl he
  refine thn ((hb C).run pos pins s1 σ H1 _ I1 t2) fun ws s2 ⟨zs, H2, I2, rz, g2, vh2, d2, h2, s2', x2, r2, l2, q2⟩ => ⟨I2.kIn, ?_⟩
  rw [hks]
  have lu : us.length = np := by rw [← rv.length, ← r1.length]; exact l1
  have lw : ws.length = ks.length := by rw [← rz.length, ← r2.length]; exact l2
  exact run_pfn (us := us) (ws := ws) (ds := d1 ++ d2) cz F pt I2 h2 s2' (x1.trans x2) lu lw ((Reps.mono x2 _ _ r1).append r2) (rv.append rz) q2
/-- f(k = v, ..) -/
theorem de_callK0 (cz : Cz W Wx k X) (F : PFn W X.prog X.w X.mg X.base k f fd ps Φ) (pt : Pat W fd ps 0 ks arr) (hg : Gl X x) (hm : X.mg x = some (.ref f)) (hk : PySem.W.keepIn W.K (.ref f) = true)
    (hb : DK W Wx X kws β) (hall : (backToKw pos (keywordEach kws X.env)).all (·.1.isSome) = true := by rfl) (hks : (backToKw pos (keywordEach kws X.env)).filterMap (·.1) = ks := by rfl)
    (hdb : (x == ("__debug__" : Str)) = false := by decide)
    (hpl : ((backTo pos (starEach [] X.env)).any (·.1) || (backToKw pos (keywordEach kws X.env)).any (·.1.isNone)) = false := by rfl)
    (hbl : ∀ sl vh ds vh', β sl vh = .ok ds vh' → ds.length = ks.length) :
    DE W Wx X (.Call (.Name x p) [] kws pos) (dCall arr Φ β) := fun C => by
  refine ⟨fun pins s σ H Q I ⟨g, sl, vh, h, hs, q⟩ => ?_⟩
  refine wpAny_Call_Name_kw (ld_glob I hg hm ?_ hdb)
  have hk' : PySem.W.keepIn X.K (.ref f) = true := by rw [cz.K]; exact hk
  have T : TDA W C Wx β σ H (fun v2 H2 => ∃ g2 vh2 d2, RelH W C g2 vh2 H2 ∧ RelS W g2 H2 sl σ ∧ Ext g H g2 H2 ∧ Reps W g2 H2 d2 v2 ∧ d2.length = ks.length ∧ PostE W C Wx g H σ sl (match Φ (arr d2) vh2 with | .ok d vh' => .ok (.v d) vh' | .exc x vh' => .exc x vh' | .bad => .bad) Q) := by
    refine ⟨g, sl, vh, h, hs, ?_⟩
    unfold dCall ab at q
    cases r2 : β sl vh with
    | bad => rw [r2] at q; exact q
    | exc x vh2 => rw [r2] at q; exact q
    | ok es vh2 => rw [r2] at q; exact fun g2 H2 v2 h2 s2 x2 rr => ⟨g2, vh2, es, h2, s2, x2, rr, hbl _ _ _ _ r2, q⟩
  refine PySem.W.callWith_KW0 (h₀ := X.base) I.ok.mod.kin hk' hall ?_ hpl
  refine thn ((hb C).run pos pins s σ H _ I T) fun ws s2 ⟨zs, H2, I2, rz, g2, vh2, d2, h2, s2', x2, r2, l2, q2⟩ => ⟨I2.kIn, ?_⟩
  rw [hks]
  have lw : ws.length = ks.length := by rw [← rz.length, ← r2.length]; exact l2
  exact run_pfn (us := []) (ws := ws) (ds := d2) cz F pt I2 h2 s2' x2 rfl lw r2 rz q2
theorem al_nil : ∀ (sl : Sl) (vh : VH) (ds : List D) (vh' : VH), aNil sl vh = .ok ds vh' → ds.length = 0 := fun sl vh ds vh' h => by cases h; rfl
theorem al_cons {n : Nat} (h : ∀ (sl : Sl) (vh : VH) (ds : List D) (vh' : VH), α sl vh = .ok ds vh' → ds.length = n) : ∀ (sl : Sl) (vh : VH) (ds : List D) (vh' : VH), aCons φ α sl vh = .ok ds vh' → ds.length = n + 1 := fun sl vh ds vh' e => by
  unfold aCons at e
  split at e
  · cases e
  · cases e
  · split at e
    · cases e
    · cases e
    · rename_i h1
      cases e
      simp [h _ _ _ _ h1]
end

/-! ### denotations by a number -/
section
variable {W : Wd} {P : Program} {w : World} {mg : Str → Option Value} {base : Heap} {k : Nat} {f : Addr} {fd : FuncData} {ps : List Str}
theorem PFn.pick {Φ : Nat → Den} (h : ∀ n, PFn W P w mg base k f fd ps (Φ n)) (fuel : List D → VH → Nat) : PFn W P w mg base k f fd ps (fun ds vh => Φ (fuel ds vh) ds vh) :=
  ⟨fun A outer s H args us vs Q E hr hg he hb hv ⟨g, ds, vh, a, b, c, q⟩ => (h (fuel ds vh)).run A outer s H args us vs Q E hr hg he hb hv ⟨g, ds, vh, a, b, c, q⟩⟩
theorem PFn.none : PFn W P w mg base k f fd ps (fun _ _ => .bad) := ⟨fun A outer s H args us vs Q E hr hg he hb hv ⟨g, ds, vh, a, b, c, q⟩ => q.elim⟩
end
end
end PM

/-! PM14: the law's end. -/
namespace PM
open PySem L2
noncomputable section

open PySem.Spec PyProof.Rows in
theorem law_core {P : Program} {w : World} {W : Wd} {mg mb : Str → Option Value} {k : Nat} {fa a : Addr} {fd : FuncData} {x : Str} {Φ : Den} {s1 : Shared} {us : List Value} {ns : List Int} {H : Hp}
    (kIn : W.K.In s1.heap) (gl : s1.heap.Ns mainGlobals mg) (bl : s1.heap.Ns builtinsNs mb) (bls : ∀ y : Str, y ≠ "__name__" → mb y = bootBuiltins y) (nl : s1.heap.NoLimit) (gens : s1.gens = #[])
    (tr : ∀ b u, H b = some u → b = a ∧ W.K.lookup b = none ∧ ∃ o xs, u = .frz o (.lst xs) ∧ s1.heap.get? b = some o) (sq : ∀ b u o es ep, H b = some u → s1.heap.get? b = some o → o.data ≠ .dict es ep) (hok : HOk P w H s1.heap)
    (room : Room k callerA) (F : ∀ base : Heap, W.K.In base → base.Ns mainGlobals mg → PFn W P w mg base k fa fd [x] Φ) (bind : ∀ (s : Shared) (u : Value), BindsTo s fd ⟨[u], []⟩ [(x, u)])
    (vh' : VH) (hΦ : Φ [.scr ns] [] = .ok (.bl true) vh') (scr : SqL W.K H a (ns.map V.int)) (scrF : SqL W.K noH a (ns.map V.int) ∨ ∃ o, H a = some (.frz o (.lst (ns.map V.int)))) :
    codeAny (model P w) callerA (.call (.ref fa) ⟨[.ref a], []⟩) (fun r s' => r = .ok (.ret (.bool true)) ∧ OldK s1.heap s'.heap ∧ s'.os = s1.os ∧ AllBare s'.gens) s1 := by
  have un : ∀ b o es ep, s1.heap.get? b = some o → o.data = .dict es ep → H b = none := by
    intro b o es ep e d
    cases q : H b with
    | none => rfl
    | some u => exact absurd d (sq b u o es ep q e)
  have keepNs : ∀ (b : Addr) (m : Str → Option Value), s1.heap.Ns b m → (hidT s1.heap H).Ns b m := by
    rintro b m ⟨o, es, ep, e, d, rest⟩
    exact ⟨o, es, ep, hidT_get e (un b o es ep e d), d, rest⟩
  have kB : W.K.In (hidT s1.heap H) := by
    intro b o e
    refine hidT_get (kIn b o e) ?_
    cases q : H b with
    | none => rfl
    | some u =>
      have := (tr b u q).2.1
      rw [this] at e
      cases e
  obtain ⟨mc, nl1, nl2⟩ := nl
  have M : Mod W.K mg (hidT s1.heap H) := { kin := kB, glob := keepNs _ _ gl, blt := ⟨mb, keepNs _ _ bl, bls⟩, nolimit := ⟨mc, keepNs _ _ nl1, nl2⟩ }
  have E : Env0 P w W.K mg (hidT s1.heap H) callerA [] s1 H := { frames := rfl, mod := M, bs := fun b o e => of_hidT e, bsz := Nat.le_of_eq (hidT_size _ _), funs := trivial, frf := fun b hb => (nomatch hb), hok := hok, bare := .of_eq gens }
  let g0 : Gh := ⟨fun b => H b ≠ none, fun _ => 0, 0⟩
  have R : RelH W (callC H g0) g0 [] H :=
    { len := rfl, vh := fun i o e => (nomatch e), inj := fun i j hi => absurd hi (Nat.not_lt_zero _), nf := fun i hi => absurd hi (Nat.not_lt_zero _), ff := fun b hb => hb, fr := fun b hb => ⟨rfl, hb.1⟩, nfr := fun i hi => absurd hi (Nat.not_lt_zero _), pd := fun b hb => hb }
  have rs : Rep W g0 H (.scr ns) (.ref a) := by
    simp only [Rep]
    refine ⟨a, rfl, ?_⟩
    rcases scrF with z | ⟨o, z⟩
    · exact .inr z
    · exact .inl ⟨by rw [show g0.F a = (H a ≠ none) from rfl, z]; exact fun y => (nomatch y), o, z⟩
  have sp : spD W 1 Φ [.ref a] H (fun v _ => v = .bl true) (fun _ _ _ => False) := by
    refine ⟨g0, [.scr ns], [], R, Reps.one rs, rfl, ?_⟩
    rw [hΦ]
    exact fun g1 H1 v _ _ r1 => by simpa only [Rep] using r1
  refine codeAny_mono ((F _ kB (keepNs _ _ gl)).run callerA [] s1 H ⟨[.ref a], []⟩ [.ref a] [.ref a] (fun v _ => v = .bl true) (fun _ _ _ => False) room rfl E (bind s1 (.ref a)) (.cons rfl .nil) sp) ?_
  intro r s2 out
  cases r with
  | error e =>
    obtain ⟨_, _, _, _, _, _, _, _, _, _, _, _, z⟩ := out
    exact z.elim
  | ok fl =>
    cases fl with
    | next => exact out.elim
    | brk => exact out.elim
    | cont => exact out.elim
    | ret u =>
      obtain ⟨v, H2, os2, bare2, un2, hok2, rv, rfl⟩ := out
      cases rv
      refine ⟨rfl, .of_keep ?_, os2, bare2⟩
      intro b o e
      cases q : H b with
      | none => exact un2.keep b o e q (fun z => nomatch z) (fun z => nomatch z)
      | some u =>
        obtain ⟨_, _, ob, xs, rfl, eo⟩ := tr b u q
        have := (hok2 b _ (un2.frzs b ob _ q)).1
        rw [eo] at e
        cases e
        exact this

open PySem.Spec PyProof.Rows in
theorem law_end {P : Program} {w : World} {W : Wd} {mg mb : Str → Option Value} {k : Nat} {fa a : Addr} {fd : FuncData} {x : Str} {Φ : Den} {s1 : Shared} {us : List Value} {ns : List Int}
    (kIn : W.K.In s1.heap) (gl : s1.heap.Ns mainGlobals mg) (bl : s1.heap.Ns builtinsNs mb) (bls : ∀ y : Str, y ≠ "__name__" → mb y = bootBuiltins y) (nl : s1.heap.NoLimit) (gens : s1.gens = #[])
    (at' : s1.heap.get? a = some { cls := .type "list", data := .seq us.toArray }) (its : IntsAre us ns) (len : ns.length ≤ sizeLine)
    (room : Room k callerA) (F : ∀ base : Heap, W.K.In base → base.Ns mainGlobals mg → PFn W P w mg base k fa fd [x] Φ) (bind : ∀ (s : Shared) (u : Value), BindsTo s fd ⟨[u], []⟩ [(x, u)])
    (vh' : VH) (hΦ : Φ [.scr ns] [] = .ok (.bl true) vh') :
    codeAny (model P w) callerA (.call (.ref fa) ⟨[.ref a], []⟩) (fun r s' => r = .ok (.ret (.bool true)) ∧ OldK s1.heap s'.heap ∧ s'.os = s1.os ∧ AllBare s'.gens) s1 := by
  have vals := vals_ints its
  cases lk : W.K.lookup a with
  | some o =>
    have eo := kIn a o lk
    rw [at'] at eo
    cases eo
    have sc : ∀ H : Hp, SqL W.K H a (ns.map V.int) := fun H => .inr ⟨_, us.toArray, _, lk, rfl, rfl, rfl, by rw [List.size_toArray, its.length]; exact len, by simpa using vals⟩
    exact law_core (H := noH) (us := us) kIn gl bl bls nl gens (fun b u z => nomatch z) (fun b u o es ep z => nomatch z) (fun b u z => nomatch z) room F bind vh' hΦ (sc _) (.inl (sc _))
  | none =>
    let so : Obj := { cls := .type "list", data := .seq us.toArray }
    let H : Hp := upd noH a (.frz so (.lst (ns.map V.int)))
    have only : ∀ b u, H b = some u → b = a ∧ u = .frz so (.lst (ns.map V.int)) := by
      intro b u z
      by_cases hb : b = a
      · subst hb
        rw [show H b = _ from upd_same] at z
        cases z
        exact ⟨rfl, rfl⟩
      · rw [show H b = noH b from upd_ne hb] at z
        cases z
    refine law_core (H := H) (us := us) kIn gl bl bls nl gens ?_ ?_ ?_ room F bind vh' hΦ (.inl (.inr ⟨so, upd_same⟩)) (.inr ⟨so, upd_same⟩)
    · intro b u z
      obtain ⟨rfl, rfl⟩ := only b u z
      exact ⟨rfl, lk, so, _, rfl, at'⟩
    · intro b u o es ep z e d
      obtain ⟨rfl, rfl⟩ := only b u z
      rw [at'] at e
      cases e
      cases d
    · intro b u z
      obtain ⟨rfl, rfl⟩ := only b u z
      exact ⟨at', by rw [List.length_map]; exact len, us, _, vals, at'⟩
open PySem.Spec PyProof.Rows in
/-- what k_head or head_any leave: the law's promise by its denotation -/
theorem law_walk {l : PySem.W.OpenLaw} {n k : Nat} {q : Program} {loose : List Str} {XP : (Str → Option Value) → Heap → Prop} {YP : World → Heap → Prop} {d : DefRec} {x : Str}
    (hn : l.most = some n) (hn2 : n ≤ sizeLine) (hdf : d.params.defaults = []) (room : Room k callerA)
    (F : ∀ (w : World) (mg : Str → Option Value) (fa : Addr) (h : Heap), YP w h → h.Ns mainGlobals mg → mg d.name = some (.ref fa) →
      ∃ (W : Wd) (fd : FuncData) (Φ : Den), W.K.In h ∧ (∀ (s : Shared) (u : Value), BindsTo s fd ⟨[u], []⟩ [(x, u)]) ∧ (∀ ns : List Int, ns.length ≤ n → ∃ vh', Φ [.scr ns] [] = .ok (.bl true) vh') ∧
        ∀ base : Heap, W.K.In base → base.Ns mainGlobals mg → PFn W l.prog w mg base k fa fd [x] Φ) :
    PySem.W.WalkO q loose XP YP l.row.toRowW d [] (fun f vs => PySem.call f vs) := by
  refine Att.attach_call hn hdf ?_
  intro w s0 s1 mg mb fa o pm cd doc a us ns G Y _ _ _ hmg at' its len gens
  obtain ⟨W, fd, Φ, kIn, bind, law, P⟩ := F w mg fa _ Y G.T.g hmg
  obtain ⟨vh', hΦ⟩ := law ns len
  exact law_end kIn G.T.g G.T.b G.T.builtins G.T.nolimit gens at' its (Nat.le_trans len hn2) room P bind vh' hΦ
end
end PM

/-! PM15: reckoning with denotations. -/
namespace PM
open PySem L2
noncomputable section

@[simp] theorem ofS_inj {a b : String} : (Str.ofString a = Str.ofString b) ↔ a = b := by
  constructor
  · intro h
    have h2 : (Str.ofString a).cps.toList = (Str.ofString b).cps.toList := by rw [h]
    rw [PyProof.Rows.signs_ofString, PyProof.Rows.signs_ofString] at h2
    have key : ∀ l m : List Char, l.map Char.toNat = m.map Char.toNat → l = m := by
      intro l
      induction l with
      | nil => intro m h; cases m with
        | nil => rfl
        | cons _ _ => cases h
      | cons c l ih => intro m h; cases m with
        | nil => cases h
        | cons d m =>
          rw [List.map_cons, List.map_cons] at h
          injection h with h1 h2
          rw [ih m h2, Char.ext (UInt32.toNat_inj.mp h1)]
    exact String.toList_inj.mp (key _ _ h2)
  · rintro rfl; rfl
section
variable {φ ψ χ : EF} {α β : AF} {τ υ : TF} {δ ε : SF} {ω : OFn} {sl : Sl} {vh : VH} {γ : GF} {ι : IF}
@[simp] theorem x_eb {k : D → EF} : eb φ k sl vh = (match φ sl vh with | .ok e vh' => k e.d sl vh' | .exc x vh' => .exc x vh' | .bad => .bad) := rfl
@[simp] theorem x_tb {k : Bool → EF} : tb τ k sl vh = (match τ sl vh with | .ok b vh' => k b sl vh' | .exc x vh' => .exc x vh' | .bad => .bad) := rfl
@[simp] theorem x_tbb {k : Bool → TF} : tbb τ k sl vh = (match τ sl vh with | .ok b vh' => k b sl vh' | .exc x vh' => .exc x vh' | .bad => .bad) := rfl
@[simp] theorem x_ebt {k : D → TF} : ebt φ k sl vh = (match φ sl vh with | .ok e vh' => k e.d sl vh' | .exc x vh' => .exc x vh' | .bad => .bad) := rfl
@[simp] theorem x_lift {e : EV} : lift (some e) vh = .ok e vh := rfl
@[simp] theorem x_e1 {p : D → Option EV} : e1 p φ sl vh = (match φ sl vh with | .ok x vh' => lift (p (view vh' x.d)) vh' | .exc x vh' => .exc x vh' | .bad => .bad) := by
  first | rfl | (cases h : τ sl vh with | ok b v => (simp only [tAndF, tOrF, eIf, tbb, tb, h]; cases b <;> rfl) | exc x v => (simp only [tAndF, tOrF, eIf, tbb, tb, h]) | bad => (simp only [tAndF, tOrF, eIf, tbb, tb, h]))
@[simp] theorem x_e2 {p : D → D → Option EV} : e2 p φ ψ sl vh = (match φ sl vh with | .ok x vh1 => (match ψ sl vh1 with | .ok y vh2 => lift (p (view vh2 x.d) (view vh2 y.d)) vh2 | .exc x vh' => .exc x vh' | .bad => .bad) | .exc x vh' => .exc x vh' | .bad => .bad) := by
  first | rfl | (cases h : τ sl vh with | ok b v => (simp only [tAndF, tOrF, eIf, tbb, tb, h]; cases b <;> rfl) | exc x v => (simp only [tAndF, tOrF, eIf, tbb, tb, h]) | bad => (simp only [tAndF, tOrF, eIf, tbb, tb, h]))
@[simp] theorem x_var {i : Nat} : eVar i sl vh = (match sl[i]? with | some (some d) => .ok (.v d) vh | _ => .bad) := rfl
@[simp] theorem x_con {d : D} : eCon d sl vh = .ok (.v d) vh := rfl
@[simp] theorem x_v {d : D} : (EV.v d).d = d := rfl
@[simp] theorem x_f {o : O} : (EV.f o).d = o.toD := rfl
@[simp] theorem x_tl {xs : List D} : (O.lst xs).toD = .lst xs := rfl
@[simp] theorem x_td {xs : List (D × D)} : (O.dct xs).toD = .dct xs := rfl
@[simp] theorem x_ab {k : List D → EF} : ab α k sl vh = (match α sl vh with | .ok ds vh' => k ds sl vh' | .exc x vh' => .exc x vh' | .bad => .bad) := rfl
@[simp] theorem x_eA {p : List D → Option EV} : eA p α sl vh = (match α sl vh with | .ok ds vh' => lift (p ds) vh' | .exc x vh' => .exc x vh' | .bad => .bad) := by
  first | rfl | (cases h : τ sl vh with | ok b v => (simp only [tAndF, tOrF, eIf, tbb, tb, h]; cases b <;> rfl) | exc x v => (simp only [tAndF, tOrF, eIf, tbb, tb, h]) | bad => (simp only [tAndF, tOrF, eIf, tbb, tb, h]))
@[simp] theorem x_nil : aNil sl vh = .ok [] vh := rfl
@[simp] theorem x_cons : aCons φ α sl vh = (match φ sl vh with
  | .bad => .bad
  | .exc x vh' => .exc x vh'
  | .ok e vh' => match α sl vh' with
    | .bad => .bad
    | .exc x vh'' => .exc x vh''
    | .ok ds vh'' => .ok (e.d :: ds) vh'') := rfl
@[simp] theorem x_app : aApp α β sl vh = (match α sl vh with
  | .bad => .bad
  | .exc x vh' => .exc x vh'
  | .ok ds vh' => match β sl vh' with
    | .bad => .bad
    | .exc x vh'' => .exc x vh''
    | .ok es vh'' => .ok (ds ++ es) vh'') := rfl
@[simp] theorem x_etoT : etoT φ sl vh = (match φ sl vh with | .ok (.v (.bl b)) vh' => .ok b vh' | .ok _ _ => .bad | .exc x vh' => .exc x vh' | .bad => .bad) := rfl
@[simp] theorem x_liftB {b : Bool} : liftB (some b) vh = .ok b vh := rfl
@[simp] theorem x_etru : etru φ sl vh = (match φ sl vh with | .ok x vh' => liftB (truD (view vh' x.d)) vh' | .exc x vh' => .exc x vh' | .bad => .bad) := by
  first | rfl | (cases h : τ sl vh with | ok b v => (simp only [tAndF, tOrF, eIf, tbb, tb, h]; cases b <;> rfl) | exc x v => (simp only [tAndF, tOrF, eIf, tbb, tb, h]) | bad => (simp only [tAndF, tOrF, eIf, tbb, tb, h]))
@[simp] theorem x_tnot : tNotF τ sl vh = (match τ sl vh with | .ok b vh' => .ok (!b) vh' | .exc x vh' => .exc x vh' | .bad => .bad) := by
  first | rfl | (cases h : τ sl vh with | ok b v => (simp only [tAndF, tOrF, eIf, tbb, tb, h]; cases b <;> rfl) | exc x v => (simp only [tAndF, tOrF, eIf, tbb, tb, h]) | bad => (simp only [tAndF, tOrF, eIf, tbb, tb, h]))
@[simp] theorem x_tand : tAndF τ υ sl vh = (match τ sl vh with | .ok b vh' => (if b = true then υ sl vh' else .ok false vh') | .exc x vh' => .exc x vh' | .bad => .bad) := by
  first | rfl | (cases h : τ sl vh with | ok b v => (simp only [tAndF, tOrF, eIf, tbb, tb, h]; cases b <;> rfl) | exc x v => (simp only [tAndF, tOrF, eIf, tbb, tb, h]) | bad => (simp only [tAndF, tOrF, eIf, tbb, tb, h]))
@[simp] theorem x_tor : tOrF τ υ sl vh = (match τ sl vh with | .ok b vh' => (if b = true then .ok true vh' else υ sl vh') | .exc x vh' => .exc x vh' | .bad => .bad) := by
  first | rfl | (cases h : τ sl vh with | ok b v => (simp only [tAndF, tOrF, eIf, tbb, tb, h]; cases b <;> rfl) | exc x v => (simp only [tAndF, tOrF, eIf, tbb, tb, h]) | bad => (simp only [tAndF, tOrF, eIf, tbb, tb, h]))
@[simp] theorem x_if : eIf τ φ ψ sl vh = (match τ sl vh with | .ok b vh' => (if b = true then φ sl vh' else ψ sl vh') | .exc x vh' => .exc x vh' | .bad => .bad) := by
  first | rfl | (cases h : τ sl vh with | ok b v => (simp only [tAndF, tOrF, eIf, tbb, tb, h]; cases b <;> rfl) | exc x v => (simp only [tAndF, tOrF, eIf, tbb, tb, h]) | bad => (simp only [tAndF, tOrF, eIf, tbb, tb, h]))
@[simp] theorem x_notV : eNotV φ sl vh = (match φ sl vh with | .ok x vh' => (match truD (view vh' x.d) with | none => .bad | some b => .ok (.v (.bl (!b))) vh') | .exc x vh' => .exc x vh' | .bad => .bad) := by
  first | rfl | (cases h : τ sl vh with | ok b v => (simp only [tAndF, tOrF, eIf, tbb, tb, h]; cases b <;> rfl) | exc x v => (simp only [tAndF, tOrF, eIf, tbb, tb, h]) | bad => (simp only [tAndF, tOrF, eIf, tbb, tb, h]))
@[simp] theorem x_andV : eAndV φ ψ sl vh = (match φ sl vh with | .ok x vh' => (match truD (view vh' x.d) with | none => .bad | some true => ψ sl vh' | some false => .ok (.v x.d) vh') | .exc x vh' => .exc x vh' | .bad => .bad) := by
  first | rfl | (cases h : τ sl vh with | ok b v => (simp only [tAndF, tOrF, eIf, tbb, tb, h]; cases b <;> rfl) | exc x v => (simp only [tAndF, tOrF, eIf, tbb, tb, h]) | bad => (simp only [tAndF, tOrF, eIf, tbb, tb, h]))
@[simp] theorem x_orV : eOrV φ ψ sl vh = (match φ sl vh with | .ok x vh' => (match truD (view vh' x.d) with | none => .bad | some true => .ok (.v x.d) vh' | some false => ψ sl vh') | .exc x vh' => .exc x vh' | .bad => .bad) := by
  first | rfl | (cases h : τ sl vh with | ok b v => (simp only [tAndF, tOrF, eIf, tbb, tb, h]; cases b <;> rfl) | exc x v => (simp only [tAndF, tOrF, eIf, tbb, tb, h]) | bad => (simp only [tAndF, tOrF, eIf, tbb, tb, h]))
@[simp] theorem x_lay : eLay φ sl vh = (match φ sl vh with | .ok (.f o) vh' => .ok (.v (.ref vh'.length)) (vh' ++ [o]) | .ok _ _ => .bad | .exc x vh' => .exc x vh' | .bad => .bad) := rfl
@[simp] theorem x_call {arr : List D → List D} {Φ : Den} : dCall arr Φ α sl vh = (match α sl vh with | .ok ds vh' => (match Φ (arr ds) vh' with | .ok d vh' => .ok (.v d) vh' | .exc x vh' => .exc x vh' | .bad => .bad) | .exc x vh' => .exc x vh' | .bad => .bad) := by
  first | rfl | (cases h : τ sl vh with | ok b v => (simp only [tAndF, tOrF, eIf, tbb, tb, h]; cases b <;> rfl) | exc x v => (simp only [tAndF, tOrF, eIf, tbb, tb, h]) | bad => (simp only [tAndF, tOrF, eIf, tbb, tb, h]))
@[simp] theorem x_eM {T : String} {p : MP} : eM T p φ α sl vh = (match φ sl vh with | .ok x vh' => (if tyVH T vh' x.d = true then (match α sl vh' with | .ok ds vh2 => liftM (p x.d ds vh2) | .exc x vh' => .exc x vh' | .bad => .bad) else .bad) | .exc x vh' => .exc x vh' | .bad => .bad) := by
  first | rfl | (cases h : τ sl vh with | ok b v => (simp only [tAndF, tOrF, eIf, tbb, tb, h]; cases b <;> rfl) | exc x v => (simp only [tAndF, tOrF, eIf, tbb, tb, h]) | bad => (simp only [tAndF, tOrF, eIf, tbb, tb, h]))
@[simp] theorem x_liftM {e : EV} : liftM (some (e, vh)) = .ok e vh := rfl
@[simp] theorem x_oNone : oNone sl vh = .ok none vh := rfl
@[simp] theorem x_oSome : oSome φ sl vh = (match φ sl vh with | .ok (.v (.int i)) vh' => .ok (some i) vh' | .ok _ _ => .bad | .exc x vh' => .exc x vh' | .bad => .bad) := rfl
@[simp] theorem x_ob {k : Option Int → EF} : ob ω k sl vh = (match ω sl vh with | .ok o vh' => k o sl vh' | .exc x vh' => .exc x vh' | .bad => .bad) := rfl
@[simp] theorem x_cut {υ : OFn} : eCut φ ω υ sl vh = (match φ sl vh with | .ok x vh1 => (match ω sl vh1 with | .ok lo vh2 => (match υ sl vh2 with | .ok hi vh3 => lift (pCut (view vh3 x.d) lo hi) vh3 | .exc x vh' => .exc x vh' | .bad => .bad) | .exc x vh' => .exc x vh' | .bad => .bad) | .exc x vh' => .exc x vh' | .bad => .bad) := by
  first | rfl | (cases h : τ sl vh with | ok b v => (simp only [tAndF, tOrF, eIf, tbb, tb, h]; cases b <;> rfl) | exc x v => (simp only [tAndF, tOrF, eIf, tbb, tb, h]) | bad => (simp only [tAndF, tOrF, eIf, tbb, tb, h]))
@[simp] theorem x_pick {υ θ : OFn} : ePick φ ω υ θ sl vh = (match φ sl vh with | .ok x vh1 => (match ω sl vh1 with | .ok lo vh2 => (match υ sl vh2 with | .ok hi vh3 => (match θ sl vh3 with | .ok st vh4 => lift (pPick (view vh4 x.d) lo hi st) vh4 | .exc x vh' => .exc x vh' | .bad => .bad) | .exc x vh' => .exc x vh' | .bad => .bad) | .exc x vh' => .exc x vh' | .bad => .bad) | .exc x vh' => .exc x vh' | .bad => .bad) := by
  first | rfl | (cases h : τ sl vh with | ok b v => (simp only [tAndF, tOrF, eIf, tbb, tb, h]; cases b <;> rfl) | exc x v => (simp only [tAndF, tOrF, eIf, tbb, tb, h]) | bad => (simp only [tAndF, tOrF, eIf, tbb, tb, h]))
@[simp] theorem x_D0 : eD0 sl vh = .ok (.f (.dct [])) vh := rfl
@[simp] theorem x_next : sNext sl vh = .nx sl vh := rfl
@[simp] theorem x_seq : sSeq δ ε sl vh = (match δ sl vh with | .nx sl' vh' => ε sl' vh' | r => r) := rfl
@[simp] theorem x_drop : sDrop φ sl vh = (match φ sl vh with | .ok _ vh' => .nx sl vh' | .exc x vh' => .ex x sl vh' | .bad => .bad) := rfl
@[simp] theorem x_ret : sRet φ sl vh = (match φ sl vh with | .ok e vh' => .rt e.d vh' | .exc x vh' => .ex x sl vh' | .bad => .bad) := rfl
@[simp] theorem x_retN : sRetN sl vh = .rt .non vh := rfl
@[simp] theorem x_sIf : sIf τ δ ε sl vh = (match τ sl vh with | .ok true vh' => δ sl vh' | .ok false vh' => ε sl vh' | .exc x vh' => .ex x sl vh' | .bad => .bad) := rfl
@[simp] theorem x_set {i : Nat} : sSet i φ sl vh = (match φ sl vh with | .ok e vh' => .nx (sl.set i (some e.d)) vh' | .exc x vh' => .ex x sl vh' | .bad => .bad) := rfl
@[simp] theorem x_asg : sAsg φ γ sl vh = (match φ sl vh with | .ok ev vh1 => (match γ ev.d sl vh1 with | some (sl', vh') => .nx sl' vh' | none => .bad) | .exc x vh' => .ex x sl vh' | .bad => .bad) := rfl
@[simp] theorem x_par {i j : Nat} : sPar i j α sl vh = (match α sl vh with | .ok [d, e] vh' => .nx ((sl.set i (some d)).set j (some e)) vh' | .ok _ _ => .bad | .exc x vh' => .ex x sl vh' | .bad => .bad) := rfl
@[simp] theorem x_gNm {i : Nat} {d : D} : gNm i d sl vh = some (sl.set i (some d), vh) := rfl
@[simp] theorem x_gSub {d : D} : gSubF φ ψ d sl vh = (match φ sl vh with | .ok ev vh1 => (match ψ sl vh1 with | .ok iv vh2 => (dstore ev.d iv.d d vh2).map fun vh3 => (sl, vh3) | _ => none) | _ => none) := rfl
@[simp] theorem x_gsNil : gsNil [] sl vh = some (sl, vh) := rfl
@[simp] theorem x_gsCons {γs : GFs} {d : D} {r : List D} : gsCons γ γs (d :: r) sl vh = (match γ d sl vh with | some (sl', vh') => γs r sl' vh' | none => none) := rfl
@[simp] theorem x_unpT {γs : GFs} {n : Nat} {xs : List D} : gUnp n γs (.tup xs) sl vh = if xs.length = n then γs xs sl vh else none := rfl
@[simp] theorem x_unpL {γs : GFs} {n : Nat} {xs : List D} : gUnp n γs (.lst xs) sl vh = if xs.length = n then γs xs sl vh else none := rfl
@[simp] theorem x_for : sFor ι γ δ sl vh = (match ι sl vh with | .ok iv vh' => sLoop iv.gd γ δ iv.items sl vh' | .exc x vh' => .ex x sl vh' | .bad => .bad) := rfl
@[simp] theorem x_iVal : iVal φ sl vh = (match φ sl vh with | .ok e vh' => (match ivOf vh' e.d with | some iv => .ok iv vh' | none => .bad) | .exc x vh' => .exc x vh' | .bad => .bad) := rfl
@[simp] theorem x_ivT {xs : List D} : ivOf vh (.tup xs) = some ⟨xs, none⟩ := rfl
@[simp] theorem x_ivL {xs : List D} : ivOf vh (.lst xs) = some ⟨xs, none⟩ := rfl
@[simp] theorem x_rg1 : iRg1 φ sl vh = (match φ sl vh with | .ok (.v (.int j)) vh' => (@ite _ (j < 2 ^ 62 ∧ -(2 ^ 62) ≤ j) (Classical.propDecidable _) (.ok ⟨rngI 0 j.toNat, none⟩ vh') .bad) | .ok _ _ => .bad | .exc x vh' => .exc x vh' | .bad => .bad) := rfl
@[simp] theorem x_eLc {vs : List Nat} : eLc ι γ τ φ vs sl vh = (match ι sl vh with | .ok iv vh1 => (match lcLoop iv.gd γ τ φ (wipeS sl vs) iv.items [] vh1 with | .ok acc vh2 => .ok (.f (.lst acc)) vh2 | _ => .bad) | .exc x vh' => .exc x vh' | .bad => .bad) := rfl
@[simp] theorem x_yes : tYesF sl vh = .ok true vh := rfl
@[simp] theorem x_gdN : gdB none vh = true := rfl
@[simp] theorem x_run {n : Nat} {ds : List D} : runD n δ ds vh = outD (δ (slots n ds) vh) := rfl
@[simp] theorem x_outR {d : D} : outD (.rt d vh) = .ok d vh := rfl
@[simp] theorem x_outN : outD (.nx sl vh) = .ok .non vh := rfl
@[simp] theorem x_outX {x : XV} : outD (.ex x sl vh) = .exc x vh := rfl
/-! prims -/
@[simp] theorem vw_non : view vh .non = .non := rfl
@[simp] theorem vw_bl {b} : view vh (.bl b) = .bl b := rfl
@[simp] theorem vw_int {b} : view vh (.int b) = .int b := rfl
@[simp] theorem vw_str {b} : view vh (.str b) = .str b := rfl
@[simp] theorem vw_tup {b} : view vh (.tup b) = .tup b := rfl
@[simp] theorem vw_lst {b} : view vh (.lst b) = .lst b := rfl
@[simp] theorem vw_dct {b} : view vh (.dct b) = .dct b := rfl
@[simp] theorem vw_scr {b} : view vh (.scr b) = .scr b := rfl
theorem vw_ref {n : Nat} {o : O} (h : vh[n]? = some o) : view vh (.ref n) = o.toD := by simp only [view, h]
@[simp] theorem o_add {i j : Int} : opAdd (.int i) (.int j) = some (.v (.int (i + j))) := rfl
@[simp] theorem o_addT {xs ys : List D} : opAdd (.tup xs) (.tup ys) = if xs.length + ys.length ≤ lim then some (.v (.tup (xs ++ ys))) else none := rfl
@[simp] theorem o_addL {xs ys : List D} : opAdd (.lst xs) (.lst ys) = if xs.length + ys.length ≤ lim then some (.f (.lst (xs ++ ys))) else none := rfl
@[simp] theorem o_sub {i j : Int} : opSub (.int i) (.int j) = some (.v (.int (i - j))) := rfl
@[simp] theorem o_neg {i : Int} : opNeg (.int i) = some (.v (.int (-i))) := rfl
theorem o_mul {i j : Int} (h : mulOk i j = true) : opMul (.int i) (.int j) = some (.v (.int (i * j))) := if_pos h
theorem o_div {i j : Int} (h : divOk j = true) : opDiv (.int i) (.int j) = some (.v (.int (i / j))) := if_pos h
theorem o_mod {i j : Int} (h : 0 < j) : opMod (.int i) (.int j) = some (.v (.int (i % j))) := if_pos h
theorem o_pow {i j : Int} (h : powOk i j = true) : opPow (.int i) (.int j) = some (.v (.int (i ^ j.toNat))) := if_pos h
@[simp] theorem o_lt {i j : Int} : opLt (.int i) (.int j) = some (.v (.bl (decide (i < j)))) := rfl
@[simp] theorem o_gt {i j : Int} : opGt (.int i) (.int j) = some (.v (.bl (decide (j < i)))) := rfl
@[simp] theorem o_le {i j : Int} : opLe (.int i) (.int j) = some (.v (.bl (decide (i ≤ j)))) := rfl
@[simp] theorem o_ge {i j : Int} : opGe (.int i) (.int j) = some (.v (.bl (decide (j ≤ i)))) := rfl
@[simp] theorem o_eqI {i j : Int} : opEq (.int i) (.int j) = some (.v (.bl (decide (i = j)))) := by simp [opEq, eqD, scV, scal, vB]
@[simp] theorem o_eqS {i j : Str} : opEq (.str i) (.str j) = some (.v (.bl (decide (i = j)))) := by simp [opEq, eqD, scV, scal, vB]
@[simp] theorem o_neI {i j : Int} : opNe (.int i) (.int j) = some (.v (.bl (!decide (i = j)))) := by simp [opNe, eqD, scV, scal, vB]
@[simp] theorem o_neS {i j : Str} : opNe (.str i) (.str j) = some (.v (.bl (!decide (i = j)))) := by simp [opNe, eqD, scV, scal, vB]
@[simp] theorem b_abs {i : Int} : bAbs (.int i) = some (.v (.int (if i < 0 then -i else i))) := rfl
@[simp] theorem b_intB {b : Bool} : bInt (.bl b) = some (.v (.int (if b then 1 else 0))) := rfl
@[simp] theorem b_max {i j : Int} : bMax (.int i) (.int j) = some (.v (.int (if j > i then j else i))) := rfl
@[simp] theorem b_min {i j : Int} : bMin (.int i) (.int j) = some (.v (.int (if j < i then j else i))) := rfl
@[simp] theorem b_lenL {xs : List D} : bLen (.lst xs) = some (.v (.int xs.length)) := rfl
@[simp] theorem b_lenT {xs : List D} : bLen (.tup xs) = some (.v (.int xs.length)) := rfl
@[simp] theorem b_lenC {xs : List Int} : bLen (.scr xs) = some (.v (.int xs.length)) := rfl
@[simp] theorem b_tupL {xs : List D} : bTup (.lst xs) = some (.v (.tup xs)) := rfl
@[simp] theorem b_tupT {xs : List D} : bTup (.tup xs) = some (.v (.tup xs)) := rfl
theorem p_tup {xs : List D} (h : xs.length ≤ lim) : pTup xs = some (.v (.tup xs)) := if_pos h
theorem p_lst {xs : List D} (h : xs.length ≤ lim) : pLst xs = some (.f (.lst xs)) := if_pos h
@[simp] theorem p_ixL {xs : List D} {i : Int} : pIx (.lst xs) (.int i) = (atI xs i).map EV.v := rfl
@[simp] theorem p_ixT {xs : List D} {i : Int} : pIx (.tup xs) (.int i) = (atI xs i).map EV.v := rfl
end
/-! ### loops -/
theorem sLoop_inv {γ : GF} {δ : SF} {items : List D} {sl : Sl} {vh : VH} (I : Nat → Sl → VH → Prop) (h0 : I 0 sl vh)
    (step : ∀ (i : Nat) (hi : i < items.length) (sl : Sl) (vh : VH), I i sl vh → ∃ sl' vh' sl2 vh2, γ items[i] sl vh = some (sl', vh') ∧ δ sl' vh' = .nx sl2 vh2 ∧ I (i + 1) sl2 vh2) :
    ∃ sl2 vh2, sLoop none γ δ items sl vh = .nx sl2 vh2 ∧ I items.length sl2 vh2 := by
  have gen : ∀ (k i : Nat) (sl : Sl) (vh : VH), i + k = items.length → I i sl vh → ∃ sl2 vh2, sLoop none γ δ (items.drop i) sl vh = .nx sl2 vh2 ∧ I items.length sl2 vh2 := by
    intro k
    induction k with
    | zero =>
      intro i sl vh hi h
      have e : i = items.length := by omega
      subst e
      rw [List.drop_length]
      exact ⟨sl, vh, by simp [sLoop], h⟩
    | succ k ih =>
      intro i sl vh hi h
      have hlt : i < items.length := by omega
      obtain ⟨sl', vh', sl2, vh2, e1, e2, h2⟩ := step i hlt sl vh h
      rw [List.drop_eq_getElem_cons hlt]
      obtain ⟨sl3, vh3, e3, h3⟩ := ih (i + 1) sl2 vh2 (by omega) h2
      exact ⟨sl3, vh3, by simp [sLoop, e1, e2, e3], h3⟩
  have := gen items.length 0 sl vh (by omega) h0
  rwa [List.drop_zero] at this
theorem lcLoop_inv {γ : GF} {τ : TF} {φ : EF} {items : List D} {sl : Sl} {vh : VH} (I : Nat → List D → VH → Prop) (h0 : I 0 [] vh) (hl : items.length ≤ lim)
    (step : ∀ (i : Nat) (hi : i < items.length) (acc : List D) (vh : VH), acc.length = i → I i acc vh → ∃ sl' vh1 e vh2, γ items[i] sl vh = some (sl', vh1) ∧ τ sl' vh1 = .ok true vh1 ∧ φ sl' vh1 = .ok e vh2 ∧ I (i + 1) (acc ++ [e.d]) vh2) :
    ∃ acc vh2, lcLoop none γ τ φ sl items [] vh = .ok acc vh2 ∧ acc.length = items.length ∧ I items.length acc vh2 := by
  have gen : ∀ (k i : Nat) (acc : List D) (vh : VH), i + k = items.length → acc.length = i → I i acc vh → ∃ acc2 vh2, lcLoop none γ τ φ sl (items.drop i) acc vh = .ok acc2 vh2 ∧ acc2.length = items.length ∧ I items.length acc2 vh2 := by
    intro k
    induction k with
    | zero =>
      intro i acc vh hi ha h
      have e : i = items.length := by omega
      subst e
      rw [List.drop_length]
      exact ⟨acc, vh, by simp [lcLoop], ha, h⟩
    | succ k ih =>
      intro i acc vh hi ha h
      have hlt : i < items.length := by omega
      obtain ⟨sl', vh1, e, vh2, e1, e2, e3, h2⟩ := step i hlt acc vh ha h
      rw [List.drop_eq_getElem_cons hlt]
      obtain ⟨acc3, vh3, e4, h3⟩ := ih (i + 1) (acc ++ [e.d]) vh2 (by omega) (by simp [ha]) h2
      exact ⟨acc3, vh3, by simp [lcLoop, e1, e2, e3, e4, show acc.length < lim by omega], h3⟩
  have := gen items.length 0 [] vh (by omega) rfl h0
  rwa [List.drop_zero] at this
/-- a comprehension without effects -/
theorem lcLoop_map {γ : GF} {φ : EF} {sl : Sl} {vh : VH} {f : D → D} : ∀ {items acc : List D}, acc.length + items.length ≤ lim →
    (∀ d ∈ items, ∃ sl' e, γ d sl vh = some (sl', vh) ∧ φ sl' vh = .ok e vh ∧ e.d = f d) → lcLoop none γ tYesF φ sl items acc vh = .ok (acc ++ items.map f) vh
  | [], acc, _, _ => by simp [lcLoop]
  | d :: items, acc, hl, h => by
    obtain ⟨sl', e, e1, e2, e3⟩ := h d (List.mem_cons_self ..)
    have := lcLoop_map (γ := γ) (φ := φ) (sl := sl) (vh := vh) (f := f) (items := items) (acc := acc ++ [f d]) (by simp at hl ⊢; omega) fun x hx => h x (List.mem_cons_of_mem _ hx)
    simp only [List.length_cons] at hl
    simp [lcLoop, e1, e2, e3, this, show acc.length < lim by omega]
end
end PM

/-! PM16: plain facts: sizes, reprs, lookups. -/
namespace PM
open PySem L2
noncomputable section

theorem log2_lt {i : Int} {k : Nat} (h : i.natAbs < 2 ^ k) (hk : 0 < k) : i.natAbs.log2 < k := by
  by_cases e : i.natAbs = 0
  · rw [e]; simpa using hk
  · exact (Nat.log2_lt e).mpr h
theorem mulOk_l {i j : Int} (h : i.natAbs < 2 ^ 64) : mulOk i j = true := mulOk_iff.mpr (by simp [h])
theorem mulOk_r {i j : Int} (h : j.natAbs < 2 ^ 64) : mulOk i j = true := mulOk_iff.mpr (by simp [h])
theorem pow2_lt {i j k : Nat} (h : i < 2 ^ j) (hk : j ≤ k) : i < 2 ^ k := Nat.lt_of_lt_of_le h (Nat.pow_le_pow_right (by omega) hk)
theorem mulOk_of {i j : Int} {k l : Nat} (h : i.natAbs < 2 ^ k) (h' : j.natAbs < 2 ^ l) (hk : k ≤ 400000) (hl : l ≤ 400000) : mulOk i j = true := by
  have a := log2_lt (pow2_lt h (Nat.le_succ k)) (Nat.succ_pos _)
  have b := log2_lt (pow2_lt h' (Nat.le_succ l)) (Nat.succ_pos _)
  have : i.natAbs.log2 + j.natAbs.log2 < 1000000 := by omega
  exact mulOk_iff.mpr (.inr (.inr this))
theorem divOk_of {j : Int} {k : Nat} (h0 : 0 < j) (h1 : j.natAbs < 2 ^ k) (hk : k ≤ 8000) : divOk j = true := by
  have := log2_lt (pow2_lt h1 (Nat.le_succ k)) (Nat.succ_pos _)
  have : j.natAbs.log2 < 9000 := by omega
  exact divOk_iff.mpr ⟨h0, this⟩
theorem powOk_of {i j : Int} {k : Nat} (h : i.natAbs < 2 ^ k) (hk : k ≤ 900) (h0 : 0 ≤ j) (h1 : j ≤ 1000) : powOk i j = true := by
  have := log2_lt (pow2_lt h (Nat.le_succ k)) (Nat.succ_pos _)
  have : i.natAbs.log2 < 1000 := by omega
  exact powOk_iff.mpr ⟨h0, h1, this⟩

/-! ### lookups -/
theorem atI_nat {α : Type} {xs : List α} {i : Int} {j : Nat} (h : i = j) (hj : j < xs.length) : atI xs i = xs[j]? := by
  subst h
  unfold atI ixN
  rw [if_pos (by omega), if_pos (by omega)]
  rfl
theorem atI_get {α : Type} {xs : List α} {i : Int} (h0 : 0 ≤ i) (hi : i < xs.length) : ∃ x, atI xs i = some x ∧ x ∈ xs := by
  have hl : i.toNat < xs.length := by omega
  refine ⟨xs[i.toNat], ?_, List.getElem_mem hl⟩
  rw [atI_nat (j := i.toNat) (by omega) hl, List.getElem?_eq_getElem hl]
@[simp] theorem at_0 {α : Type} {a : α} {l : List α} : atI (a :: l) 0 = some a := (atI_nat (i := 0) (j := 0) rfl (by simp)).trans rfl
@[simp] theorem at_1 {α : Type} {a b : α} {l : List α} : atI (a :: b :: l) 1 = some b := (atI_nat (i := 1) (j := 1) rfl (by simp)).trans rfl
@[simp] theorem at_2 {α : Type} {a b c : α} {l : List α} : atI (a :: b :: c :: l) 2 = some c := (atI_nat (i := 2) (j := 2) rfl (by simp)).trans rfl
@[simp] theorem at_3 {α : Type} {a b c d : α} {l : List α} : atI (a :: b :: c :: d :: l) 3 = some d := (atI_nat (i := 3) (j := 3) rfl (by simp)).trans rfl
@[simp] theorem at_4 {α : Type} {a b c d e : α} {l : List α} : atI (a :: b :: c :: d :: e :: l) 4 = some e := (atI_nat (i := 4) (j := 4) rfl (by simp)).trans rfl
@[simp] theorem s_inT {w : Str} {l : List D} : opIn (.str w) (.tup l) = (inD (.str w) l).bind vB := rfl
@[simp] theorem s_inL {w : Str} {l : List D} : opIn (.str w) (.lst l) = (inD (.str w) l).bind vB := rfl
@[simp] theorem s_in0 {w : Str} : inD (.str w) [] = some false := rfl
@[simp] theorem s_in1 {w z : Str} {l : List D} : inD (.str w) (.str z :: l) = (inD (.str w) l).map fun b => decide (z = w) || b := by
  unfold inD
  simp only [scV, scVs]
  cases e : scVs l with
  | none => rfl
  | some bs => simp [inV, eqV]; by_cases h : z = w <;> simp [h]
@[simp] theorem eqV_str {a b : Str} : eqV (.str a) (.str b) = decide (a = b) := by by_cases h : a = b <;> simp [eqV, h]
@[simp] theorem eqV_int {a b : Int} : eqV (.int a) (.int b) = decide (a = b) := by by_cases h : a = b <;> simp [eqV, h]
@[simp] theorem vB_eq {b : Bool} : vB b = some (.v (.bl b)) := rfl

/-! ### reprs -/
theorem ofS_len (s : String) : (Str.ofString s).length = s.length := by
  have := congrArg List.length (PyProof.Rows.signs_ofString s)
  rw [List.length_map] at this
  have e : (Str.ofString s).length = (Str.ofString s).cps.toList.length := by simp [Str.length]
  rw [e, this, String.length_toList]
theorem shown_int_len {i : Int} {k : Nat} (hk : 0 < k) (h : i.natAbs < 2 ^ k) : (PyData.shown (.int i)).length ≤ k + 1 := by
  show (Str.ofString (toString i)).length ≤ _
  rw [ofS_len]
  exact int_text_length_le hk (log2_lt h hk)
/-- the text of a list of whole numbers -/
def intsPy (ns : List Int) : PyData := .list (ns.map .int)
theorem toPys_ints : ∀ ns : List Int, toPys (ns.map D.int) = some (ns.map PyData.int)
  | [] => by simp [toPys]
  | n :: ns => by simp [toPys, toPy, toPys_ints ns]
theorem shownAll_ints {k : Nat} (hk : 0 < k) : ∀ ns : List Int, (∀ n ∈ ns, n.natAbs < 2 ^ k) → ((PyData.shownAll (ns.map .int)).map (·.length)).sum ≤ (k + 1) * ns.length ∧ (PyData.shownAll (ns.map .int)).length = ns.length
  | [], _ => by simp [PyData.shownAll]
  | n :: ns, h => by
    obtain ⟨a, b⟩ := shownAll_ints hk ns fun m hm => h m (List.mem_cons_of_mem _ hm)
    have c := shown_int_len hk (h n (List.mem_cons_self ..))
    simp only [List.map_cons, PyData.shownAll, List.sum_cons, List.length_cons]
    refine ⟨?_, by omega⟩
    have : (k + 1) * (ns.length + 1) = (k + 1) * ns.length + (k + 1) := by rw [Nat.mul_succ]
    omega
theorem depthAll_ints : ∀ ns : List Int, PyData.depthAll (ns.map .int) ≤ 1
  | [] => by simp [PyData.depthAll]
  | n :: ns => by
    have := depthAll_ints ns
    simp [PyData.depthAll, PyData.depth]
    omega
theorem showableAll_ints : ∀ ns : List Int, (∀ n ∈ ns, n.natAbs < 2 ^ 1900) → PyData.showableAll (ns.map .int) = true
  | [], _ => by simp [PyData.showableAll]
  | n :: ns, h => by
    have a := showableAll_ints ns fun m hm => h m (List.mem_cons_of_mem _ hm)
    have b := log2_lt (h n (List.mem_cons_self ..)) (by omega)
    simp [PyData.showableAll, PyData.showable, a]
    omega
theorem repr_ints {ns : List Int} (h : ∀ n ∈ ns, n.natAbs < 2 ^ 1900) (hl : ns.length ≤ 1000) : ∃ x : Str, ∀ d, d = D.lst (ns.map D.int) → bRepr d = some (.v (.str x)) := by
  refine ⟨(intsPy ns).shown, fun d hd => ?_⟩
  subst hd
  have e : pyR (.lst (ns.map D.int)) = some (intsPy ns) := by simp [pyR, toPy, toPys_ints, intsPy]
  have c1 : (intsPy ns).showable = true := showableAll_ints ns h
  have c2 : (intsPy ns).depth ≤ 64 := by
    have := depthAll_ints ns
    simp [intsPy, PyData.depth]
    omega
  have c3 : (intsPy ns).shown.length ≤ lim := by
    obtain ⟨a, b⟩ := shownAll_ints (k := 1900) (by omega) ns h
    have := listText_len_le (PyData.shownAll (ns.map .int))
    have e2 : (intsPy ns).shown = listText (PyData.shownAll (ns.map .int)) := rfl
    rw [e2]
    have : (1900 + 1) * ns.length ≤ 1901 * 1000 := Nat.mul_le_mul_left _ hl
    rw [lim_val]
    omega
  unfold bRepr
  rw [e]
  simp [c1, c2, c3, vS]

theorem repr_int {v : Int} (h : v.natAbs < 2 ^ 1900) : ∃ x : Str, bRepr (.int v) = some (.v (.str x)) := by
  refine ⟨(PyData.int v).shown, ?_⟩
  have c1 : (PyData.int v).showable = true := by
    have := log2_lt h (by omega)
    simp [PyData.showable]
    omega
  have c3 : (PyData.int v).shown.length ≤ lim := by
    have := shown_int_len (k := 1900) (by omega) h
    rw [lim_val]
    omega
  unfold bRepr
  simp only [pyR, toPy, Option.bind_some, PyData.depth]
  simp [c1, c3, vS]
/-! ### dicts of texts to whole numbers -/
def KvOk (p : D × D) : Prop := ∃ (s : String) (v : Int), p = (.str s, .int v) ∧ s.length ≤ 1000 ∧ v.natAbs < 2 ^ 30
theorem dput_len (kvs : List (D × D)) (k d : D) : (dput kvs k d).length ≤ kvs.length + 1 := by
  unfold dput
  split <;> simp
theorem dput_ok {kvs : List (D × D)} {s : String} {v : Int} (h : ∀ p ∈ kvs, KvOk p) (hs : s.length ≤ 1000) (hv : v.natAbs < 2 ^ 30) : ∀ p ∈ dput kvs (.str s) (.int v), KvOk p := by
  intro p hp
  unfold dput at hp
  split at hp
  · obtain ⟨q, hq, e⟩ := List.mem_map.mp hp
    split at e
    · obtain ⟨s', v', rfl, a, b⟩ := h q hq
      subst e
      exact ⟨s', v, rfl, a, hv⟩
    · subst e; exact h q hq
  · rcases List.mem_append.mp hp with hp | hp
    · exact h p hp
    · rw [List.mem_singleton] at hp
      subst hp
      exact ⟨s, v, rfl, hs, hv⟩
theorem dget_map {k d : D} {y : Key} : ∀ kvs : List (D × D), dget (kvs.map (fun p => if keyD p.1 = keyD k then (p.1, d) else p)) y = (dget kvs y).map fun e => if keyD k = some y then d else e
  | [] => rfl
  | (k0, d0) :: r => by
    rw [List.map_cons]
    by_cases h1 : keyD k0 = keyD k
    · simp only [h1, if_true]
      unfold dget
      rw [dget_map r, h1]
      by_cases h2 : keyD k = some y
      · simp [h2]
      · simp [h2]
    · simp only [h1, if_false]
      unfold dget
      rw [dget_map r]
      by_cases h2 : keyD k0 = some y
      · have : ¬ keyD k = some y := fun z => h1 (h2.trans z.symm)
        simp [h2, this]
      · simp [h2]
theorem dget_cons {k d : D} {r : List (D × D)} {y : Key} : dget ((k, d) :: r) y = if keyD k = some y then some d else dget r y := rfl
theorem dget_none {k : D} {y : Key} (hk : keyD k = some y) : ∀ kvs : List (D × D), (kvs.any fun p => decide (keyD p.1 = keyD k)) = (dget kvs y).isSome
  | [] => rfl
  | (k0, d0) :: r => by
    rw [List.any_cons, dget_none hk r, dget_cons, hk]
    by_cases h : keyD k0 = some y <;> simp [h]
theorem dget_append {y : Key} : ∀ (kvs : List (D × D)) (l : List (D × D)), dget (kvs ++ l) y = match dget kvs y with | some d => some d | none => dget l y
  | [], l => rfl
  | (k0, d0) :: r, l => by
    rw [List.cons_append, dget_cons, dget_cons]
    by_cases h : keyD k0 = some y
    · simp [h]
    · simp only [h, if_false]
      exact dget_append r l
theorem dget_put {kvs : List (D × D)} {k d : D} {y z : Key} (hk : keyD k = some z) : dget (dput kvs k d) y = if z = y then some d else dget kvs y := by
  unfold dput
  rw [dget_none hk]
  by_cases h : z = y
  · subst h
    cases e : dget kvs z with
    | none =>
      simp only [Option.isSome_none, Bool.false_eq_true, if_false, if_true]
      rw [dget_append, e]
      simp [dget, hk]
    | some d0 =>
      simp only [Option.isSome_some, if_true]
      rw [dget_map, e]
      simp [hk]
  · cases e : dget kvs z with
    | none =>
      simp only [Option.isSome_none, Bool.false_eq_true, if_false, h]
      rw [dget_append]
      cases dget kvs y with
      | none => simp [dget, hk, h]
      | some _ => rfl
    | some d0 =>
      simp only [Option.isSome_some, if_true, h, if_false]
      rw [dget_map, hk]
      simp [h]
def kvSI (p : String × Int) : D × D := (.str p.1, .int p.2)
theorem kvOf_SI : ∀ l : List (String × Int), kvOf (l.map fun p => D.tup [.str p.1, .int p.2]) = some (l.map kvSI)
  | [] => rfl
  | p :: l => by
    rw [List.map_cons]
    unfold kvOf
    simp only [keyD, kvOf_SI l]
    rfl
theorem dmerge_SI : ∀ (l : List (String × Int)) (acc : List (D × D)), (∀ p ∈ acc, KvOk p) → (∀ p ∈ l, p.1.length ≤ 1000 ∧ p.2.natAbs < 2 ^ 30) →
    (∀ p ∈ dmerge acc (l.map kvSI), KvOk p) ∧ (dmerge acc (l.map kvSI)).length ≤ acc.length + l.length
  | [], acc, h, _ => ⟨h, Nat.le_refl _⟩
  | p :: l, acc, h, hl => by
    have a := hl p (List.mem_cons_self ..)
    obtain ⟨b, c⟩ := dmerge_SI l (dput acc (.str p.1) (.int p.2)) (dput_ok h a.1 a.2) fun q hq => hl q (List.mem_cons_of_mem _ hq)
    refine ⟨b, ?_⟩
    have d := dput_len acc (.str p.1) (.int p.2)
    show (dmerge (dput acc (.str p.1) (.int p.2)) (l.map kvSI)).length ≤ _
    simp only [List.length_cons]
    omega
theorem dget_merge {s : String} (P : Int → Prop) : ∀ (l : List (String × Int)) (acc : List (D × D)), (∀ p ∈ l, P p.2) → (s ∈ l.map (·.1) ∨ ∃ v, dget acc (.inr s) = some (.int v) ∧ P v) → ∃ v, dget (dmerge acc (l.map kvSI)) (.inr s) = some (.int v) ∧ P v
  | [], acc, _, h => by
    rcases h with h | h
    · cases h
    · exact h
  | p :: l, acc, hP, h => by
    show ∃ v, dget (dmerge (dput acc (.str p.1) (.int p.2)) (l.map kvSI)) (.inr s) = some (.int v) ∧ P v
    refine dget_merge P l _ (fun q hq => hP q (List.mem_cons_of_mem _ hq)) ?_
    by_cases e : p.1 = s
    · subst e
      exact .inr ⟨p.2, by rw [dget_put (z := .inr p.1) rfl]; simp, hP p (List.mem_cons_self ..)⟩
    · rcases h with h | ⟨v, h1, h2⟩
      · rw [List.map_cons, List.mem_cons] at h
        rcases h with h | h
        · exact absurd h.symm e
        · exact .inl h
      · refine .inr ⟨v, ?_, h2⟩
        rw [dget_put (z := .inr p.1) rfl, if_neg (by simpa using e)]
        exact h1
theorem chars_small (s : String) : ((Str.ofString s).cps.toList.all fun c => decide (c < 16 ^ 8)) = true := by
  rw [PyProof.Rows.signs_ofString, List.all_eq_true]
  intro c hc
  obtain ⟨x, _, rfl⟩ := List.mem_map.mp hc
  have h : x.val.toNat < 2 ^ 32 := x.val.toNat_lt
  exact decide_eq_true h
theorem kvPy_ok : ∀ {kvs : List (D × D)}, (∀ p ∈ kvs, KvOk p) → ∃ ps, kvPy kvs = some ps ∧ PyData.showableKv ps = true ∧ PyData.depthKv ps ≤ 1 ∧ PyData.leavesShortKv 13 ps = true ∧ PyData.weightKv ps ≤ 2000 * kvs.length
  | [], _ => ⟨[], rfl, by simp [PyData.showableKv], by simp [PyData.depthKv], by simp [PyData.leavesShortKv], by simp [PyData.weightKv]⟩
  | p :: kvs, h => by
    obtain ⟨s, v, rfl, hs, hv⟩ := h _ (List.mem_cons_self ..)
    obtain ⟨ps, e, a, b, c, d⟩ := kvPy_ok fun q hq => h q (List.mem_cons_of_mem _ hq)
    refine ⟨(.str s, .int v) :: ps, ?_, ?_, ?_, ?_, ?_⟩
    · unfold kvPy
      simp only [keyD, toPy, scV, e]
    · have := log2_lt hv (by omega)
      simp [PyData.showableKv, PyData.showable, a]
      omega
    · simp [PyData.depthKv, PyData.depth]
      omega
    · have y : (PyData.shown (.int v)).length ≤ 13 := PyData.shown_int_le (by omega)
      have z := chars_small s
      simp [PyData.leavesShortKv, PyData.leavesShort, c, y]
      simpa using z
    · have z : (Str.ofString s).cps.size = s.length := ofS_len s
      have := log2_lt hv (by omega)
      simp only [PyData.weightKv, PyData.weight, z, List.length_cons]
      split <;> omega

theorem repr_SI {kvs : List (D × D)} (h : ∀ p ∈ kvs, KvOk p) (hl : kvs.length ≤ 500) : ∃ x : Str, bRepr (.dct kvs) = some (.v (.str x)) := by
  obtain ⟨ps, e, a, b, c, d⟩ := kvPy_ok h
  refine ⟨(PyData.dict ps).shown, ?_⟩
  have c1 : (PyData.dict ps).showable = true := a
  have c2 : (PyData.dict ps).depth ≤ 64 := by simp [PyData.depth]; omega
  have c3 : (PyData.dict ps).shown.length ≤ lim := by
    rw [lim_eq]
    refine PyData.shown_fits (B := 13) (by omega) (by omega) (by simpa [PyData.leavesShort] using c) ?_
    simp only [PyData.weight]
    omega
  unfold bRepr
  simp only [pyR, e, Option.map_some, Option.bind_some]
  simp [c1, c2, c3, vS]
end
end PM

/-! PM17: a starred target; tuples, numbers, texts that stand in the module. -/
namespace PM
open PySem L2
noncomputable section

def restL {α : Type} (n i : Nat) (xs : List α) : List α := (xs.drop i).take (xs.length + 1 - n)
def lastL {α : Type} (n i : Nat) (xs : List α) : List α := (xs.drop i).drop (xs.length + 1 - n)
def gStar (K : PySem.W.Frag) (n i : Nat) (t : TGs) : TG := fun v σ H Q => ∃ a xs, v = .ref a ∧ (SqT K H a xs ∨ SqL K H a xs) ∧ n ≤ xs.length + 1 ∧ xs.length ≤ 16384 ∧
  ∀ p, H p = none → t (xs.take i ++ [.ref p] ++ lastL n i xs) σ (upd H p (.lst (restL n i xs))) Q
open PySem.Spec PyProof.Rows in
/-- behind the unpacking: one new list, all else as it was, the frame's dict by its map -/
theorem star_inv {X : Cx} {pins : List (Addr × Obj)} {σ : L2.St} {H : Hp} {s : Shared} {m : Str → Option Value} {p : Addr} {ms : List V} {us : List Value} {h' : Heap} {tk : Nat} (I : Inv X pins σ H s) (hm : s.heap.Ns X.env.locals m)
    (F : Fr (Att.noObjs s.heap) X.env.locals h' m) (N : News (Att.noObjs s.heap) X.env.locals h' ((p, { cls := .type "list", data := .seq us.toArray 0 }) :: Att.ledger s.heap X.env.locals X.env.locals))
    (hp : ∀ q ∈ Att.ledger s.heap X.env.locals X.env.locals, q.1 < p) (r : Vals ms us) (hz : ms.length ≤ sizeLine) : H p = none ∧ Inv X pins σ (upd H p (.lst ms)) { s with heap := h', toks := tk } := by
  have keep : ∀ b o, b ≠ X.env.locals → s.heap.get? b = some o → h'.get? b = some o := fun b o nb e => (N (b, o) (List.mem_cons_of_mem _ (Att.mem_ledger.mpr ⟨nb, nb, e⟩))).1
  have neL : p ≠ X.env.locals := (N _ (List.mem_cons_self ..)).2.1
  have old : ∀ b o, s.heap.get? b = some o → b ≠ p := by
    intro b o e z
    subst z
    exact absurd (hp (b, o) (Att.mem_ledger.mpr ⟨neL, neL, e⟩)) (Nat.lt_irrefl _)
  have np : H p = none := by
    cases q : H p with
    | none => rfl
    | some u =>
      have hl := (I.hok p u q).lt
      by_cases z : ∃ o, s.heap.get? p = some o
      · obtain ⟨o, e⟩ := z
        exact absurd rfl (old p o e)
      · exfalso
        have x := I.hok p u q
        have : ∀ (u : HO), ObjOk X.prog X.w H s.heap p u → ∃ o, s.heap.get? p = some o := by
          intro u
          induction u with
          | lst xs => rintro ⟨_, _, _, _, e⟩; exact ⟨_, e⟩
          | tup xs => rintro ⟨_, _, _, _, e, _⟩; exact ⟨_, e⟩
          | dK kvs => rintro ⟨_, _, _, _, _, _, _, e, _⟩; exact ⟨_, e⟩
          | dT kvs => rintro ⟨_, _, _, _, _, _, _, e, _⟩; exact ⟨_, e⟩
          | set S n => rintro ⟨_, _, _, _, e, _⟩; exact ⟨_, e⟩
          | ins C dx fs => rintro ⟨_, _, _, e, _⟩; exact ⟨_, e⟩
          | own y => rintro ⟨_, e⟩; exact ⟨_, e⟩
          | xd fs => rintro ⟨_, ⟨_, _, _, e, _⟩, _⟩; exact ⟨_, e⟩
          | rng lo hi => rintro ⟨_, _, _, e⟩; exact ⟨_, e⟩
          | frz ob u ih => rintro ⟨e, _⟩; exact ⟨_, e⟩
          | tbl ps => intro e; exact ⟨_, e⟩
          | met f y => intro e; exact ⟨_, e⟩
          | ext φ => rintro ⟨_, e, _⟩; exact e
        exact z (this u x)
  refine ⟨np, I.step (g' := s.gens) (d' := s.drawn) (ch := []) (fun _ z => nomatch z) (fun b o nb _ _ e _ => keep b o nb e) (fun b o nb _ _ e _ => ⟨o.slots, keep b o nb e⟩) ?_ ?_ ?_ ?_ ?_ ?_ ?_ I.bare⟩
  · intro b o _ e n
    rw [upd_ne (old b o e)]
    exact n
  · intro b o _ e
    by_cases hb : b = X.env.locals
    · subst hb
      obtain ⟨o', _, _, e', _⟩ := F.ns
      exact ⟨o', e'⟩
    · exact ⟨o, keep b o hb e⟩
  · intro b xs e
    rw [upd_ne (ne_of_none e np)]
    exact e
  · intro b o u e
    rw [upd_ne (ne_of_none e np)]
    exact e
  · intro b ps e
    exact ⟨#[], by rw [upd_ne (ne_of_none e np), Array.append_empty]; exact e⟩
  · intro m2 h2
    have e : m2 = m := by
      funext y
      obtain ⟨o1, es1, ep1, a1, b1, _, c1⟩ := h2
      obtain ⟨o2, es2, ep2, a2, b2, _, c2⟩ := hm
      rw [a1] at a2
      cases a2
      rw [b1] at b2
      cases b2
      rw [← c1 y, c2 y]
    rw [e]
    exact F.ns
  · intro b u e
    by_cases hb : b = p
    · subst hb
      rw [upd_same] at e
      cases e
      exact ⟨hz, us, 0, r, (N _ (List.mem_cons_self ..)).1⟩
    · rw [upd_ne hb] at e
      refine (I.hok b u e).stay (fun c v hc q => keep c v (fun z => ?_) q) (fun c q => by rw [upd_ne (ne_of_none q np)]; exact q) fun c xs q => by rw [upd_ne (ne_of_none q np)]; exact q
      subst z
      rcases hc with z | z
      · subst z; rw [I.free] at e; cases e
      · rw [I.free] at z; cases z
open PySem.Spec PyProof.Rows in
theorem pg_star {X : Cx} {es : List Expr} {k n i : Nat} {pos : Pos} {t : TGs} (hc : X.calm = true) (h : PGs X es t) (hn : (assignEach es X.env).length = n := by rfl) (hst : (assignEach es X.env).findIdx? (·.1) = some i := by rfl) (hi : i < n := by decide) : PG X (.Tuple es k pos) (gStar X.K n i t) := by
  refine ⟨fun pins s σ H v u Q I r hw => ?_⟩
  obtain ⟨a, xs, rfl, hq, h1, h2, hw⟩ := hw
  cases r
  obtain ⟨m, hm, _⟩ := id I.loc
  have F0 : Fr (Att.noObjs s.heap) X.env.locals s.heap m := Att.fr_all hm
  have N0 : News (Att.noObjs s.heap) X.env.locals s.heap (Att.ledger s.heap X.env.locals X.env.locals) := by
    rintro ⟨b, o⟩ hb
    obtain ⟨x, _, e⟩ := Att.mem_ledger.mp hb
    exact ⟨e, x, Att.noObjs_get _ _⟩
  have fin : ∀ (its : List Value), Vals xs its → ∀ D h' tk, Fr (Att.noObjs s.heap) X.env.locals h' m → News (Att.noObjs s.heap) X.env.locals h' ((D, { cls := .type "list", data := .seq (restL n i its).toArray 0 }) :: Att.ledger s.heap X.env.locals X.env.locals) →
      (∀ p ∈ Att.ledger s.heap X.env.locals X.env.locals, p.1 < D) → wpAny (model X.prog X.w) X.A (assignInOrder ((assignEach es X.env).map (·.2)) (its.take i ++ [.ref D] ++ lastL n i its)) (fun _ s' => ∃ σ' H', Inv X pins σ' H' s' ∧ Q σ' H') X.xe { s with heap := h', toks := tk } := by
    intro its rv D h' tk F N l1
    have el := rv.length
    have rm : Vals (restL n i xs) (restL n i its) := by
      unfold restL
      rw [el]
      exact (rv.drop i).take _
    obtain ⟨nD, I'⟩ := star_inv (tk := tk) I hm F N l1 rm (by
      unfold restL
      rw [List.length_take, List.length_drop, sizeLine_eq]
      omega)
    refine h.run pins _ σ _ _ _ Q I' ?_ (hw D nD)
    have r3 : Vals (lastL n i xs) (lastL n i its) := by
      unfold lastL
      rw [el]
      exact (rv.drop i).drop _
    exact ((rv.take i).append (.cons (show RelV (V.ref D) (Value.ref D) from rfl) .nil)).append r3
  rcases hq with hq | hq
  · obtain ⟨its, rv, ht, hz⟩ := I.tuple hq
    have el := rv.length
    exact PySem.W.kun_assignT F0 N0 ht (I.ok.hd hc) hn hst hi (by rw [List.size_toArray]; omega) (by rw [List.size_toArray]; omega) (by simp) (by simp [restL]) (by simp [lastL]) (fin its rv)
  · obtain ⟨its, rv, pl, hz⟩ := I.list hq
    have el := rv.length
    exact PySem.W.kun_assignL F0 N0 pl.isList (I.ok.hd hc) hn hst hi (by rw [List.size_toArray]; omega) (by rw [List.size_toArray]; omega) (by simp) (by simp [restL]) (by simp [lastL]) (fin its rv)

section
variable {W : Wd} {C : Con} {Wx : WX} {X : Cx} {k : Nat} {g g0 : Gh} {H H0 : Hp} {σ : L2.St} {sl : Sl} {vh : VH} {φ ψ χ : EF} {pos : Pos}
theorem pgs_consS {e : Expr} {es : List Expr} {t : TG} {u : TGs} {p : Pos} (h1 : PG X e t) (h2 : PGs X es u)
    (hs : (assignEach (.Starred e p :: es) X.env).map (·.2) = assign e X.env :: (assignEach es X.env).map (·.2) := by rfl) : PGs X (.Starred e p :: es) (gCons t u) := by
  refine ⟨fun pins s σ H vs us Q I r hh => ?_⟩
  obtain ⟨v, vr, e1, hh⟩ := hh
  subst e1
  cases r with
  | cons r rr =>
    rw [hs]
    refine PyProof.Rows.assignInOrder_cons (thn (h1.run pins s σ H _ _ _ I r hh) ?_)
    rintro _ s1 ⟨σ1, H1, I1, q1⟩
    exact h2.run pins s1 σ1 H1 _ _ Q I1 rr q1
theorem gcons_imp {tg : TG} {tgs : TGs} {γ : GF} {γs : GFs} {ix js : List Nat} (e1 : tg = TDG W γ ix) (e2 : tgs = TDGs W γs js) {vs : List V} {Q : L2.St → Hp → Prop} (t : TDGs W (gsCons γ γs) (ix ++ js) vs σ H Q) : gCons tg tgs vs σ H Q := by
  subst e1 e2
  obtain ⟨C, g, sl, vh, ds, h, hs, r, q⟩ := t
  cases ds with
  | nil => exact q.elim
  | cons d ds =>
    simp only [Reps] at r
    obtain ⟨v1, vr, rfl, r1, r2⟩ := r
    refine ⟨v1, vr, rfl, C, g, sl, vh, d, h, hs, r1, ?_⟩
    simp only [gsCons] at q
    cases e : γ d sl vh with
    | none => rw [e] at q; exact q.elim
    | some p =>
      obtain ⟨sl', vh'⟩ := p
      rw [e] at q
      intro g1 H1 σ1 h1 s1 x1 w1
      refine ⟨C, g1, sl', vh', ds, h1, s1, Reps.mono x1 _ _ r2, ?_⟩
      dsimp only at q
      cases e2 : γs ds sl' vh' with
      | none => rw [e2] at q; exact q.elim
      | some p2 =>
        obtain ⟨sl2, vh2⟩ := p2
        rw [e2] at q
        exact fun g2 H2 σ2 h2 s2 x2 w2 => q g2 H2 σ2 h2 s2 (x1.trans x2) fun vs hv => (w2 vs fun i hi => hv i (List.mem_append_right _ hi)).trans (w1 vs fun i hi => hv i (List.mem_append_left _ hi))
theorem dgs_star {tg : Expr} {tgs : List Expr} {γ : GF} {γs : GFs} {ix js : List Nat} {p : Pos} (h1 : DG W X tg γ ix) (h2 : DGs W X tgs γs js) (hs : (assignEach (.Starred tg p :: tgs) X.env).map (·.2) = assign tg X.env :: (assignEach tgs X.env).map (·.2) := by rfl) :
    DGs W X (.Starred tg p :: tgs) (gsCons γ γs) (ix ++ js) := pgs_imp (pgs_consS h1 h2 hs) fun v σ H Q t => gcons_imp rfl rfl t
/-- the rest by value, or laid -/
def gStr (n i : Nat) (γs : GFs) : GF := fun d sl vh => match view vh d with
  | .tup xs => if n ≤ xs.length + 1 ∧ xs.length ≤ 16384 then γs (xs.take i ++ [.lst (restL n i xs)] ++ lastL n i xs) sl vh else none
  | .lst xs => if n ≤ xs.length + 1 ∧ xs.length ≤ 16384 then γs (xs.take i ++ [.lst (restL n i xs)] ++ lastL n i xs) sl vh else none
  | _ => none
def gStrH (n i : Nat) (γs : GFs) : GF := fun d sl vh => match view vh d with
  | .tup xs => if n ≤ xs.length + 1 ∧ xs.length ≤ 16384 then γs (xs.take i ++ [.ref vh.length] ++ lastL n i xs) sl (vh ++ [.lst (restL n i xs)]) else none
  | .lst xs => if n ≤ xs.length + 1 ∧ xs.length ≤ 16384 then γs (xs.take i ++ [.ref vh.length] ++ lastL n i xs) sl (vh ++ [.lst (restL n i xs)]) else none
  | _ => none
theorem PostG.from {ix : List Nat} {g g' : Gh} {H H' : Hp} {r : Option (Sl × VH)} {Q : L2.St → Hp → Prop} (x : Ext g H g' H') (q : PostG W C ix g H σ r Q) : PostG W C ix g' H' σ r Q := by
  cases r with
  | none => exact q
  | some p => exact fun g2 H2 σ2 h2 s2 x2 w2 => q g2 H2 σ2 h2 s2 (x.trans x2) w2
theorem star_items {n i : Nat} {xs : List D} {vs : List V} {d : D} {v : V} (r : Reps W g H xs vs) (rd : Rep W g H d v) : Reps W g H (xs.take i ++ [d] ++ lastL n i xs) (vs.take i ++ [v] ++ lastL n i vs) := by
  unfold lastL
  rw [r.length]
  exact ((r.take i).append (Reps.one rd)).append ((r.drop i).drop _)
theorem dg_star {es : List Expr} {kk : Nat} {γs : GFs} {n i : Nat} {ix : List Nat} (cz : Cz W Wx k X) (h : DGs W X es γs ix) (hn : (assignEach es X.env).length = n := by rfl) (hst : (assignEach es X.env).findIdx? (·.1) = some i := by rfl) (hi : i < n := by decide) :
    DG W X (.Tuple es kk pos) (gStr n i γs) ix :=
  pg_imp (pg_star cz.calm h hn hst hi) fun v σ H Q ⟨C, g, sl, vh, d, h, hs, r, q⟩ => by
    have rx := h.view r
    unfold gStr at q
    have fin : ∀ (a : Addr) (xs : List D) (vs : List V), v = .ref a → (SqT X.K H a vs ∨ SqL X.K H a vs) → Reps W g H xs vs → PostG W C ix g H σ (if n ≤ xs.length + 1 ∧ xs.length ≤ 16384 then γs (xs.take i ++ [.lst (restL n i xs)] ++ lastL n i xs) sl vh else none) Q →
        gStar X.K n i (TDGs W γs ix) v σ H Q := by
      rintro a xs vs rfl t rr q
      split at q
      · rename_i hc
        refine ⟨a, vs, rfl, t, by rw [← rr.length]; exact hc.1, by rw [← rr.length]; exact hc.2, fun p np => ?_⟩
        have rm : Reps W g H (restL n i xs) (restL n i vs) := by
          unfold restL
          rw [rr.length]
          exact (rr.drop i).take _
        have x := (Ext.new (u := .lst (restL n i vs)) h np).trans (Ext.add g _ p)
        refine ⟨C, g.add p, sl, vh, _, h.addv np, hs.mono x, star_items (Reps.mono x _ _ rr) ?_, q.from x⟩
        simp only [Rep]
        exact ⟨p, _, rfl, .inr rfl, upd_same, Reps.mono x _ _ rm⟩
      · exact q.elim
    cases e : view vh d with
    | tup xs =>
      rw [e] at q rx
      obtain ⟨a, vs, rfl, t, rr⟩ := rx.tup
      exact fin a xs vs rfl (.inl (by rw [cz.K]; exact t)) rr q
    | lst xs =>
      rw [e] at q rx
      obtain ⟨a, vs, rfl, t, rr⟩ := rx.lst
      exact fin a xs vs rfl (.inr (SqL.of t)) rr q
    | _ => rw [e] at q; exact q.elim
theorem dg_starH {es : List Expr} {kk : Nat} {γs : GFs} {n i : Nat} {ix : List Nat} (cz : Cz W Wx k X) (h : DGs W X es γs ix) (hn : (assignEach es X.env).length = n := by rfl) (hst : (assignEach es X.env).findIdx? (·.1) = some i := by rfl) (hi : i < n := by decide) :
    DG W X (.Tuple es kk pos) (gStrH n i γs) ix :=
  pg_imp (pg_star cz.calm h hn hst hi) fun v σ H Q ⟨C, g, sl, vh, d, h, hs, r, q⟩ => by
    have rx := h.view r
    unfold gStrH at q
    have fin : ∀ (a : Addr) (xs : List D) (vs : List V), v = .ref a → (SqT X.K H a vs ∨ SqL X.K H a vs) → Reps W g H xs vs → PostG W C ix g H σ (if n ≤ xs.length + 1 ∧ xs.length ≤ 16384 then γs (xs.take i ++ [.ref vh.length] ++ lastL n i xs) sl (vh ++ [.lst (restL n i xs)]) else none) Q →
        gStar X.K n i (TDGs W γs ix) v σ H Q := by
      rintro a xs vs rfl t rr q
      split at q
      · rename_i hc
        refine ⟨a, vs, rfl, t, by rw [← rr.length]; exact hc.1, by rw [← rr.length]; exact hc.2, fun p np => ?_⟩
        have rm : Reps W g H (restL n i xs) (restL n i vs) := by
          unfold restL
          rw [rr.length]
          exact (rr.drop i).take _
        have x1 := Ext.new (u := .lst (restL n i vs)) h np
        obtain ⟨g2, h2, x2, r2⟩ := RepE.lay (h.new np) (new_lst h np rm)
        exact ⟨C, g2, sl, _, _, h2, hs.mono (x1.trans x2), star_items (Reps.mono (x1.trans x2) _ _ rr) r2, q.from (x1.trans x2)⟩
      · exact q.elim
    cases e : view vh d with
    | tup xs =>
      rw [e] at q rx
      obtain ⟨a, vs, rfl, t, rr⟩ := rx.tup
      exact fin a xs vs rfl (.inl (by rw [cz.K]; exact t)) rr q
    | lst xs =>
      rw [e] at q rx
      obtain ⟨a, vs, rfl, t, rr⟩ := rx.lst
      exact fin a xs vs rfl (.inr (SqL.of t)) rr q
    | _ => rw [e] at q; exact q.elim
end

/-! ### the module's values -/
mutual
def valB (K : PySem.W.Frag) : D → Value → Bool
  | .non, .none => true
  | .bl b, .bool c => b == c
  | .int i, .int j _ => decide (i = j)
  | .str x, .str y _ => decide (x = y)
  | .tup ds, .ref a => (match K.lookup a with
    | some ⟨.type c, _, .seq its _, _⟩ => decide (c = "tuple") && (decide (its.size ≤ 16777216) && valsB K ds its.toList)
    | _ => false)
  | _, _ => false
def valsB (K : PySem.W.Frag) : List D → List Value → Bool
  | [], [] => true
  | d :: ds, u :: us => valB K d u && valsB K ds us
  | _, _ => false
end
mutual
theorem valB_ok {K : PySem.W.Frag} : ∀ {d : D} {u : Value}, valB K d u = true → ∃ v, RelV v u ∧ ∀ (W : Wd) (g : Gh) (H : Hp), W.K = K → Rep W g H d v
  | .non, u, h => by
    cases u <;> try (simp [valB] at h; done)
    exact ⟨.non, rfl, fun W g H _ => by simp only [Rep]⟩
  | .bl b, u, h => by
    cases u <;> try (simp [valB] at h; done)
    simp only [valB, beq_iff_eq] at h
    subst h
    exact ⟨.bl b, rfl, fun W g H _ => by simp only [Rep]⟩
  | .int i, u, h => by
    cases u <;> try (simp [valB] at h; done)
    simp only [valB, decide_eq_true_eq] at h
    subst h
    exact ⟨.int i, ⟨_, rfl⟩, fun W g H _ => by simp only [Rep]⟩
  | .str i, u, h => by
    cases u <;> try (simp [valB] at h; done)
    simp only [valB, decide_eq_true_eq] at h
    subst h
    exact ⟨.str i, ⟨_, rfl⟩, fun W g H _ => by simp only [Rep]⟩
  | .tup ds, u, h => by
    cases u <;> try (simp [valB] at h; done)
    rename_i a
    simp only [valB] at h
    cases q : K.lookup a with
    | none => rw [q] at h; cases h
    | some o =>
      rw [q] at h
      obtain ⟨oc, od, dt, osl⟩ := o
      cases oc with
      | type c =>
        cases dt with
        | seq its n =>
          dsimp only at h
          simp only [Bool.and_eq_true, decide_eq_true_eq] at h
          obtain ⟨h1, h2, h3⟩ := h
          obtain ⟨vs, rv, rr⟩ := valsB_ok h3
          refine ⟨.ref a, rfl, fun W g H hK => ?_⟩
          simp only [Rep]
          refine ⟨a, vs, rfl, .inr (.inr ?_), rr W g H hK⟩
          rw [hK]
          exact ⟨_, its, n, q, congrArg Value.type h1, rfl, by rw [← lim_eq, lim_val]; exact h2, rv⟩
        | _ => cases h
      | _ => cases dt <;> cases h
  | .lst _, u, h => by cases u <;> simp [valB] at h
  | .dct _, u, h => by cases u <;> simp [valB] at h
  | .st _, u, h => by cases u <;> simp [valB] at h
  | .ins _ _, u, h => by cases u <;> simp [valB] at h
  | .ref _, u, h => by cases u <;> simp [valB] at h
  | .fn _, u, h => by cases u <;> simp [valB] at h
  | .cls _, u, h => by cases u <;> simp [valB] at h
  | .ty _, u, h => by cases u <;> simp [valB] at h
  | .scr _, u, h => by cases u <;> simp [valB] at h
theorem valsB_ok {K : PySem.W.Frag} : ∀ {ds : List D} {us : List Value}, valsB K ds us = true → ∃ vs, Vals vs us ∧ ∀ (W : Wd) (g : Gh) (H : Hp), W.K = K → Reps W g H ds vs
  | [], us, h => by
    cases us with
    | nil => exact ⟨[], .nil, fun W g H _ => Reps.nil⟩
    | cons _ _ => simp [valsB] at h
  | d :: ds, us, h => by
    cases us with
    | nil => simp [valsB] at h
    | cons u us =>
      simp only [valsB, Bool.and_eq_true] at h
      obtain ⟨v, r1, q1⟩ := valB_ok h.1
      obtain ⟨vs, r2, q2⟩ := valsB_ok h.2
      exact ⟨v :: vs, .cons r1 r2, fun W g H e => Reps.cons (q1 W g H e) (q2 W g H e)⟩
end
/-- what a name of the module stands for -/
def GlV (K : PySem.W.Frag) (mg : Str → Option Value) (x : Str) (d : D) : Prop := ∃ u v, mg x = some u ∧ RelV v u ∧ ∀ (W : Wd) (g : Gh) (H : Hp), W.K = K → Rep W g H d v
def glB (K : PySem.W.Frag) (x : Str) (d : D) : Bool := match PySem.W.nsIn K mainGlobals x with
  | some (some u) => valB K d u
  | _ => false
theorem glV_of {K : PySem.W.Frag} {h : Heap} {mg : Str → Option Value} {x : Str} {d : D} (X : K.In h) (G : h.Ns mainGlobals mg) (c : glB K x d = true) : GlV K mg x d := by
  unfold glB at c
  cases q : PySem.W.nsIn K mainGlobals x with
  | none => rw [q] at c; cases c
  | some o =>
    cases o with
    | none => rw [q] at c; cases c
    | some u =>
      rw [q] at c
      obtain ⟨v, r, rr⟩ := valB_ok c
      exact ⟨u, v, PySem.W.mg_of X G q, r, rr⟩
theorem de_glv {W : Wd} {Wx : WX} {X : Cx} {x : Str} {p : Pos} {d : D} (hK : X.K = W.K) (hg : Gl X x) (c : GlV W.K X.mg x d) (hd : (x == ("__debug__" : Str)) = false := by decide) : DE W Wx X (.Name x p) (eCon d) := by
  obtain ⟨u, v, e, r, rr⟩ := c
  exact de_con (pe_glob hg e r hd) fun g H => rr W g H rfl

theorem ex_at {l : List (PySem.W.Frag → Bool)} {K : PySem.W.Frag} (h : (l.all fun f => f K) = true) (i : Nat) {f : PySem.W.Frag → Bool} (e : l[i]? = some f) : f K = true :=
  List.all_eq_true.mp h f (List.mem_of_getElem? e)
/-! ### all, any -/
def blsOf : List D → Option (List Bool)
  | [] => some []
  | .bl b :: r => (blsOf r).map (b :: ·)
  | _ => none
def bAll : D → Option EV
  | .lst xs => (blsOf xs).map fun bs => .v (.bl (bs.all id))
  | _ => none
def bAny : D → Option EV
  | .lst xs => (blsOf xs).map fun bs => .v (.bl (bs.any id))
  | _ => none
section
variable {W : Wd} {C : Con} {Wx : WX} {X : Cx} {k : Nat} {g g0 : Gh} {H H0 : Hp} {σ : L2.St} {sl : Sl} {vh : VH} {φ ψ χ : EF} {pos p0 : Pos} {a b : Expr}
theorem blsOf_rep : ∀ {xs : List D} {vs : List V} {bs : List Bool}, Reps W g H xs vs → blsOf xs = some bs → vs = bs.map V.bl
  | [], vs, bs, r, e => by simp only [Reps] at r; simp only [blsOf, Option.some.injEq] at e; subst r e; rfl
  | x :: xs, vs, bs, r, e => by
    simp only [Reps] at r
    obtain ⟨v, vr, rfl, r1, r2⟩ := r
    cases x with
    | bl b =>
      simp only [blsOf, Option.map_eq_some_iff] at e
      obtain ⟨l, e1, rfl⟩ := e
      rw [blsOf_rep r2 e1]
      simp only [Rep] at r1
      rw [r1]
      rfl
    | _ => cases e
theorem p_all (hK : X.K = W.K) : Prim1 W X (fun x H Q => ∃ (a : Addr) (bs : List Bool), [x] = [V.ref a] ∧ SqL X.K H a (bs.map V.bl) ∧ Q (.bl (bs.all id)) H) bAll := by
  intro C g H vh dx x Q h rx q s
  cases dx <;> try (simp [bAll] at s; done)
  obtain ⟨a, vs, rfl, h1, r1⟩ := rx.lst
  obtain ⟨bs, e⟩ := opt_map_some s
  have := blsOf_rep r1 e
  subst this
  exact ⟨a, bs, rfl, SqL.of h1, q (.v (.bl (bs.all id))) (by simp only [bAll, e, Option.map_some]) g H _ h (Ext.refl g H) (by simp only [RepE, Rep])⟩
theorem p_any (hK : X.K = W.K) : Prim1 W X (fun x H Q => ∃ (a : Addr) (bs : List Bool), [x] = [V.ref a] ∧ SqL X.K H a (bs.map V.bl) ∧ Q (.bl (bs.any id)) H) bAny := by
  intro C g H vh dx x Q h rx q s
  cases dx <;> try (simp [bAny] at s; done)
  obtain ⟨a, vs, rfl, h1, r1⟩ := rx.lst
  obtain ⟨bs, e⟩ := opt_map_some s
  have := blsOf_rep r1 e
  subst this
  exact ⟨a, bs, rfl, SqL.of h1, q (.v (.bl (bs.any id))) (by simp only [bAny, e, Option.map_some]) g H _ h (Ext.refl g H) (by simp only [RepE, Rep])⟩
theorem de_all (hK : X.K = W.K) (hc : X.calm = true) (hg : Gl X "all") (hm : X.mg "all" = none) (ha : DE W Wx X a φ) (he : starEach (a :: []) X.env = (false, eval a X.env) :: starEach [] X.env := by rfl) : DE W Wx X (.Call (.Name "all" p0) [a] [] pos) (e1 bAll φ) :=
  de_b1 (cr_all hc) (p_all hK) hg hm ha (he := he)
theorem de_any (hK : X.K = W.K) (hc : X.calm = true) (hg : Gl X "any") (hm : X.mg "any" = none) (ha : DE W Wx X a φ) (he : starEach (a :: []) X.env = (false, eval a X.env) :: starEach [] X.env := by rfl) : DE W Wx X (.Call (.Name "any" p0) [a] [] pos) (e1 bAny φ) :=
  de_b1 (cr_any hc) (p_any hK) hg hm ha (he := he)
end
end
end PM

/-! PM18: more rows to reckon by: lengths within bounds. -/
namespace PM
open PySem L2
noncomputable section
@[simp] theorem pT_0 : pTup [] = some (.v (.tup [])) := if_pos (by rw [lim_val]; exact Nat.le_of_ble_eq_true rfl)
@[simp] theorem pL_0 : pLst [] = some (.f (.lst [])) := if_pos (by rw [lim_val]; exact Nat.le_of_ble_eq_true rfl)
@[simp] theorem pT_1 {a0 : D} : pTup [a0] = some (.v (.tup [a0])) := if_pos (by rw [lim_val]; exact Nat.le_of_ble_eq_true rfl)
@[simp] theorem pL_1 {a0 : D} : pLst [a0] = some (.f (.lst [a0])) := if_pos (by rw [lim_val]; exact Nat.le_of_ble_eq_true rfl)
@[simp] theorem pT_2 {a0 a1 : D} : pTup [a0, a1] = some (.v (.tup [a0, a1])) := if_pos (by rw [lim_val]; exact Nat.le_of_ble_eq_true rfl)
@[simp] theorem pL_2 {a0 a1 : D} : pLst [a0, a1] = some (.f (.lst [a0, a1])) := if_pos (by rw [lim_val]; exact Nat.le_of_ble_eq_true rfl)
@[simp] theorem pT_3 {a0 a1 a2 : D} : pTup [a0, a1, a2] = some (.v (.tup [a0, a1, a2])) := if_pos (by rw [lim_val]; exact Nat.le_of_ble_eq_true rfl)
@[simp] theorem pL_3 {a0 a1 a2 : D} : pLst [a0, a1, a2] = some (.f (.lst [a0, a1, a2])) := if_pos (by rw [lim_val]; exact Nat.le_of_ble_eq_true rfl)
@[simp] theorem pT_4 {a0 a1 a2 a3 : D} : pTup [a0, a1, a2, a3] = some (.v (.tup [a0, a1, a2, a3])) := if_pos (by rw [lim_val]; exact Nat.le_of_ble_eq_true rfl)
@[simp] theorem pL_4 {a0 a1 a2 a3 : D} : pLst [a0, a1, a2, a3] = some (.f (.lst [a0, a1, a2, a3])) := if_pos (by rw [lim_val]; exact Nat.le_of_ble_eq_true rfl)
@[simp] theorem pT_5 {a0 a1 a2 a3 a4 : D} : pTup [a0, a1, a2, a3, a4] = some (.v (.tup [a0, a1, a2, a3, a4])) := if_pos (by rw [lim_val]; exact Nat.le_of_ble_eq_true rfl)
@[simp] theorem pL_5 {a0 a1 a2 a3 a4 : D} : pLst [a0, a1, a2, a3, a4] = some (.f (.lst [a0, a1, a2, a3, a4])) := if_pos (by rw [lim_val]; exact Nat.le_of_ble_eq_true rfl)
@[simp] theorem pT_6 {a0 a1 a2 a3 a4 a5 : D} : pTup [a0, a1, a2, a3, a4, a5] = some (.v (.tup [a0, a1, a2, a3, a4, a5])) := if_pos (by rw [lim_val]; exact Nat.le_of_ble_eq_true rfl)
@[simp] theorem pL_6 {a0 a1 a2 a3 a4 a5 : D} : pLst [a0, a1, a2, a3, a4, a5] = some (.f (.lst [a0, a1, a2, a3, a4, a5])) := if_pos (by rw [lim_val]; exact Nat.le_of_ble_eq_true rfl)
@[simp] theorem pT_7 {a0 a1 a2 a3 a4 a5 a6 : D} : pTup [a0, a1, a2, a3, a4, a5, a6] = some (.v (.tup [a0, a1, a2, a3, a4, a5, a6])) := if_pos (by rw [lim_val]; exact Nat.le_of_ble_eq_true rfl)
@[simp] theorem pL_7 {a0 a1 a2 a3 a4 a5 a6 : D} : pLst [a0, a1, a2, a3, a4, a5, a6] = some (.f (.lst [a0, a1, a2, a3, a4, a5, a6])) := if_pos (by rw [lim_val]; exact Nat.le_of_ble_eq_true rfl)
@[simp] theorem pT_8 {a0 a1 a2 a3 a4 a5 a6 a7 : D} : pTup [a0, a1, a2, a3, a4, a5, a6, a7] = some (.v (.tup [a0, a1, a2, a3, a4, a5, a6, a7])) := if_pos (by rw [lim_val]; exact Nat.le_of_ble_eq_true rfl)
@[simp] theorem pL_8 {a0 a1 a2 a3 a4 a5 a6 a7 : D} : pLst [a0, a1, a2, a3, a4, a5, a6, a7] = some (.f (.lst [a0, a1, a2, a3, a4, a5, a6, a7])) := if_pos (by rw [lim_val]; exact Nat.le_of_ble_eq_true rfl)
theorem le_lim {n : Nat} (h : n ≤ 16000000) : n ≤ lim := Nat.le_trans h (by rw [lim_val]; exact Nat.le_of_ble_eq_true rfl)
theorem lt_lim {n : Nat} (h : n < 16000000) : n < lim := Nat.lt_of_lt_of_le h (by rw [lim_val]; exact Nat.le_of_ble_eq_true rfl)
@[simp] theorem le_limS {n : Nat} (h : n ≤ 16000000) : (n ≤ lim) = True := eq_true (le_lim h)
@[simp] theorem lt_limS {n : Nat} (h : n < 16000000) : (n < lim) = True := eq_true (lt_lim h)
theorem o_mulL {l : List D} {k : Nat} (hk : k < 1000) (h : l.length * k ≤ 16000000) : opMul (.lst l) (.int k) = some (.f (.lst (List.replicate k l).flatten)) := by
  have e : (k : Int).toNat = k := Int.toNat_natCast k
  show (if (((k : Int) < 1000000 ∧ -1000000 < (k : Int)) ∧ l.length * (k : Int).toNat ≤ lim) then some (EV.f (.lst (List.replicate (k : Int).toNat l).flatten)) else none) = _
  rw [e, if_pos ⟨⟨by omega, by omega⟩, le_lim h⟩]
theorem lc0 {gd : Option (Nat × O)} {γ : GF} {τ : TF} {φ : EF} {sl : Sl} {acc : List D} {vh : VH} : lcLoop gd γ τ φ sl [] acc vh = if gdB gd vh = true then .ok acc vh else .bad := rfl
theorem lc1 {γ : GF} {φ : EF} {sl : Sl} {d : D} {ds acc : List D} {vh : VH} : lcLoop none γ tYesF φ sl (d :: ds) acc vh = (match γ d sl vh with
    | none => .bad
    | some (sl', vh1) => match φ sl' vh1 with
      | .ok e vh3 => if acc.length < lim then lcLoop none γ tYesF φ sl ds (acc ++ [e.d]) vh3 else .bad
      | _ => .bad) := by
  conv => lhs; unfold lcLoop
  simp only [x_gdN, if_true]
  cases γ d sl vh with
  | none => rfl
  | some p =>
    obtain ⟨a, b⟩ := p
    simp only [x_yes]
    all_goals (cases φ a b <;> rfl)
end
end PM

/-! PM19: instances: fields written, methods, making. -/
namespace PM
open PySem L2
noncomputable section

def fput (f : Str) (d : D) : List (Str × D) → List (Str × D)
  | [] => [(f, d)]
  | (g, x) :: r => if g = f then (g, d) :: r else (g, x) :: fput f d r
def ofld (fa : Nat → Str → Bool) (f : Str) (d : D) : O → Option O
  | .ins c fs => if fa c f = true ∧ fs.length < 1000 then some (.ins c (fput f d fs)) else none
  | _ => none
def dfst (fa : Nat → Str → Bool) (f : Str) (o d : D) (vh : VH) : Option VH := match o with
  | .ref n => (vh[n]?).bind fun u => (ofld fa f d u).map fun u' => vh.set n u'
  | _ => none
/-- o.f = .. -/
def gFld (fa : Nat → Str → Bool) (f : Str) (φ : EF) : GF := fun d sl vh => match φ sl vh with
  | .ok ev vh1 => (dfst fa f ev.d d vh1).map fun vh2 => (sl, vh2)
  | _ => none
section
variable {W : Wd} {C : Con} {Wx : WX} {X : Cx} {k : Nat} {g g0 : Gh} {H H0 : Hp} {σ : L2.St} {sl : Sl} {vh : VH} {φ ψ χ : EF} {δ ε : SF} {τ : TF} {pos : Pos} {e a b o : Expr} {st : Stmt} {rest : List Stmt} {fa : Nat → Str → Bool} {f : Str}
theorem RepFs.length : ∀ {fs : List (Str × D)} {ws : List (Str × V)}, RepFs W g H fs ws → fs.length = ws.length
  | [], ws, r => by simp only [RepFs] at r; subst r; rfl
  | (k, d) :: fs, ws, r => by
    simp only [RepFs] at r
    obtain ⟨v, s, rfl, _, h2⟩ := r
    simp [RepFs.length h2]
theorem RepFs.put {d : D} {v : V} (rd : Rep W g H d v) : ∀ {fs : List (Str × D)} {ws : List (Str × V)}, RepFs W g H fs ws → RepFs W g H (fput f d fs) (putF f v ws)
  | [], ws, r => by
    simp only [RepFs] at r
    subst r
    simp only [fput, putF, RepFs]
    exact ⟨v, [], rfl, rd, rfl⟩
  | (k, x) :: fs, ws, r => by
    simp only [RepFs] at r
    obtain ⟨w, s, rfl, h1, h2⟩ := r
    unfold fput putF
    by_cases hk : k = f
    · rw [if_pos hk, if_pos hk]
      simp only [RepFs]
      exact ⟨v, s, rfl, rd, h2⟩
    · rw [if_neg hk, if_neg hk]
      simp only [RepFs]
      exact ⟨w, _, rfl, h1, RepFs.put rd h2⟩
theorem dg_fld (T : Flds W X.K fa) (ha : DE W Wx X o φ) : DG W X (.Attribute o f pos) (gFld fa f φ) [] := by
  refine ⟨fun pins s σ H v u Q I r ⟨C, g, sl, vh, d, h, hs, rd, q⟩ => ?_⟩
  rw [assign_Attribute]
  have step : TDE W C Wx φ σ H (fun x H1 => ∃ n c dx gs, x = .ref (n : Addr) ∧ H1 n = some (.ins (W.cls c) dx gs) ∧ Cls X.K (W.cls c) ∧ NoAttr X.K (W.cls c) f ∧ gs.length < 1000 ∧ Q σ (upd H1 n (.ins (W.cls c) dx (putF f v gs)))) := by
    refine ⟨g, sl, vh, h, hs, ?_⟩
    unfold gFld at q
    cases e1 : φ sl vh with
    | bad => rw [e1] at q; exact q.elim
    | exc x vh' => rw [e1] at q; exact q.elim
    | ok ev vh1 =>
      rw [e1] at q
      intro g1 H1 v1 h1 s1 x1 r1
      obtain ⟨g2, h2, x2, r2⟩ := r1.freeze h1
      have xx := x1.trans x2
      have rd' := Rep.mono xx _ _ rd
      cases eo : ev.d with
      | ref n =>
        rw [eo] at r2
        simp only [Rep] at r2
        obtain ⟨hn, rfl⟩ := r2
        have hl : n < vh1.length := by rw [h2.len]; exact hn
        have ob := h2.vh n _ (List.getElem?_eq_getElem hl)
        simp only [eo, dfst, List.getElem?_eq_getElem hl, Option.bind_some] at q
        cases eu : vh1[n] with
        | ins c fs =>
          rw [eu] at q ob
          obtain ⟨dx, gs, o1, o2⟩ := ob
          simp only [ofld] at q
          split at q
          · rename_i hc
            obtain ⟨t1, t2⟩ := T.ok c f hc.1
            have xw := Ext.write (u := .ins (W.cls c) dx (putF f v gs)) h2 hn
            refine ⟨_, c, dx, gs, rfl, o1, t1, t2, by rw [← o2.length]; exact hc.2, ?_⟩
            exact q g2 _ σ (h2.write hn ⟨dx, _, upd_same, RepFs.mono xw _ _ (o2.put rd')⟩) ((s1.mono x2).mono xw) (xx.trans xw) fun _ _ => rfl
          · exact q.elim
        | _ => rw [eu] at q; exact q.elim
      | _ => simp only [eo, dfst] at q; exact q.elim
  refine wpAny_bind (wpAny_holding (thn ((ha C).run pins s σ H _ I step) fun ov s1 ⟨x, H1, I1, r1, n, c, dx, gs, ex, e1, t1, t2, hl, qq⟩ => ?_))
  subst ex
  obtain rfl : ov = Value.ref n := r1
  refine wpAny_bind (wpAny_standAt (wpAny_bind (wpAny_holding (setattr_ok I1 e1 t1 t2 hl r fun s2 I2 => ?_))))
  exact wpAny_release ⟨σ, _, I2, qq⟩
/-- t1 = t2 = value -/
def sAsg2 (φ : EF) (γ γ2 : GF) : SF := fun sl vh => match φ sl vh with
  | .ok ev vh1 => match γ ev.d sl vh1 with
    | some (sl', vh') => (match γ2 ev.d sl' vh' with
      | some (sl2, vh2) => .nx sl2 vh2
      | none => .bad)
    | none => .bad
  | .exc x vh' => .ex x sl vh'
  | .bad => .bad
theorem ds_asg2 {t1 t2 : Expr} {γ γ2 : GF} {ix jx : List Nat} (he : DE W Wx X e φ) (hg : DG W X t1 γ ix) (hg2 : DG W X t2 γ2 jx) (hs : swapsWithSole [t1, t2] e pos.line X.env = pure false := by rfl) (hw : swappedStores [t1, t2] e X.env = pure none := by rfl)
    (h1 : (assignEach [t1, t2] X.env).map (·.2) = [assign t1 X.env, assign t2 X.env] := by rfl) : DS W Wx X (.Assign [t1, t2] e pos) (sAsg2 φ γ γ2) := fun C => by
  refine ⟨fun pins s σ H En I ⟨g, sl, vh, h, hsl, q⟩ => ?_⟩
  refine wpAny_Assign_stores ?_ hs hw
  have step : TDE W C Wx φ σ H (fun v H1 => ∃ g1 vh1 d, RelH W C g1 vh1 H1 ∧ RelS W g1 H1 sl σ ∧ Ext g H g1 H1 ∧ Rep W g1 H1 d v ∧
      PostS W C Wx g H (match γ d sl vh1 with | some (sl', vh') => (match γ2 d sl' vh' with | some (sl2, vh2) => .nx sl2 vh2 | none => .bad) | none => .bad) En) := by
    refine ⟨g, sl, vh, h, hsl, ?_⟩
    unfold sAsg2 at q
    cases r : φ sl vh with
    | bad => rw [r] at q; exact q
    | exc x vh' => rw [r] at q; exact fun g1 H1 c od a b d e => q g1 H1 σ c od a b d e
    | ok ev vh' =>
      rw [r] at q
      intro g1 H1 v1 h1 s1 x1 r1
      obtain ⟨g2, h2, x2, r2⟩ := r1.freeze h1
      exact ⟨g2, vh', ev.d, h2, s1.mono x2, x1.trans x2, r2, q⟩
  refine thn ((he C).run pins s σ H _ I step) fun u s1 ⟨v, H1, I1, rv, g1, vh1, d, k1, k2, k3, k4, qq⟩ => ?_
  rw [h1]
  cases e1 : γ d sl vh1 with
  | none => rw [e1] at qq; exact qq.elim
  | some p =>
    obtain ⟨sl', vh'⟩ := p
    rw [e1] at qq
    dsimp only at qq
    show wpAny _ _ (do holding [u] (assign t1 X.env u); assignAll u [assign t2 X.env]) _ _ _
    refine wpAny_bind (wpAny_holding (thn (hg.run pins s1 σ H1 v u (fun σ2 H2 => ∃ g2, RelH W C g2 vh' H2 ∧ RelS W g2 H2 sl' σ2 ∧ Ext g1 H1 g2 H2) I1 rv ⟨C, g1, sl, vh1, d, k1, k2, k4, by rw [e1]; exact fun g2 H2 σ2 a b c _ => ⟨g2, a, b, c⟩⟩) ?_))
    rintro _ s2 ⟨σ2, H2, I2, g2, a2, b2, c2⟩
    cases e2 : γ2 d sl' vh' with
    | none => rw [e2] at qq; exact qq.elim
    | some p2 =>
      obtain ⟨sl2, vh2⟩ := p2
      rw [e2] at qq
      show wpAny _ _ (assign t2 X.env u) _ _ _
      refine thn (hg2.run pins s2 σ2 H2 v u En.nx I2 rv ⟨C, g2, sl', vh', d, a2, b2, Rep.mono c2 _ _ k4, by rw [e2]; exact fun g3 H3 σ3 a b c _ => qq g3 H3 σ3 a b ((k3.trans c2).trans c)⟩) ?_
      rintro _ s3 ⟨σ3, H3, I3, q3⟩
      exact ⟨σ3, H3, I3, q3⟩
end

/-! ### methods of own classes -/
def isIns (c : Nat) (m : Str) : D → Bool
  | .ins c' fs => c' == c && (fget fs m).isNone
  | _ => false
/-- o.m(..): α the arguments, keywords among them -/
def dMeth (c : Nat) (m : Str) (arr : List D → List D) (Φ : Den) (φ : EF) (α : AF) : EF := eb φ fun d sl vh => if isIns c m (view vh d) = true then
  (match α sl vh with
    | .ok ds vh' => (match Φ (arr (d :: ds)) vh' with
      | .ok r vh2 => .ok (.v r) vh2
      | .exc x vh2 => .exc x vh2
      | .bad => .bad)
    | .exc x vh' => .exc x vh'
    | .bad => .bad) else .bad
section
variable {W : Wd} {C : Con} {Wx : WX} {X : Cx} {g g0 : Gh} {H H0 : Hp} {σ : L2.St} {sl : Sl} {vh : VH} {k np cid : Nat} {f : Addr} {fd : FuncData} {ps ks : List Str} {Φ : Den} {arr : List D → List D} {α β : AF} {φ : EF} {x m : Str} {p pos apos kpos : Pos} {o e : Expr} {es : List Expr} {kws : List Keyword} {pl : Sem Bool}
theorem RepFs.none : ∀ {fs : List (Str × D)} {ws : List (Str × V)} {f : Str}, RepFs W g H fs ws → fget fs f = none → ws.lookup f = none
  | [], ws, f, r, _ => by simp only [RepFs] at r; subst r; rfl
  | (k, x) :: fs, ws, f, r, e => by
    simp only [RepFs] at r
    obtain ⟨v, s, rfl, h1, h2⟩ := r
    unfold fget at e
    by_cases hk : f = k
    · rw [if_pos hk] at e; cases e
    · rw [if_neg hk] at e
      rw [List.lookup_cons, beq_eq_false_iff_ne.mpr hk]
      exact RepFs.none h2 e
theorem ins_of (h : RelH W C g vh H) {d : D} {v : V} (r : Rep W g H d v) (t : isIns cid m (view vh d) = true) : ∃ a dx gs, v = .ref a ∧ H a = some (.ins (W.cls cid) dx gs) ∧ gs.lookup m = none := by
  have rx := h.view r
  cases e : view vh d with
  | ins c fs =>
    rw [e] at rx t
    obtain ⟨a, dx, gs, rfl, h1, r1⟩ := rx.ins
    simp only [isIns, Bool.and_eq_true, beq_iff_eq, Option.isNone_iff_eq_none] at t
    obtain ⟨rfl, t⟩ := t
    exact ⟨a, dx, gs, rfl, h1, r1.none t⟩
  | _ => rw [e] at t; cases t
/-- the receiver has come; what then is wanted of the arguments -/
theorem meth_imp (h : RelH W C g vh H) (hs : RelS W g H sl σ) {Q : VK} (q : PostE W C Wx g H σ sl (dMeth cid m arr Φ φ α sl vh) Q) :
    TDE W C Wx φ σ H fun x H1 => ∃ a dx gs, x = .ref a ∧ H1 a = some (.ins (W.cls cid) dx gs) ∧ gs.lookup m = none ∧ TDA W C Wx α σ H1 fun vs H2 => ∃ g2 vh2 d ds, RelH W C g2 vh2 H2 ∧ RelS W g2 H2 sl σ ∧ Ext g H g2 H2 ∧ Rep W g2 H2 d (.ref a) ∧ Reps W g2 H2 ds vs ∧
      PostE W C Wx g H σ sl (match Φ (arr (d :: ds)) vh2 with | .ok r vh2 => .ok (.v r) vh2 | .exc x vh2 => .exc x vh2 | .bad => .bad) Q := by
  refine (TDE.bind h hs (Ext.refl g H) q).mono fun v1 H1 ⟨g2, vh2, d1, i2, s2, x2, x2', p2, q2⟩ => ?_
  split at q2
  · rename_i ht
    obtain ⟨a, dx, gs, rfl, h1, l⟩ := ins_of i2 p2 ht
    refine ⟨a, dx, gs, rfl, h1, l, g2, sl, vh2, i2, s2, ?_⟩
    cases r : α sl vh2 with
    | bad => rw [r] at q2; exact q2
    | exc x vh' => rw [r] at q2; exact fun g3 H3 c od h3 s3 x3 p3 => q2 g3 H3 c od h3 s3 (x2.trans x3) p3
    | ok ds vh' => rw [r] at q2; exact fun g3 H3 vs h3 s3 x3 p3 => ⟨g3, vh', d1, ds, h3, s3, x2.trans x3, Rep.mono x3 _ _ p2, p3, q2⟩
  · exact q2.elim
theorem de_meth0 (cz : Cz W Wx k X) (c : Cls W.K (W.cls cid)) (hm : Meth W.K (W.cls cid) m f) (F : PFn W X.prog X.w X.mg X.base k f fd ps Φ) (pt : Pat W fd ps 1 [] arr) (ho : DE W Wx X o φ)
    (ht : eval (.Call (.Attribute o m apos) [] [] pos) X.env = (do
      let ov ← eval o X.env
      standAt apos.atName
      let (f, first) ← holding [ov] (getMethod ov m pl)
      callWith pos f first (backTo pos (starEach [] X.env)) (backToKw pos (keywordEach [] X.env))) := by rfl) :
    DE W Wx X (.Call (.Attribute o m apos) [] [] pos) (dMeth cid m arr Φ φ aNil) := fun C => by
  refine ⟨fun pins s σ H Q I ⟨g, sl, vh, h, hs, q⟩ => ?_⟩
  refine PySem.W.methodCall_KW (pl := pl) (thn ((ho C).run pins s σ H _ I (meth_imp h hs q)) fun u s1 ⟨x, H1, I1, rx, a, dx, gs, ex, ea, l, g1, sl1, vh1, k1, k2, k3⟩ => ?_) ht
  subst ex
  obtain rfl : u = Value.ref a := rx
  refine getmeth_ok I1 ea (by rw [cz.K]; exact c) (by rw [cz.K]; exact hm) l ?_
  obtain ⟨g2, vh2, d, ds, h2, s2, x2, rd, rs, qq⟩ := k3 g1 H1 [] k1 k2 (Ext.refl g1 H1) Reps.nil
  have e0 : ds = [] := List.eq_nil_of_length_eq_zero rs.length
  subst e0
  exact PySem.W.callWith_K0 (first := [.ref a]) I1.kIn (by rw [cz.K]; exact hm.kp) (run_pfn (us := [.ref a]) (ws := []) (ks := []) (ds := [d]) cz F pt I1 h2 s2 x2 rfl rfl (Reps.one rd) (.cons rfl .nil) qq)
theorem de_meth (cz : Cz W Wx k X) (c : Cls W.K (W.cls cid)) (hm : Meth W.K (W.cls cid) m f) (F : PFn W X.prog X.w X.mg X.base k f fd ps Φ) (pt : Pat W fd ps (np + 1) [] arr) (ho : DE W Wx X o φ) (ha : DA W Wx X (e :: es) α)
    (hst : starEach (e :: es) X.env = (false, eval e X.env) :: starEach es X.env := by rfl) (hpl : (backTo pos (starEach es X.env)).any (·.1) = false := by rfl)
    (ht : eval (.Call (.Attribute o m apos) (e :: es) [] pos) X.env = (do
      let ov ← eval o X.env
      standAt apos.atName
      let (f, first) ← holding [ov] (getMethod ov m pl)
      callWith pos f first (backTo pos (starEach (e :: es) X.env)) (backToKw pos (keywordEach [] X.env))) := by rfl) (hal : ∀ sl vh ds vh', α sl vh = .ok ds vh' → ds.length = np) :
    DE W Wx X (.Call (.Attribute o m apos) (e :: es) [] pos) (dMeth cid m arr Φ φ α) := fun C => by
  refine ⟨fun pins s σ H Q I ⟨g, sl, vh, h, hs, q⟩ => ?_⟩
  refine PySem.W.methodCall_KW (pl := pl) (thn ((ho C).run pins s σ H _ I (meth_imp h hs q)) fun u s1 ⟨x, H1, I1, rx, a, dx, gs, ex, ea, l, t⟩ => ?_) ht
  subst ex
  obtain rfl : u = Value.ref a := rx
  refine getmeth_ok I1 ea (by rw [cz.K]; exact c) (by rw [cz.K]; exact hm) l ?_
  obtain ⟨g1, sl1, vh1, k1, k2, k3⟩ := t
  have T : TDA W C Wx α σ H1 (fun vs H2 => vs.length = np ∧ ∃ g2 vh2 d ds, RelH W C g2 vh2 H2 ∧ RelS W g2 H2 sl σ ∧ Ext g H g2 H2 ∧ Rep W g2 H2 d (.ref a) ∧ Reps W g2 H2 ds vs ∧
      PostE W C Wx g H σ sl (match Φ (arr (d :: ds)) vh2 with | .ok r vh2 => .ok (.v r) vh2 | .exc x vh2 => .exc x vh2 | .bad => .bad) Q) := by
    refine ⟨g1, sl1, vh1, k1, k2, ?_⟩
    cases r : α sl1 vh1 with
    | bad => rw [r] at k3; exact k3
    | exc x vh' => rw [r] at k3; exact k3
    | ok ds vh' => rw [r] at k3; exact fun g3 H3 vs h3 s3 x3 p3 => ⟨by rw [← p3.length]; exact hal _ _ _ _ r, k3 g3 H3 vs h3 s3 x3 p3⟩
  refine PySem.W.callWith_K (first := [.ref a]) (h₀ := X.base) I.ok.mod.kin (by rw [cz.K]; exact hm.kp) (thn ((ha C).run pos pins s1 σ H1 _ I1 T) ?_) hst hpl
  rintro us s2 ⟨vs, H2, I2, r, ln, g2, vh2, d, ds, h2, s2', x2, rd, rs, qq⟩
  exact ⟨I2.kIn, run_pfn (us := .ref a :: us) (ws := []) (ks := []) (ds := d :: ds) cz F pt I2 h2 s2' x2 (by rw [List.length_cons, ← r.length, ln]) rfl (Reps.cons rd rs) (by rw [List.append_nil]; exact .cons rfl r) qq⟩
theorem de_methK0 (cz : Cz W Wx k X) (c : Cls W.K (W.cls cid)) (hm : Meth W.K (W.cls cid) m f) (F : PFn W X.prog X.w X.mg X.base k f fd ps Φ) (pt : Pat W fd ps 1 ks arr) (ho : DE W Wx X o φ) (hb : DK W Wx X kws β)
    (hall : (backToKw pos (keywordEach kws X.env)).all (·.1.isSome) = true := by rfl) (hks : (backToKw pos (keywordEach kws X.env)).filterMap (·.1) = ks := by rfl)
    (hpl : ((backTo pos (starEach [] X.env)).any (·.1) || (backToKw pos (keywordEach kws X.env)).any (·.1.isNone)) = false := by rfl)
    (ht : eval (.Call (.Attribute o m apos) [] kws pos) X.env = (do
      let ov ← eval o X.env
      standAt apos.atName
      let (f, first) ← holding [ov] (getMethod ov m pl)
      callWith pos f first (backTo pos (starEach [] X.env)) (backToKw pos (keywordEach kws X.env))) := by rfl) (hbl : ∀ sl vh ds vh', β sl vh = .ok ds vh' → ds.length = ks.length) :
    DE W Wx X (.Call (.Attribute o m apos) [] kws pos) (dMeth cid m arr Φ φ β) := fun C => by
  refine ⟨fun pins s σ H Q I ⟨g, sl, vh, h, hs, q⟩ => ?_⟩
  refine PySem.W.methodCall_KW (pl := pl) (thn ((ho C).run pins s σ H _ I (meth_imp h hs q)) fun u s1 ⟨x, H1, I1, rx, a, dx, gs, ex, ea, l, t⟩ => ?_) ht
  subst ex
  obtain rfl : u = Value.ref a := rx
  refine getmeth_ok I1 ea (by rw [cz.K]; exact c) (by rw [cz.K]; exact hm) l ?_
  obtain ⟨g1, sl1, vh1, k1, k2, k3⟩ := t
  have T : TDA W C Wx β σ H1 (fun vs H2 => vs.length = ks.length ∧ ∃ g2 vh2 d ds, RelH W C g2 vh2 H2 ∧ RelS W g2 H2 sl σ ∧ Ext g H g2 H2 ∧ Rep W g2 H2 d (.ref a) ∧ Reps W g2 H2 ds vs ∧
      PostE W C Wx g H σ sl (match Φ (arr (d :: ds)) vh2 with | .ok r vh2 => .ok (.v r) vh2 | .exc x vh2 => .exc x vh2 | .bad => .bad) Q) := by
    refine ⟨g1, sl1, vh1, k1, k2, ?_⟩
    cases r : β sl1 vh1 with
    | bad => rw [r] at k3; exact k3
    | exc x vh' => rw [r] at k3; exact k3
    | ok ds vh' => rw [r] at k3; exact fun g3 H3 vs h3 s3 x3 p3 => ⟨by rw [← p3.length]; exact hbl _ _ _ _ r, k3 g3 H3 vs h3 s3 x3 p3⟩
  refine PySem.W.callWith_KW0 (first := [.ref a]) (h₀ := X.base) I.ok.mod.kin (by rw [cz.K]; exact hm.kp) hall (thn ((hb C).run pos pins s1 σ H1 _ I1 T) ?_) hpl
  rintro ws s2 ⟨vs, H2, I2, r, ln, g2, vh2, d, ds, h2, s2', x2, rd, rs, qq⟩
  refine ⟨I2.kIn, ?_⟩
  rw [hks]
  exact run_pfn (us := [.ref a]) (ws := ws) (ds := d :: ds) cz F pt I2 h2 s2' x2 rfl (by rw [← r.length, ln]) (Reps.cons rd rs) (.cons rfl r) qq
end
end
end PM

/-! PM20: making instances. -/
namespace PM
open PySem L2
noncomputable section

/-- C(..): a new instance laid, then its __init__ -/
def dMake (cid : Nat) (arr : List D → List D) (Φ : Den) (α : AF) : EF := ab α fun ds _ vh => match Φ (arr (.ref vh.length :: ds)) (vh ++ [.ins cid []]) with
  | .ok .non vh' => .ok (.v (.ref vh.length)) vh'
  | .ok _ _ => .bad
  | .exc x vh' => .exc x vh'
  | .bad => .bad
theorem make_guards {A : Around} {a : Args} (hg : A.guards = some []) : (A.under (.builtin "type.__call__" a)).guards = some [] := by
  show pushGuards (Code.guards (.builtin "type.__call__" a)) A.guards = some []
  rw [hg]
  rfl
section
variable {W : Wd} {C : Con} {Wx : WX} {X : Cx} {g g0 : Gh} {H H0 : Hp} {σ : L2.St} {sl : Sl} {vh : VH} {k np cid : Nat} {f : Addr} {fd : FuncData} {ps ks : List Str} {Φ : Den} {arr : List D → List D} {α β : AF} {φ : EF} {x m : Str} {p pos apos kpos : Pos} {o e : Expr} {es : List Expr} {kws : List Keyword}
theorem run_new {pins : List (Addr × Obj)} {s : Shared} {Q : VK} {us ws : List Value} {vs : List V} {ds : List D} (cz : Cz W Wx (k + 1) X) (M : Mk W.K (W.cls cid) f) (F : PFn W X.prog X.w X.mg X.base k f fd ps Φ) (pt : Pat W fd ps (np + 1) ks arr)
    (I : Inv X pins σ H s) (h : RelH W C g vh H) (hs : RelS W g H sl σ) (e0 : Ext g0 H0 g H) (h1 : us.length = np) (h2 : ws.length = ks.length) (r : Reps W g H ds vs) (rv : Vals vs (us ++ ws))
    (q : PostE W C Wx g0 H0 σ sl (match Φ (arr (.ref vh.length :: ds)) (vh ++ [.ins cid []]) with | .ok .non vh' => .ok (.v (.ref vh.length)) vh' | .ok _ _ => .bad | .exc x vh' => .exc x vh' | .bad => .bad) Q) :
    wpAny (model X.prog X.w) X.A (call (.ref (W.cls cid)) us (ks.zip ws)) (EP X pins σ Q) X.xe s := by
  have M' : Mk X.K (W.cls cid) f := by rw [cz.K]; exact M
  let dx := s.heap.objs.size
  let a := s.heap.objs.size + 1
  have I2 := Inv.made (C := W.cls cid) I
  have n1 : H dx = none := I.hok.fresh (Nat.le_refl _)
  have ne : a ≠ dx := Nat.ne_of_gt (Nat.lt_succ_self _)
  have n2 : upd H dx (.own a) a = none := by rw [upd_ne ne]; exact I.hok.fresh (Nat.le_succ _)
  let H2 : Hp := upd (upd H dx (.own a)) a (.ins (W.cls cid) dx [])
  have R1 : RelH W C g vh (upd H dx (.own a)) := h.new n1
  have R2 : RelH W C g vh H2 := R1.new n2
  obtain ⟨f1, f2, f3⟩ := R1.free n2
  have ob : ObjAt W g H2 a (.ins cid []) := ⟨dx, [], upd_same, by simp [RepFs]⟩
  have R3 : RelH W C (g.put a) (vh ++ [.ins cid []]) H2 := R2.put ob f1 f2 f3
  have x2 : Ext g H (g.put a) H2 := ((Ext.new h n1).trans (Ext.new R1 n2)).trans (Ext.putG g H2 a)
  have rself : Rep W (g.put a) H2 (.ref vh.length) (.ref a) := by
    simp only [Rep, h.len]
    exact ⟨Nat.lt_succ_self _, by simp [Gh.put]⟩
  have KI : W.K.In ({ s with heap := (s.heap.push PySem.W.emptyDict).push (PySem.W.instObj (W.cls cid) s.heap.objs.size) } : Shared).heap := by rw [← cz.K]; exact I2.kIn
  obtain ⟨us', vs', hb, rv', r', hl⟩ := pt.ok _ (Value.ref a :: us) ws (g.put a) H2 (.ref vh.length :: ds) (.ref a :: vs) KI (by rw [List.length_cons, h1]) h2 (Reps.cons rself (Reps.mono x2 _ _ r)) (.cons rfl rv)
  have E0 : Env0 X.prog X.w W.K X.mg X.base (X.A.under (.builtin "type.__call__" ⟨.ref (W.cls cid) :: us, ks.zip ws⟩)) X.stack { s with heap := (s.heap.push PySem.W.emptyDict).push (PySem.W.instObj (W.cls cid) s.heap.objs.size) } H2 := by rw [← cz.K]; exact I2.env0.make (W.cls cid) us (ks.zip ws)
  refine wpAny_call (make_map (f := f) I.kIn M'.makes M'.init (beq_iff_eq.mp M'.fn) (codeAny_mono (F.run _ X.stack _ H2 ⟨Value.ref a :: us, ks.zip ws⟩ us' vs' (fun v H3 => v = .non ∧ Q (.ref a) H3) (fun c od H' => Wx c od σ H') (cz.rm.make _ us (ks.zip ws)) (make_guards cz.gd) E0 hb rv'
    ⟨g.put a, arr (.ref vh.length :: ds), vh ++ [.ins cid []], R3.call, r', hl, ?_⟩) ?_))
  · cases e : Φ (arr (.ref vh.length :: ds)) (vh ++ [.ins cid []]) with
    | bad => rw [e] at q; exact q.elim
    | exc x vh' => rw [e] at q; exact fun g1 H1 c od i1 x1 p1 => q g1 H1 c od (R3.back i1) (hs.mono (x2.trans x1)) ((e0.trans x2).trans x1) p1
    | ok d vh' =>
      rw [e] at q
      cases d with
      | non => exact fun g1 H1 v i1 x1 p1 => ⟨by simpa only [Rep] using p1, q g1 H1 _ (R3.back i1) (hs.mono (x2.trans x1)) ((e0.trans x2).trans x1) (Rep.mono x1 _ _ rself)⟩
      | _ => exact q.elim
  · intro rr s' hq
    cases rr with
    | error e => exact passAt cz.tk σ pins _ _ e s' I2 hq
    | ok fl =>
      cases fl with
      | ret u =>
        obtain ⟨v, H', I3, rv3, ev, q3⟩ := I2.after hq
        subst ev
        exact ⟨rv3, ⟨V.ref a, H', I3, rfl, q3⟩⟩
      | next => exact hq.elim
      | brk => exact hq.elim
      | cont => exact hq.elim
theorem de_make (cz : Cz W Wx (k + 1) X) (M : Mk W.K (W.cls cid) f) (F : PFn W X.prog X.w X.mg X.base k f fd ps Φ) (pt : Pat W fd ps (np + 1) [] arr) (hg : Gl X x) (hm : X.mg x = some (.ref (W.cls cid)))
    (ha : DA W Wx X (e :: es) α) (hdb : (x == ("__debug__" : Str)) = false := by decide) (he : starEach (e :: es) X.env = (false, eval e X.env) :: starEach es X.env := by rfl) (hpl : (backTo pos (starEach es X.env)).any (·.1) = false := by rfl)
    (hal : ∀ sl vh ds vh', α sl vh = .ok ds vh' → ds.length = np) : DE W Wx X (.Call (.Name x p) (e :: es) [] pos) (dMake cid arr Φ α) := fun C => by
  refine ⟨fun pins s σ H Q I ⟨g, sl, vh, h, hs, q⟩ => ?_⟩
  refine wpAny_Call_Name_kw (ld_glob I hg hm ?_ hdb)
  have T : TDA W C Wx α σ H (fun v1 H1 => v1.length = np ∧ ∃ g1 vh1 d1, RelH W C g1 vh1 H1 ∧ RelS W g1 H1 sl σ ∧ Ext g H g1 H1 ∧ Reps W g1 H1 d1 v1 ∧
      PostE W C Wx g H σ sl (match Φ (arr (.ref vh1.length :: d1)) (vh1 ++ [.ins cid []]) with | .ok .non vh' => .ok (.v (.ref vh1.length)) vh' | .ok _ _ => .bad | .exc x vh' => .exc x vh' | .bad => .bad) Q) := by
    refine ⟨g, sl, vh, h, hs, ?_⟩
    unfold dMake ab at q
    cases r : α sl vh with
    | bad => rw [r] at q; exact q
    | exc x vh1 => rw [r] at q; exact q
    | ok ds vh1 => rw [r] at q; exact fun g1 H1 v1 h1 s1 x1 r1 => ⟨by rw [← r1.length]; exact hal _ _ _ _ r, g1, vh1, ds, h1, s1, x1, r1, q⟩
  refine PySem.W.callWith_K (h₀ := X.base) I.ok.mod.kin (by rw [cz.K]; exact M.kp) (thn ((ha C).run pos pins s σ H _ I T) ?_) he hpl
  rintro us s1 ⟨vs, H1, I1, rv, ln, g1, vh1, d1, h1, s1', x1, r1, qq⟩
  exact ⟨I1.kIn, run_new (us := us) (ws := []) (ks := []) cz M F pt I1 h1 s1' x1 (by rw [← rv.length, ln]) rfl r1 (by rw [List.append_nil]; exact rv) qq⟩
theorem de_makeK (cz : Cz W Wx (k + 1) X) (M : Mk W.K (W.cls cid) f) (F : PFn W X.prog X.w X.mg X.base k f fd ps Φ) (pt : Pat W fd ps (np + 1) ks arr) (hg : Gl X x) (hm : X.mg x = some (.ref (W.cls cid)))
    (ha : DA W Wx X (e :: es) α) (hb : DK W Wx X kws β) (hall : (backToKw pos (keywordEach kws X.env)).all (·.1.isSome) = true := by rfl) (hks : (backToKw pos (keywordEach kws X.env)).filterMap (·.1) = ks := by rfl)
    (hdb : (x == ("__debug__" : Str)) = false := by decide) (he : starEach (e :: es) X.env = (false, eval e X.env) :: starEach es X.env := by rfl)
    (hpl : ((backTo pos (starEach (e :: es) X.env)).any (·.1) || (backToKw pos (keywordEach kws X.env)).any (·.1.isNone)) = false := by rfl)
    (hal : ∀ sl vh ds vh', α sl vh = .ok ds vh' → ds.length = np) (hbl : ∀ sl vh ds vh', β sl vh = .ok ds vh' → ds.length = ks.length) : DE W Wx X (.Call (.Name x p) (e :: es) kws pos) (dMake cid arr Φ (aApp α β)) := fun C => by
  refine ⟨fun pins s σ H Q I ⟨g, sl, vh, h, hs, q⟩ => ?_⟩
  refine wpAny_Call_Name_kw (ld_glob I hg hm ?_ hdb)
  have T : TDA W C Wx α σ H (fun v1 H1 => v1.length = np ∧ ∃ g1 vh1 d1, RelH W C g1 vh1 H1 ∧ RelS W g1 H1 sl σ ∧ Ext g H g1 H1 ∧ Reps W g1 H1 d1 v1 ∧
      TDA W C Wx β σ H1 (fun v2 H2 => v2.length = ks.length ∧ ∃ g2 vh2 d2, RelH W C g2 vh2 H2 ∧ RelS W g2 H2 sl σ ∧ Ext g1 H1 g2 H2 ∧ Reps W g2 H2 d2 v2 ∧
        PostE W C Wx g H σ sl (match Φ (arr (.ref vh2.length :: (d1 ++ d2))) (vh2 ++ [.ins cid []]) with | .ok .non vh' => .ok (.v (.ref vh2.length)) vh' | .ok _ _ => .bad | .exc x vh' => .exc x vh' | .bad => .bad) Q)) := by
    refine ⟨g, sl, vh, h, hs, ?_⟩
    unfold dMake ab aApp at q
    cases r : α sl vh with
    | bad => rw [r] at q; exact q
    | exc x vh1 => rw [r] at q; exact q
    | ok ds vh1 =>
      rw [r] at q
      intro g1 H1 v1 h1 s1 x1 r1
      refine ⟨by rw [← r1.length]; exact hal _ _ _ _ r, g1, vh1, ds, h1, s1, x1, r1, g1, sl, vh1, h1, s1, ?_⟩
      dsimp only at q
      cases r2 : β sl vh1 with
      | bad => rw [r2] at q; exact q
      | exc x vh2 => rw [r2] at q; exact fun g2 H2 c od h2 s2 x2 rr => q g2 H2 c od h2 s2 (x1.trans x2) rr
      | ok es vh2 => rw [r2] at q; exact fun g2 H2 v2 h2 s2 x2 rr => ⟨by rw [← rr.length]; exact hbl _ _ _ _ r2, g2, vh2, es, h2, s2, x2, rr, q⟩
  refine PySem.W.callWith_KW (h₀ := X.base) I.ok.mod.kin (by rw [cz.K]; exact M.kp) hall (thn ((ha C).run pos pins s σ H _ I T) ?_) hpl he
  rintro us s1 ⟨vs, H1, I1, rv, ln, g1, vh1, d1, h1, s1', x1, r1, t2⟩
  refine thn ((hb C).run pos pins s1 σ H1 _ I1 t2) ?_
  rintro ws s2 ⟨zs, H2, I2, rz, lm, g2, vh2, d2, h2, s2', x2, r2, qq⟩
  refine ⟨I2.kIn, ?_⟩
  rw [hks]
  exact run_new (us := us) (ws := ws) (ds := d1 ++ d2) cz M F pt I2 h2 s2' (x1.trans x2) (by rw [← rv.length, ln]) (by rw [← rz.length, lm]) ((Reps.mono x2 _ _ r1).append r2) (rv.append rz) qq
end
end
end PM

/-! PM21: what is never reached; chained comparisons. -/
namespace PM
open PySem L2
noncomputable section
def eBad : EF := fun _ _ => .bad
def tBad : TF := fun _ _ => .bad
section
variable {W : Wd} {C : Con} {Wx : WX} {X : Cx} {g g0 : Gh} {H H0 : Hp} {σ : L2.St} {sl : Sl} {vh : VH} {φ ψ χ : EF} {a b c : Expr} {pos : Pos}
theorem de_bad {e : Expr} : DE W Wx X e eBad := fun C => ⟨fun _ _ _ _ _ _ ⟨_, _, _, _, _, q⟩ => q.elim⟩
theorem dt_bad {e : Expr} : DT W Wx X e tBad := fun C => ⟨fun _ _ _ _ _ _ ⟨_, _, _, _, _, q⟩ => q.elim⟩
@[simp] theorem x_ebad (sl : Sl) (vh : VH) : eBad sl vh = .bad := rfl
@[simp] theorem x_tbad (sl : Sl) (vh : VH) : tBad sl vh = .bad := rfl

/-- a op b op2 c -/
def eChain (p p' : D → D → Option EV) (φ ψ χ : EF) : EF := eb φ fun x => eb ψ fun y => fun sl vh => match p (view vh x) (view vh y) with
  | some (.v (.bl true)) => eb χ (fun z _ vh' => lift (p' (view vh' y) (view vh' z)) vh') sl vh
  | some (.v (.bl false)) => .ok (.v (.bl false)) vh
  | _ => .bad
theorem chain_run {r r' : R2} {p p' : D → D → Option EV} (h2 : Prim2 W X r p) (h2' : Prim2 W X r' p') {Q : VK} {g0 : Gh} {H0 : Hp} (e0 : Ext g0 H0 g H) (h : RelH W C g vh H) (hs : RelS W g H sl σ) {d1 d2 : D} {x y : V} (r1 : Rep W g H d1 x) (r2 : Rep W g H d2 y)
    (q : PostE W C Wx g0 H0 σ sl (match p (view vh d1) (view vh d2) with
      | some (.v (.bl true)) => eb χ (fun z _ vh' => lift (p' (view vh' d2) (view vh' z)) vh') sl vh
      | some (.v (.bl false)) => .ok (.v (.bl false)) vh
      | _ => .bad) Q) : r x y H fun z H3 => ∃ k, z = .bl k ∧ (if k = true then TDE W C Wx χ σ H3 fun w' H4 => r' y w' H4 Q else Q (.bl false) H3) := by
  refine h2 C g H vh _ _ x y _ h (h.view r1) (h.view r2) (fun e he g' H' v h' x' r'' => ?_) ?_
  · rw [he] at q
    match e, he, q, r'' with
    | .v (.bl true), he, q, r'' =>
      have ev : v = .bl true := by simpa only [RepE, Rep] using r''
      refine ⟨true, ev, ?_⟩
      rw [if_pos rfl]
      exact (TDE.bind h' (hs.mono x') (e0.trans x') q).mono fun v4 H4 ⟨g5, vh5, d5, i5, s5, x5, x5', p5, q5⟩ => h2'.use i5 s5 x5 (Rep.mono (x'.trans x5') _ _ r2) p5 q5
    | .v (.bl false), he, q, r'' =>
      have ev : v = .bl false := by simpa only [RepE, Rep] using r''
      refine ⟨false, ev, ?_⟩
      rw [if_neg (by decide)]
      exact q g' H' _ h' (hs.mono x') (e0.trans x') (by simp only [RepE, Rep])
  · cases e : p (view vh d1) (view vh d2) with
    | some _ => rfl
    | none =>
      rw [e] at q
      exact q.elim
theorem de_chain {op op' : CmpOp} {p p' : D → D → Option EV} (o : CmpOk W X op p) (o' : CmpOk W X op' p') (ha : DE W Wx X a φ) (hb : DE W Wx X b ψ) (hc : DE W Wx X c χ)
    (hm : lastMarks [op, op'] [b, c] = false := by with_unfolding_all rfl) : DE W Wx X (.Compare a [op, op'] [b, c] pos) (eChain p p' φ ψ χ) := fun C => by
  obtain ⟨r, h1, h2⟩ := o.ex
  obtain ⟨r', h1', h2'⟩ := o'.ex
  exact pe_imp (pe_chain h1 h1' (ha C) (hb C) (hc C) hm) fun σ H Q ⟨g, sl, vh, h, hs, q⟩ =>
    (TDE.bind h hs (Ext.refl g H) q).mono fun v1 H1 ⟨g2, vh2, d1, i2, s2, x2, x2', p2, q2⟩ =>
      (TDE.bind i2 s2 x2 q2).mono fun v4 H4 ⟨g5, vh5, d5, i5, s5, x5, x5', p5, q5⟩ => chain_run h2 h2' x5 i5 s5 (Rep.mono x5' _ _ p2) p5 q5
end
end
end PM

/-! PM22: isinstance. -/
namespace PM
open PySem L2
noncomputable section
/-- a value's type, of data -/
def tyN : D → Option String
  | .non => some "NoneType" | .bl _ => some "bool" | .int _ => some "int" | .str _ => some "str"
  | .tup _ => some "tuple" | .lst _ => some "list" | .scr _ => some "list" | .dct _ => some "dict" | .st _ => some "set"
  | _ => none
def isT (t n : String) : Bool := t == n || (t == "bool" && n == "int")
/-- isinstance(d, n), n a built-in type; an instance of an own class of cs is none of these -/
def isD (cs : List Nat) (n : String) : D → Option Bool
  | .ins c _ => if c ∈ cs then some false else none
  | d => (tyN d).map fun t => isT t n
def bIsi (cs : List Nat) (n : String) (d : D) : Option EV := (isD cs n d).map fun b => .v (.bl b)
/-- isinstance(d, C), C an own class -/
def isC (cs : List Nat) (c : Nat) : D → Option Bool
  | .ins c' _ => if c' ∈ cs then some (c' == c) else none
  | d => (tyN d).map fun _ => false
def bIsC (cs : List Nat) (c : Nat) (d : D) : Option EV := (isC cs c d).map fun b => .v (.bl b)
structure InsK (K : PySem.W.Frag) (C : Addr) : Prop where
  cl : Cls K C
  ha : PySem.W.findIn K (.ref C) "__class__" = some (some (.builtin "object.__class__"))
  hn : PySem.W.specialIn K (.builtin "object.__class__") "__get__" = some (some (.builtin "getset_descriptor.__get__"))
  htk : PySem.W.takesIn K (.builtin "object.__class__") = some true
  hm : PySem.W.mroIn K C (.type "object") = some true
section
variable {W : Wd} {C : Con} {Wx : WX} {X : Cx} {k : Nat} {g g0 : Gh} {H H0 : Hp} {σ : L2.St} {sl : Sl} {vh : VH} {φ ψ χ : EF} {pos : Pos} {a b : Expr} {x : Str} {n : String} {p0 p1 : Pos}
theorem ty_data (hK : X.K = W.K) {d : D} {v : V} (r : RepW W g H d v) (t : String) (e : tyN d = some t) : TyX X.K H v (.type t) := by
  cases d with
  | non => rw [r.non]; cases e; exact .base .non
  | bl b => rw [r.bl]; cases e; exact .base (.bl _)
  | int i => rw [r.int]; cases e; exact .base (.int _)
  | str i => rw [r.str]; cases e; exact .base (.str _)
  | tup xs =>
    obtain ⟨a, vs, rfl, h1, _⟩ := r.tup
    cases e
    rcases h1 with (h1 | ⟨o, h1⟩) | ⟨o, its, n, h1, h2, _⟩
    · exact .base (.tup h1)
    · exact .fTuple h1
    · exact .kTuple (by rw [hK]; exact h1) h2
  | lst xs =>
    obtain ⟨a, vs, rfl, h1, _⟩ := r.lst
    cases e
    exact .base (.lst h1)
  | scr xs =>
    obtain ⟨a, rfl, h1⟩ := r.scr
    cases e
    rcases h1 with (h1 | ⟨o, h1⟩) | ⟨o, its, n, h1, h2, _⟩
    · exact .base (.lst h1)
    · exact .base (.frz h1)
    · exact .kList (by rw [hK]; exact h1) h2
  | dct xs =>
    obtain ⟨a, ws, rfl, h1, _⟩ := r.dct
    cases e
    rcases h1 with h1 | ⟨o, h1⟩
    · exact .base (.dK h1)
    · exact .fDict h1
  | st xs =>
    cases e
    rcases r with r | ⟨o, a, e, rfl, ho⟩
    · simp only [Rep] at r
      obtain ⟨a, S, n, rfl, _, h1, _⟩ := r
      exact .set h1
    · cases o <;> cases e
      obtain ⟨S, n, h1, _⟩ := ho
      exact .set h1
  | ins c fs => cases e
  | ref i => cases e
  | obj => cases e
  | lam _ _ _ => cases e
  | fn i => cases e
  | cls i => cases e
  | ty i => cases e
  | exc a od c fs => cases e
theorem ty_ins {c : Nat} {fs : List (Str × D)} {v : V} (q : InsK X.K (W.cls c)) (r : RepW W g H (.ins c fs) v) : TyX X.K H v (.ref (W.cls c)) := by
  obtain ⟨a, dx, gs, rfl, h1, _⟩ := r.ins
  exact .base (.ins h1 q.cl q.ha q.hn q.htk q.hm)
/-- what the answers of isinstance are: n a built-in type -/
structure KitT (W : Wd) (K : PySem.W.Frag) (cs : List Nat) (n : String) : Prop where
  data : ∀ d t, tyN d = some t → PySem.W.kitOne K (.type t) (.type n) = some (isT t n)
  own : ∀ c ∈ cs, InsK K (W.cls c) ∧ PySem.W.kitOne K (.ref (W.cls c)) (.type n) = some false
structure KitC (W : Wd) (K : PySem.W.Frag) (cs : List Nat) (c : Nat) : Prop where
  data : ∀ d t, tyN d = some t → PySem.W.kitOne K (.type t) (.ref (W.cls c)) = some false
  own : ∀ c' ∈ cs, InsK K (W.cls c') ∧ PySem.W.kitOne K (.ref (W.cls c')) (.ref (W.cls c)) = some (c' == c)
theorem p_isi (hK : X.K = W.K) {cs : List Nat} (kt : KitT W X.K cs n) : Prim1 W X (fun x H Q => rIsi X.K [x, .ty n] H Q) (bIsi cs n) := by
  intro C g H vh dx x Q h rx q s
  have fin : ∀ b, bIsi cs n dx = some (.v (.bl b)) → Q (.bl b) H := fun b e => q _ e g H _ h (Ext.refl g H) (by simp only [RepE, Rep])
  cases et : tyN dx with
  | some t =>
    have ed : isD cs n dx = some (isT t n) := by cases dx <;> cases et <;> rfl
    exact ⟨x, _, _, _, _, rfl, .ty n, ty_data hK rx t et, kt.data dx t et, fin _ (by unfold bIsi; rw [ed]; rfl)⟩
  | none =>
    cases dx <;> try (simp [bIsi, isD, tyN] at s et; done)
    rename_i c fs
    by_cases hc : c ∈ cs
    · exact ⟨x, _, _, _, _, rfl, .ty n, ty_ins (kt.own c hc).1 rx, (kt.own c hc).2, fin _ (by simp [bIsi, isD, hc])⟩
    · simp [bIsi, isD, hc] at s
theorem p_isc (hK : X.K = W.K) {cs : List Nat} {c : Nat} (kt : KitC W X.K cs c) : Prim1 W X (fun x H Q => rIsi X.K [x, .ref (W.cls c)] H Q) (bIsC cs c) := by
  intro C g H vh dx x Q h rx q s
  have fin : ∀ b, bIsC cs c dx = some (.v (.bl b)) → Q (.bl b) H := fun b e => q _ e g H _ h (Ext.refl g H) (by simp only [RepE, Rep])
  cases et : tyN dx with
  | some t =>
    have ed : isC cs c dx = some false := by cases dx <;> cases et <;> rfl
    exact ⟨x, _, _, _, _, rfl, .own _, ty_data hK rx t et, kt.data dx t et, fin _ (by unfold bIsC; rw [ed]; rfl)⟩
  | none =>
    cases dx <;> try (simp [bIsC, isC, tyN] at s et; done)
    rename_i c' fs
    by_cases hc : c' ∈ cs
    · exact ⟨x, _, _, _, _, rfl, .own _, ty_ins (kt.own c' hc).1 rx, (kt.own c' hc).2, fin _ (by simp [bIsC, isC, hc])⟩
    · simp [bIsC, isC, hc] at s
theorem de_isi {cs : List Nat} {nm : Str} (hK : X.K = W.K) (kt : KitT W X.K cs n) (hg : Gl X "isinstance") (hm : X.mg "isinstance" = none) (hg2 : Gl X nm) (hm2 : X.mg nm = none) (ha : DE W Wx X a φ) (hv2 : bootBuiltins nm = some (.type n) := by rfl) (hn2 : nm ≠ "__name__" := by decide) (hdb2 : (nm == ("__debug__" : Str)) = false := by decide)
    (he : starEach (a :: [.Name nm p1]) X.env = (false, eval a X.env) :: starEach [.Name nm p1] X.env := by rfl) : DE W Wx X (.Call (.Name "isinstance" p0) [a, .Name nm p1] [] pos) (e1 (bIsi cs n) φ) :=
  de_1 ha (p_isi hK kt) fun ta h => pe_imp (pe_callB call_isi hg hm (by rfl) (pa_cons h (pa_cons (pe_bltn (v := .ty n) hg2 hm2 hv2 rfl hn2 hdb2) pa_nil (by rfl)) he) (by decide) (by decide) he (by rfl)) fun σ H Q q => q
theorem de_isc {cs : List Nat} {c : Nat} {nm : Str} (hK : X.K = W.K) (kt : KitC W X.K cs c) (hg : Gl X "isinstance") (hm : X.mg "isinstance" = none) (hg2 : Gl X nm) (hm2 : X.mg nm = some (.ref (W.cls c))) (ha : DE W Wx X a φ) (hdb2 : (nm == ("__debug__" : Str)) = false := by decide)
    (he : starEach (a :: [.Name nm p1]) X.env = (false, eval a X.env) :: starEach [.Name nm p1] X.env := by rfl) : DE W Wx X (.Call (.Name "isinstance" p0) [a, .Name nm p1] [] pos) (e1 (bIsC cs c) φ) :=
  de_1 ha (p_isc hK kt) fun ta h => pe_imp (pe_callB call_isi hg hm (by rfl) (pa_cons h (pa_cons (pe_glob (v := .ref (W.cls c)) hg2 hm2 rfl hdb2) pa_nil (by rfl)) he) (by decide) (by decide) he (by rfl)) fun σ H Q q => q
end
end
end PM

/-! PM23: chained comparisons as tests; rows. -/
namespace PM
open PySem L2
noncomputable section
section
variable {W : Wd} {C : Con} {Wx : WX} {X : Cx} {g g0 : Gh} {H H0 : Hp} {σ : L2.St} {sl : Sl} {vh : VH} {φ ψ χ : EF} {a b c : Expr} {pos : Pos}
theorem dt_chain {op op' : CmpOp} {p p' : D → D → Option EV} (o : CmpOk W X op p) (o' : CmpOk W X op' p') (ha : DE W Wx X a φ) (hb : DE W Wx X b ψ) (hc : DE W Wx X c χ)
    (hm : lastMarks [op, op'] [b, c] = false := by with_unfolding_all rfl) : DT W Wx X (.Compare a [op, op'] [b, c] pos) (etoT (eChain p p' φ ψ χ)) := fun C => by
  obtain ⟨r, h1, h2⟩ := o.ex
  obtain ⟨r', h1', h2'⟩ := o'.ex
  exact pt_imp (pt_chain h1 h1' (ha C) (hb C) (hc C) hm) fun σ H Q t => by
    obtain ⟨g, sl, vh, h, hs, q⟩ := t.ofE
    exact (TDE.bind h hs (Ext.refl g H) q).mono fun v1 H1 ⟨g2, vh2, d1, i2, s2, x2, x2', p2, q2⟩ =>
      (TDE.bind i2 s2 x2 q2).mono fun v4 H4 ⟨g5, vh5, d5, i5, s5, x5, x5', p5, q5⟩ => chain_run h2 h2' x5 i5 s5 (Rep.mono x5' _ _ p2) p5 q5
theorem kitT {K : PySem.W.Frag} {cs : List Nat} (n : String) (hd : n ∈ ["int", "str", "tuple", "list", "dict", "bool", "set"]) (own : ∀ c ∈ cs, InsK K (W.cls c) ∧ PySem.W.kitOne K (.ref (W.cls c)) (.type n) = some false) : KitT W K cs n := ⟨fun d t e => by
  simp only [List.mem_cons, List.not_mem_nil, or_false] at hd
  rcases hd with rfl | rfl | rfl | rfl | rfl | rfl | rfl <;> cases d <;> cases e <;> kernel_rfl, own⟩
@[simp] theorem x_chain (p p' : D → D → Option EV) (sl : Sl) (vh : VH) : eChain p p' φ ψ χ sl vh = (eb φ fun x => eb ψ fun y => fun sl vh => match p (view vh x) (view vh y) with
  | some (.v (.bl true)) => eb χ (fun z _ vh' => lift (p' (view vh' y) (view vh' z)) vh') sl vh
  | some (.v (.bl false)) => .ok (.v (.bl false)) vh
  | _ => .bad) sl vh := rfl
end
end
end PM

/-! PM24: f-strings of texts and ints. -/
namespace PM
open PySem L2
noncomputable section
def pFmt : D → Option EV
  | .str y => if y.length ≤ lim then some (.v (.str y)) else none
  | .int i => if i.natAbs.log2 < 1920 then some (.v (.str (toString i))) else none
  | _ => none
def eJoin : Str → List EF → EF
  | acc, [] => fun _ vh => .ok (.v (.str acc)) vh
  | acc, φ :: r => eb φ fun x sl vh => match x with
    | .str y => if (acc ++ y).length ≤ lim then eJoin (acc ++ y) r sl vh else .bad
    | _ => .bad
section
variable {W : Wd} {C : Con} {Wx : WX} {X : Cx} {g g0 : Gh} {H H0 : Hp} {σ : L2.St} {sl : Sl} {vh : VH} {φ ψ χ : EF} {a b c : Expr} {pos : Pos}
inductive DJ (W : Wd) (Wx : WX) (X : Cx) : List Expr → List EF → Prop where
  | nil : DJ W Wx X [] []
  | cons {e : Expr} {φ : EF} {es : List Expr} {φs : List EF} (h : DE W Wx X e φ) (r : DJ W Wx X es φs) : DJ W Wx X (e :: es) (φ :: φs)
theorem DJ.pj {es : List Expr} {φs : List EF} (h : DJ W Wx X es φs) (C : Con) : PJ X es (φs.map fun φ => TDE W C Wx φ) := by
  induction h with
  | nil => exact .nil
  | cons h _ ih => exact .cons (h C) ih
theorem join_run {Q : VK} : ∀ (φs : List EF) (acc : Str) (g : Gh) (H : Hp) (vh : VH), Ext g0 H0 g H → RelH W C g vh H → RelS W g H sl σ → PostE W C Wx g0 H0 σ sl (eJoin acc φs sl vh) Q →
    tJs (φs.map fun φ => TDE W C Wx φ) acc σ H fun out H1 => Q (.str out) H1
  | [], acc, g, H, vh, e0, h, hs, q => q g H _ h hs e0 (by simp only [RepE, Rep])
  | φ :: r, acc, g, H, vh, e0, h, hs, q => by
    show TDE W C Wx φ σ H _
    exact (TDE.bind h hs e0 q).mono fun v1 H1 ⟨g2, vh2, d1, i2, s2, x2, x2', p2, q2⟩ => by
      cases d1 with
      | str y =>
        have ev : v1 = .str y := by simpa only [Rep] using p2
        dsimp only at q2
        by_cases hl : (acc ++ y).length ≤ lim
        · rw [if_pos hl] at q2
          exact ⟨y, ev, by rw [← lim_eq]; exact hl, join_run r (acc ++ y) g2 H1 vh2 x2 i2 s2 q2⟩
        · rw [if_neg hl] at q2
          exact q2.elim
      | _ => exact q2.elim
theorem de_join {v1 v2 : Expr} {rest : List Expr} {φs : List EF} (h : DJ W Wx X (v1 :: v2 :: rest) φs) : DE W Wx X (.JoinedStr (v1 :: v2 :: rest) pos) (eJoin Str.empty φs) := fun C =>
  pe_imp (pe_joined (h.pj C)) fun σ H Q ⟨g, sl, vh, h, hs, q⟩ => join_run φs Str.empty g H vh (Ext.refl g H) h hs q
theorem de_join1 (h : DE W Wx X a φ) : DE W Wx X (.JoinedStr [a] pos) φ := fun C => pe_joined1 (h C)
theorem de_fmt (ha : DE W Wx X a φ) : DE W Wx X (.FormattedValue a (-1) none pos) (e1 pFmt φ) :=
  de_1 ha (r := fun x H Q => (∃ y : Str, x = .str y ∧ y.length ≤ sizeLine ∧ Q (.str y) H) ∨ ∃ i : Int, x = .int i ∧ i.natAbs.log2 < 1920 ∧ Q (.str (toString i)) H) (by
    intro C g H vh dx x Q h rx q s
    cases dx <;> try (simp [pFmt] at s; done)
    · rw [rx.int]
      have hc := isSome_ite s
      exact .inr ⟨_, rfl, hc, q _ (if_pos hc) g H _ h (Ext.refl g H) (by simp only [RepE, Rep])⟩
    · rw [rx.str]
      have hc := isSome_ite s
      exact .inl ⟨_, rfl, by rw [← lim_eq]; exact hc, q _ (if_pos hc) g H _ h (Ext.refl g H) (by simp only [RepE, Rep])⟩) fun ta h => pe_fmt h
end
end
end PM

/-! PM25: x, y, z = a, b, c. -/
namespace PM
open PySem L2
noncomputable section
def sPar3 (i j l : Nat) (α : AF) : SF := fun sl vh => match α sl vh with
  | .ok [d, e, f] vh' => .nx (((sl.set i (some d)).set j (some e)).set l (some f)) vh'
  | .ok _ _ => .bad
  | .exc x vh' => .ex x sl vh'
  | .bad => .bad
section
variable {W : Wd} {C : Con} {Wx : WX} {X : Cx} {k : Nat} {g g0 : Gh} {H H0 : Hp} {σ : L2.St} {sl : Sl} {vh : VH} {pos : Pos} {a b c : Expr}
theorem ds_par3 {i j l : Nat} {x y z : Str} {px py pz pt : Pos} {kt k2 pt2} {α : AF} (cz : Cz W Wx k X) (ha : DA W Wx X [a, b, c] α) (hi : X.N[i]? = some x := by rfl) (hj : X.N[j]? = some y := by rfl) (hl : X.N[l]? = some z := by rfl) (hij : i ≠ j := by decide) (hil : i ≠ l := by decide) (hjl : j ≠ l := by decide)
    (hx : X.env.scope.names.lookup x = some .local := by rfl) (hy : X.env.scope.names.lookup y = some .local := by rfl) (hz : X.env.scope.names.lookup z = some .local := by rfl)
    (hw : swappedStores [.Tuple [.Name x px, .Name y py, .Name z pz] kt pt] (.Tuple [a, b, c] k2 pt2) X.env = pure (some [x, y, z]) := by rfl)
    (hs : swapsWithSole [.Tuple [.Name x px, .Name y py, .Name z pz] kt pt] (.Tuple [a, b, c] k2 pt2) pos.line X.env = pure false := by rfl) :
    DS W Wx X (.Assign [.Tuple [.Name x px, .Name y py, .Name z pz] kt pt] (.Tuple [a, b, c] k2 pt2) pos) (sPar3 i j l α) := fun C => ps_imp (ps_par3 cz.calm cz.nd hi hj hl hij hil hjl hx hy hz (ha C) hw hs) fun En σ H ⟨g, sl, vh, h, hs, q⟩ => by
  refine ⟨g, sl, vh, h, hs, ?_⟩
  unfold sPar3 at q
  cases r : α sl vh with
  | bad => rw [r] at q; exact q
  | exc x vh' => rw [r] at q; exact fun g1 H1 c od a b d e => q g1 H1 σ c od a b d e
  | ok ds vh' =>
    rw [r] at q
    rcases ds with _ | ⟨d, _ | ⟨e, _ | ⟨f, _ | ⟨f2, ds⟩⟩⟩⟩
    · exact q.elim
    · exact q.elim
    · exact q.elim
    · intro g1 H1 vs h1 s1 x1 r1
      simp only [Reps] at r1
      obtain ⟨v, r, rfl, r2, w, r', rfl, r3, u, r'', rfl, r4, rfl⟩ := r1
      exact ⟨v, w, u, rfl, q g1 H1 _ h1 (((s1.set r2).set r3).set r4) x1⟩
    · exact q.elim
@[simp] theorem x_par3 (i j l : Nat) (α : AF) (sl : Sl) (vh : VH) : sPar3 i j l α sl vh = (match α sl vh with
  | .ok [d, e, f] vh' => .nx (((sl.set i (some d)).set j (some e)).set l (some f)) vh'
  | .ok _ _ => .bad
  | .exc x vh' => .ex x sl vh'
  | .bad => .bad) := rfl
end
end
end PM

/-! PM26: small things for classes. -/
namespace PM
open PySem L2
theorem Cz.fl {W : Wd} {Wx : WX} {k : Nat} {X : Cx} {fa : Nat → Str → Bool} (cz : Cz W Wx k X) (h : Flds W W.K fa) : Flds W X.K fa := by rw [cz.K]; exact h
/-- the j-th statement of a class's body -/
def inCls (s : Stmt) (j : Nat) : Stmt := match s with
  | .ClassDef _ _ _ b _ _ _ _ _ _ _ => b.getD j (.Pass ⟨0, 0, 0, 0⟩)
  | _ => .Pass ⟨0, 0, 0, 0⟩
end PM

/-! PM27: list.extend. -/
namespace PM
open PySem L2
noncomputable section
def mExtend : MP := fun d ds vh => match d, ds with
  | .ref n, [y] => (match vh[n]?, view vh y with
    | some (.lst xs), .lst zs => if xs.length + zs.length ≤ lim then some (.v .non, vh.set n (.lst (xs ++ zs))) else none
    | _, _ => none)
  | _, _ => none
section
variable {W : Wd} {C : Con} {Wx : WX} {X : Cx} {k : Nat} {g g0 : Gh} {H H0 : Hp} {σ : L2.St} {sl : Sl} {vh : VH} {φ : EF} {α : AF} {o a : Expr} {apos cpos : Pos}
theorem pm_extend : PrimM W X rExtend mExtend := by
  intro C g H vh d ds x xs Q h rx rs q s
  unfold mExtend at s q
  cases d with
  | ref n =>
    rcases ds with _ | ⟨y, _ | ⟨y2, ds⟩⟩
    · cases s
    · simp only [Reps] at rs
      obtain ⟨v, _, rfl, ry, rfl⟩ := rs
      have rw' := h.view ry
      simp only [Rep] at rx
      obtain ⟨hn, rfl⟩ := rx
      dsimp only at s q
      cases en : vh[n]? with
      | none => rw [en] at s; cases s
      | some o =>
        rw [en] at s q
        cases o with
        | lst zs =>
          generalize ev : view vh y = dy at s q rw'
          cases dy with
          | lst ws =>
            have hc := isSome_ite s
            obtain ⟨vs, h1, r1⟩ := h.vh n _ en
            obtain ⟨b, us, rfl, h2, r2⟩ := rw'.lst
            have xw := Ext.write (u := .lst (vs ++ us)) h hn
            refine ⟨_, b, vs, us, rfl, rfl, h1, h2, by rw [← r1.length, ← r2.length, ← lim_eq]; exact hc, ?_⟩
            exact q _ _ (if_pos hc) g _ _ (h.write hn ⟨_, upd_same, Reps.mono xw _ _ (r1.append r2)⟩) xw (by simp only [RepE, Rep])
          | _ => cases s
        | _ => cases s
    · cases s
  | _ => cases s
theorem de_extend (hK : X.K = W.K) (ho : DE W Wx X o φ) (ha : DA W Wx X [a] α)
    (hbase : attributeBase o "extend" X.env (eval o X.env) = eval o X.env := by rfl)
    (hfew : ((backTo cpos (starEach (a :: []) X.env)).all (fun x => !x.1) && (backToKw cpos (keywordEach [] X.env)).all (fun x => x.1.isSome)
      && decide ((a :: []).length + ([] : List Keyword).length + (if ([] : List Keyword).isEmpty then 0 else 1) < 30)) = true := by rfl)
    (hline : (apos.endLine == cpos.line) = true := by rfl) (hs : starEach (a :: []) X.env = (false, eval a X.env) :: starEach [] X.env := by rfl) : DE W Wx X (.Call (.Attribute o "extend" apos) [a] [] cpos) (eM "list" mExtend φ α) :=
  de_bm hK PySem.F.plainAttrs_list PySem.F.slot_list_extend PySem.F.type_list_extend mt_extend pm_extend ho ha hbase hfew hline hs
end
end
end PM

/-! PM28: zip of two lists, of two tuples. -/
namespace PM
open PySem L2
noncomputable section
section
variable {W : Wd} {C : Con} {Wx : WX} {X : Cx} {k : Nat} {g g0 g1 : Gh} {H H0 H1 : Hp} {σ : L2.St} {sl : Sl} {vh : VH} {α : AF} {a b tg : Expr}
/-- the sequence at a stands as xs as long as gd holds -/
def StyL (W : Wd) (K : PySem.W.Frag) (a : Addr) (xs : List D) (gd : Option (Nat × O)) (g1 : Gh) (H1 : Hp) : Prop := ∀ (C : Con) g vh H, RelH W C g vh H → Ext g1 H1 g H → gdB gd vh = true → ∃ vs, SqL K H a vs ∧ Reps W g H xs vs
def StyT (W : Wd) (K : PySem.W.Frag) (a : Addr) (xs : List D) (g1 : Gh) (H1 : Hp) : Prop := ∀ (C : Con) g vh H, RelH W C g vh H → Ext g1 H1 g H → ∃ vs, SqT K H a vs ∧ Reps W g H xs vs
def pairs (xs ys : List D) : List D := List.zipWith (fun x y => D.tup [x, y]) xs ys
theorem yi_zipL {K : PySem.W.Frag} {p q : Addr} {xs ys : List D} {gd gd1 gd2 : Option (Nat × O)} (h1 : StyL W K p xs gd1 g1 H1) (h2 : StyL W K q ys gd2 g1 H1) (i1 : ∀ vh, gdB gd vh = true → gdB gd1 vh = true) (i2 : ∀ vh, gdB gd vh = true → gdB gd2 vh = true) :
    YI W (Itz K p q) (pairs xs ys) gd g1 H1 := by
  intro C i g vh H h x hg
  obtain ⟨vs, s1, r1⟩ := h1 C g vh H h x (i1 _ hg)
  obtain ⟨ws, s2, r2⟩ := h2 C g vh H h x (i2 _ hg)
  refine ⟨fun hi => ⟨vs, ws, s1, s2, ?_⟩, fun d hd => ?_⟩
  · simp only [pairs, List.length_zipWith] at hi
    rw [← r1.length, ← r2.length]
    omega
  · unfold pairs at hd
    rw [List.getElem?_zipWith] at hd
    cases e1 : xs[i]? with
    | none => rw [e1] at hd; simp at hd
    | some d1 =>
      cases e2 : ys[i]? with
      | none => rw [e1, e2] at hd; simp at hd
      | some d2 =>
        rw [e1, e2] at hd
        simp at hd
        subst hd
        obtain ⟨v, hv, rv⟩ := r1.get e1
        obtain ⟨w, hw, rw'⟩ := r2.get e2
        refine ⟨⟨vs, ws, v, w, s1, s2, hv, hw⟩, ?_⟩
        rintro z H' ⟨T, x1, y1, rfl, nT, rfl, q1, q2⟩
        have e3 := q1 vs s1
        have e4 := q2 ws s2
        rw [hv] at e3
        rw [hw] at e4
        cases e3
        cases e4
        obtain ⟨a1, b1, c1⟩ := new_tup (xs := [d1, d2]) h nT (Reps.cons rv (Reps.one rw'))
        exact ⟨_, a1, b1, c1⟩
theorem yi_zipT {K : PySem.W.Frag} {p q : Addr} {xs ys : List D} (h1 : StyT W K p xs g1 H1) (h2 : StyT W K q ys g1 H1) : YI W (RZ.ItzT K p q) (pairs xs ys) none g1 H1 := by
  intro C i g vh H h x hg
  obtain ⟨vs, s1, r1⟩ := h1 C g vh H h x
  obtain ⟨ws, s2, r2⟩ := h2 C g vh H h x
  refine ⟨fun hi => ⟨vs, ws, s1, s2, ?_⟩, fun d hd => ?_⟩
  · simp only [pairs, List.length_zipWith] at hi
    rw [← r1.length, ← r2.length]
    omega
  · unfold pairs at hd
    rw [List.getElem?_zipWith] at hd
    cases e1 : xs[i]? with
    | none => rw [e1] at hd; simp at hd
    | some d1 =>
      cases e2 : ys[i]? with
      | none => rw [e1, e2] at hd; simp at hd
      | some d2 =>
        rw [e1, e2] at hd
        simp at hd
        subst hd
        obtain ⟨v, hv, rv⟩ := r1.get e1
        obtain ⟨w, hw, rw'⟩ := r2.get e2
        refine ⟨⟨vs, ws, v, w, s1, s2, hv, hw⟩, ?_⟩
        rintro z H' ⟨T, x1, y1, rfl, nT, rfl, q1, q2⟩
        have e3 := q1 vs s1
        have e4 := q2 ws s2
        rw [hv] at e3
        rw [hw] at e4
        cases e3
        cases e4
        obtain ⟨a1, b1, c1⟩ := new_tup (xs := [d1, d2]) h nT (Reps.cons rv (Reps.one rw'))
        exact ⟨_, a1, b1, c1⟩
theorem sty_tup {xs : List D} {v : V} (r : Rep W g1 H1 (.tup xs) v) : ∃ p vs, v = .ref p ∧ SqT W.K H1 p vs ∧ StyT W W.K p xs g1 H1 := by
  simp only [Rep] at r
  obtain ⟨p, vs, rfl, t, r⟩ := r
  refine ⟨p, vs, rfl, t.sq, fun C g vh H h x => ⟨vs, ?_, Reps.mono x _ _ r⟩⟩
  rcases t with ⟨f, t⟩ | t
  · exact SqT.of (x.keep p _ f trivial t)
  · exact sqT_noH t
/-- a list as zip takes it: its items, its guard -/
def zlOf (vh : VH) (d : D) : Option IV := match d with
  | .lst xs => some ⟨xs, none⟩
  | .ref n => match vh[n]? with
    | some (.lst xs) => some ⟨xs, some (n, .lst xs)⟩
    | _ => none
  | _ => none
theorem sty_lst {iv : IV} {d : D} {v : V} (h : RelH W C g1 vh H1) (r : Rep W g1 H1 d v) (e : zlOf vh d = some iv) : ∃ p vs, v = .ref p ∧ SqL W.K H1 p vs ∧ StyL W W.K p iv.items iv.gd g1 H1 := by
  cases d with
  | lst xs =>
    cases e
    simp only [Rep] at r
    obtain ⟨p, vs, rfl, f, t, r⟩ := r
    exact ⟨p, vs, rfl, SqL.of t, fun C g vh H h x _ => ⟨vs, SqL.of (x.keep p _ f trivial t), Reps.mono x _ _ r⟩⟩
  | ref n =>
    simp only [Rep] at r
    obtain ⟨hn, rfl⟩ := r
    unfold zlOf at e
    dsimp only at e
    cases en : vh[n]? with
    | none => rw [en] at e; cases e
    | some o =>
      rw [en] at e
      cases o with
      | lst xs =>
        cases e
        obtain ⟨vs, t, r'⟩ := h.vh n _ en
        refine ⟨_, vs, rfl, SqL.of t, fun C g vh H h x hg => ?_⟩
        have hg : vh[n]? = some (.lst xs) := by
          unfold gdB at hg
          exact @of_decide_eq_true _ (Classical.propDecidable _) hg
        obtain ⟨vs, t, r'⟩ := h.vh n _ hg
        rw [x.m n hn] at t
        exact ⟨vs, SqL.of t, r'⟩
      | _ => cases e
  | _ => cases e
def zipIV (vh : VH) (d e : D) : Option IV := match d, e with
  | .tup xs, .tup ys => some ⟨pairs xs ys, none⟩
  | d, e => match zlOf vh d, zlOf vh e with
    | some iv, some ⟨ys, none⟩ => some ⟨pairs iv.items ys, iv.gd⟩
    | some ⟨xs, none⟩, some iv => some ⟨pairs xs iv.items, iv.gd⟩
    | _, _ => none
def iZip (α : AF) : IF := fun sl vh => match α sl vh with
  | .ok [d, e] vh' => (match zipIV vh' d e with
    | some iv => .ok iv vh'
    | none => .bad)
  | .ok _ _ => .bad
  | .exc x vh' => .exc x vh'
  | .bad => .bad
theorem zip_iv {iv : IV} {d e : D} {v w : V} (h : RelH W C g1 vh H1) (r : Rep W g1 H1 d v) (r' : Rep W g1 H1 e w) (q : zipIV vh d e = some iv) :
    ∃ a b xs ys, [v, w] = [V.ref a, .ref b] ∧ ((SqL W.K H1 a xs ∧ SqL W.K H1 b ys ∧ YI W (Itz W.K a b) iv.items iv.gd g1 H1) ∨ (SqT W.K H1 a xs ∧ SqT W.K H1 b ys ∧ YI W (RZ.ItzT W.K a b) iv.items iv.gd g1 H1)) := by
  have lists : ∀ (i1 i2 : IV), zlOf vh d = some i1 → zlOf vh e = some i2 → (∀ vh, gdB iv.gd vh = true → gdB i1.gd vh = true) → (∀ vh, gdB iv.gd vh = true → gdB i2.gd vh = true) → iv.items = pairs i1.items i2.items →
      ∃ a b xs ys, [v, w] = [V.ref a, .ref b] ∧ ((SqL W.K H1 a xs ∧ SqL W.K H1 b ys ∧ YI W (Itz W.K a b) iv.items iv.gd g1 H1) ∨ (SqT W.K H1 a xs ∧ SqT W.K H1 b ys ∧ YI W (RZ.ItzT W.K a b) iv.items iv.gd g1 H1)) := by
    intro i1 i2 e1 e2 c1 c2 ei
    obtain ⟨p, vs, rfl, s1, t1⟩ := sty_lst h r e1
    obtain ⟨q, ws, rfl, s2, t2⟩ := sty_lst h r' e2
    exact ⟨p, q, vs, ws, rfl, .inl ⟨s1, s2, by rw [ei]; exact yi_zipL t1 t2 c1 c2⟩⟩
  unfold zipIV at q
  split at q
  · cases q
    obtain ⟨p, vs, rfl, s1, t1⟩ := sty_tup r
    obtain ⟨p2, ws, rfl, s2, t2⟩ := sty_tup r'
    exact ⟨p, p2, vs, ws, rfl, .inr ⟨s1, s2, yi_zipT t1 t2⟩⟩
  · split at q
    · rename_i e1 e2
      cases q
      exact lists _ _ e1 e2 (fun _ z => z) (fun _ _ => rfl) rfl
    · rename_i e1 e2
      cases q
      exact lists _ _ e1 e2 (fun _ _ => rfl) (fun _ z => z) rfl
    · cases q
theorem di_zip {elts : List Expr} {kk : Nat} {tpos p pos : Pos} (hK : X.K = W.K) (hg : Gl X "zip") (hm : X.mg "zip" = none) (ha : DA W Wx X [a, b] α)
    (hs : starEach [a, b] X.env = (false, eval a X.env) :: starEach [b] X.env := by rfl) (hpl : (backTo pos (starEach [b] X.env)).any (·.1) = false := by rfl) :
    DI W Wx X (.Tuple elts kk tpos) (.Call (.Name "zip" p) [a, b] [] pos) (iZip α) := fun C =>
  pi_imp (RZ.pi_zipA hg hm (ha C) hs hpl) fun σ H Q ⟨g, sl, vh, h, hs, q⟩ => by
    refine ⟨g, sl, vh, h, hs, ?_⟩
    unfold iZip at q
    cases r : α sl vh with
    | bad => rw [r] at q; exact q
    | exc x vh' => rw [r] at q; exact q
    | ok ds vh' =>
      rw [r] at q
      rcases ds with _ | ⟨d, _ | ⟨e, _ | ⟨f, ds⟩⟩⟩
      · exact q.elim
      · exact q.elim
      · intro g1 H1 v1 h1 s1 x1 r1
        simp only [Reps] at r1
        obtain ⟨v, _, rfl, rv, w, _, rfl, rw', rfl⟩ := r1
        dsimp only at q
        cases ei : zipIV vh' d e with
        | none => rw [ei] at q; exact q.elim
        | some iv =>
          rw [ei] at q
          obtain ⟨p, p2, xs, ys, e1, hz⟩ := zip_iv h1 rv rw' ei
          refine ⟨p, p2, xs, ys, e1, ?_⟩
          rw [hK]
          rcases hz with ⟨z1, z2, z3⟩ | ⟨z1, z2, z3⟩
          · exact .inl ⟨z1, z2, q g1 H1 _ h1 s1 x1 z3⟩
          · exact .inr ⟨z1, z2, q g1 H1 _ h1 s1 x1 z3⟩
      · exact q.elim
end
end
end PM

/-! PM29: str(x), sorted of texts, xs.count(y), join, setdefault, dict displays, dicts of the module. -/
namespace PM
open PySem L2
noncomputable section

def bStr : D → Option EV
  | .str y => vS y
  | .int i => if i.natAbs.log2 < 1920 then vS (toString i) else none
  | _ => none
def strsOf : List D → Option (List Str)
  | [] => some []
  | .str x :: r => (strsOf r).map (x :: ·)
  | _ => none
/-- by code points -/
def leS (x y : Str) : Bool := decide (x.cps.toList ≤ y.cps.toList)
/-- the texts, rising -/
def srtS (xs : List Str) : List Str := xs.mergeSort leS
def bSrt : D → Option EV
  | .lst xs => (strsOf xs).bind fun ys => if ys.length < 64 then some (.f (.lst ((srtS ys).map D.str))) else none
  | _ => none
def sumL (ys : List Str) : Nat := (ys.map (·.length)).sum
/-- sep.join(xs) -/
def mJoin : MP := fun d ds vh => match d, ds with
  | .str a, [x] => (match view vh x with
    | .lst xs => (strsOf xs).bind fun ys => if sumL ys + ys.length * a.length ≤ lim then some (.v (.str (Txt.join a ys)), vh) else none
    | .tup xs => (strsOf xs).bind fun ys => if sumL ys + ys.length * a.length ≤ lim then some (.v (.str (Txt.join a ys)), vh) else none
    | _ => none)
  | _, _ => none
/-- xs.count(y) -/
def mCount : MP := fun d ds vh => match view vh d, ds with
  | .lst xs, [y] => (match scV y, scVs xs with
    | some a, some bs => some (.v (.int ((bs.countP fun z => eqV z a : Nat) : Int)), vh)
    | _, _ => none)
  | _, _ => none
theorem leS_antisymm {x y : Str} (h : leS x y = true) (k : leS y x = true) : x = y := by
  have e : x.cps.toList = y.cps.toList := List.le_antisymm (of_decide_eq_true h) (of_decide_eq_true k)
  cases x; cases y; simp only [Str.mk.injEq]; exact Array.toList_inj.mp e
theorem leS_trans (x y z : Str) (h : leS x y = true) (k : leS y z = true) : leS x z = true := decide_eq_true (List.le_trans (of_decide_eq_true h) (of_decide_eq_true k))
theorem leS_total (x y : Str) : (leS x y || leS y x) = true := by
  rcases List.le_total x.cps.toList y.cps.toList with h | h
  · rw [leS, decide_eq_true h]; rfl
  · rw [Bool.or_eq_true]; exact .inr (decide_eq_true h)
theorem ltC_le {x y : Str} (h : (!Spec.ltCps x.cps.toList y.cps.toList) = true) : leS y x = true := by
  rw [PyProof.Rows.ltCps_eq] at h
  exact decide_eq_true (List.not_lt.mp (by simpa using h))
theorem risingS_pw : ∀ (r : List Str) (p : Str), PyProof.Rows.risingS p r = true → (p :: r).Pairwise fun a b => leS a b = true
  | [], p, _ => by simp
  | x :: r, p, h => by
    simp only [PyProof.Rows.risingS, Bool.and_eq_true] at h
    have ih := risingS_pw r x h.2
    have h1 := ltC_le h.1
    refine List.pairwise_cons.mpr ⟨fun y hy => ?_, ih⟩
    rcases List.mem_cons.mp hy with rfl | hy
    · exact h1
    · exact leS_trans _ _ _ h1 ((List.pairwise_cons.mp ih).1 y hy)
theorem sortedS_pw {ys : List Str} (h : PyProof.Rows.sortedS ys = true) : ys.Pairwise fun a b => leS a b = true := by
  cases ys with
  | nil => exact .nil
  | cons x r => exact risingS_pw r x h
theorem srtS_eq {xs ys : List Str} (p : ys.Perm xs) (h : PyProof.Rows.sortedS ys = true) : ys = srtS xs :=
  List.Perm.eq_of_pairwise (le := fun a b => leS a b = true) (fun a b _ _ h k => leS_antisymm h k) (sortedS_pw h) (List.pairwise_mergeSort leS_trans leS_total xs) (p.trans (List.mergeSort_perm xs leS).symm)
section
variable {W : Wd} {C : Con} {Wx : WX} {X : Cx} {k : Nat} {g g0 : Gh} {H H0 : Hp} {σ : L2.St} {sl : Sl} {vh : VH} {φ ψ χ : EF} {α : AF} {pos : Pos} {e a b o : Expr} {x : Str} {p0 apos cpos : Pos}
theorem p_str : Prim1 W X (fun x H Q => (∃ i : Int, [x] = [V.int i] ∧ i.natAbs.log2 < 1920 ∧ Q (.str (toString i)) H) ∨ ∃ a : Str, [x] = [V.str a] ∧ Q (.str a) H) bStr := by
  intro C g H vh dx x Q h rx q s
  cases dx <;> try (simp [bStr] at s; done)
  · rw [rx.int]
    have hc := isSome_ite s
    exact .inl ⟨_, rfl, hc, q _ (if_pos hc) g H _ h (Ext.refl g H) (by simp only [RepE, Rep])⟩
  · rw [rx.str]
    exact .inr ⟨_, rfl, q _ rfl g H _ h (Ext.refl g H) (by simp only [RepE, Rep])⟩
theorem de_strc (hg : Gl X "str") (hm : X.mg "str" = none) (ha : DE W Wx X a φ) (he : starEach (a :: []) X.env = (false, eval a X.env) :: starEach [] X.env := by rfl) : DE W Wx X (.Call (.Name "str" p0) [a] [] pos) (e1 bStr φ) :=
  de_t1 (call_str_int.or SkE.call_str_str) p_str hg hm ha (he := he)
theorem strsOf_rep : ∀ {xs : List D} {vs : List V} {ys : List Str}, Reps W g H xs vs → strsOf xs = some ys → vs = ys.map V.str
  | [], vs, ys, r, e => by
    simp only [Reps] at r
    cases e
    exact r
  | x :: xs, vs, ys, r, e => by
    simp only [Reps] at r
    obtain ⟨v, s, rfl, h1, h2⟩ := r
    cases x with
    | str z =>
      simp only [strsOf] at e
      cases e2 : strsOf xs with
      | none => rw [e2] at e; cases e
      | some zs =>
        rw [e2] at e
        cases e
        rw [strsOf_rep h2 e2]
        simp only [Rep] at h1
        subst h1
        rfl
    | _ => cases e
theorem reps_strs (ys : List Str) : Reps W g H (ys.map D.str) (ys.map V.str) := by
  induction ys with
  | nil => exact Reps.nil
  | cons y r ih => exact Reps.cons (by simp only [Rep]) ih
theorem p_srt (hK : X.K = W.K) : Prim1 W X (fun x H Q => rSortedS X.K [x] H Q) bSrt := by
  intro C g H vh dx x Q h rx q s
  cases dx <;> try (simp [bSrt] at s; done)
  rename_i xs
  obtain ⟨a, vs, rfl, h1, r1⟩ := rx.lst
  simp only [bSrt] at s q
  cases e : strsOf xs with
  | none => rw [e] at s; cases s
  | some ys =>
    rw [e] at s q
    simp only [Option.bind_some] at s q
    have hc := isSome_ite s
    have ev := strsOf_rep r1 e
    subst ev
    refine ⟨a, ys, rfl, SqL.of h1, hc, fun zs p pm st np => ?_⟩
    have ez := srtS_eq pm st
    subst ez
    exact q _ (if_pos hc) _ _ _ (h.new np) (Ext.new h np) (new_lst h np (reps_strs _))
theorem de_srt (hK : X.K = W.K) (hg : Gl X "sorted") (hm : X.mg "sorted" = none) (ha : DE W Wx X a φ) (he : starEach (a :: []) X.env = (false, eval a X.env) :: starEach [] X.env := by rfl) : DE W Wx X (.Call (.Name "sorted" p0) [a] [] pos) (e1 bSrt φ) :=
  de_b1 cr_sortedS (p_srt hK) hg hm ha (he := he)
/-! ### count, join -/
def rCnt (K : PySem.W.Frag) : V → List V → Hp → VK → Prop := fun x xs H Q => ∃ (p : Addr) (ys : List V) (y : V), x = .ref p ∧ xs = [y] ∧ SqL K H p ys ∧ flatV y = true ∧ ys.all flatV = true ∧ Q (.int (ys.countP (fun z => eqV z y) : Nat)) H
theorem countU {y : V} : ∀ {xs : List V} {us : List Value}, Vals xs us → xs.all flatV = true → us.countP (eqU y) = xs.countP (fun z => eqV z y)
  | _, _, .nil, _ => rfl
  | _, _, .cons r t, f => by
    rw [List.all_cons, Bool.and_eq_true] at f
    rw [List.countP_cons, List.countP_cons, countU t f.2, eqU_of r f.1]
theorem mt_cnt : MtR X "list.count" (rCnt X.K) := by
  intro pins s σ H x xs v us Q I rx rxs h
  obtain ⟨p, ys, y, rfl, rfl, hs, fy, fys, q⟩ := h
  cases rx
  cases rxs with
  | cons ry rt =>
    rename_i uy ut
    cases rt
    obtain ⟨its, rv, ⟨⟨cls, dd, data, sl⟩, n, ho, hc, hdn, hd⟩, hlen⟩ := I.list hs
    simp only at hc hd
    subst hc hd
    refine call_meets PySem.F.slot_list_count ⟨_, ho, rfl⟩ PySem.F.entry_list_count (PySem.F.args_list_count_2 _ _)
      (SeqAt.list_countAt p its.toArray n dd sl uy (eqU y)) ⟨ho, fun u' hu' => mem_eqAt ry fy rv fys u' (by simpa using hu'), ?_⟩
    have ec : its.toArray.toList.countP (eqU y) = ys.countP (fun z => eqV z y) := countU rv fys
    refine ⟨.int (ys.countP (fun z => eqV z y) : Nat), H, I.tok _, ⟨s.toks, ?_⟩, q⟩
    show Value.int ((its.toArray.toList.countP (eqU y) : Nat) : Int) s.toks = Value.int ((ys.countP (fun z => eqV z y) : Nat) : Int) s.toks
    rw [ec]
theorem pm_count (hK : X.K = W.K) : PrimM W X (rCnt X.K) mCount := by
  intro C g H vh d ds x xs Q h rx rs q s
  have rv := h.view rx
  unfold mCount at s q
  cases e : view vh d with
  | lst zs =>
    rw [e] at s q rv
    obtain ⟨a, vs, rfl, h1, r1⟩ := rv.lst
    rcases ds with _ | ⟨y, _ | ⟨y2, ds⟩⟩
    · cases s
    · simp only [Reps] at rs
      obtain ⟨v, _, rfl, ry, rfl⟩ := rs
      dsimp only at s q
      cases e1 : scV y with
      | none => rw [e1] at s; cases s
      | some b =>
        cases e2 : scVs zs with
        | none => rw [e1, e2] at s; cases s
        | some bs =>
          rw [e1, e2] at q
          have evs : vs = bs := r1.sc e2
          have evb : v = b := RepW.sc (.inl ry) e1
          subst evs evb
          exact ⟨a, vs, v, rfl, rfl, SqL.of h1, scV_flat e1, scVs_flat e2, q _ _ rfl g H _ h (Ext.refl g H) (by simp only [RepE, Rep])⟩
    · cases s
  | _ => rw [e] at s; cases s
theorem de_count (hK : X.K = W.K) (ho : DE W Wx X o φ) (ha : DA W Wx X [a] α)
    (hbase : attributeBase o "count" X.env (eval o X.env) = eval o X.env := by rfl)
    (hfew : ((backTo cpos (starEach (a :: []) X.env)).all (fun x => !x.1) && (backToKw cpos (keywordEach [] X.env)).all (fun x => x.1.isSome)
      && decide ((a :: []).length + ([] : List Keyword).length + (if ([] : List Keyword).isEmpty then 0 else 1) < 30)) = true := by rfl)
    (hline : (apos.endLine == cpos.line) = true := by rfl) (hs : starEach (a :: []) X.env = (false, eval a X.env) :: starEach [] X.env := by rfl) : DE W Wx X (.Call (.Attribute o "count" apos) [a] [] cpos) (eM "list" mCount φ α) :=
  de_bm hK PySem.F.plainAttrs_list PySem.F.slot_list_count PySem.F.type_list_count mt_cnt (pm_count hK) ho ha hbase hfew hline hs
def rJoin (K : PySem.W.Frag) : V → List V → Hp → VK → Prop := fun x xs H Q => ∃ a p, ∃ ys : List Str, x = .str a ∧ xs = [.ref p] ∧ (SqL K H p (ys.map V.str) ∨ SqT K H p (ys.map V.str)) ∧ (ys.map (·.length)).sum + ys.length * a.length ≤ 16777216 ∧ Q (.str (Txt.join a ys)) H
theorem pm_join (hK : X.K = W.K) : PrimM W X (rJoin X.K) mJoin := by
  intro C g H vh d ds x xs Q h rx rs q s
  unfold mJoin at s q
  cases d with
  | str z =>
    simp only [Rep] at rx
    subst rx
    rcases ds with _ | ⟨y, _ | ⟨y2, ds⟩⟩
    · cases s
    · simp only [Reps] at rs
      obtain ⟨v, _, rfl, ry, rfl⟩ := rs
      have rv := h.view ry
      dsimp only at s q
      cases e : view vh y with
      | lst zs =>
        rw [e] at s q rv
        obtain ⟨a, vs, rfl, h1, r1⟩ := rv.lst
        dsimp only at s q
        cases e1 : strsOf zs with
        | none => rw [e1] at s; cases s
        | some ys =>
          rw [e1] at s q
          simp only [Option.bind_some] at s q
          have hc := isSome_ite s
          have ev := strsOf_rep r1 e1
          subst ev
          exact ⟨z, a, ys, rfl, rfl, .inl (SqL.of h1), by rw [lim_val] at hc; exact hc, q _ _ (if_pos hc) g H _ h (Ext.refl g H) (by simp only [RepE, Rep])⟩
      | tup zs =>
        rw [e] at s q rv
        obtain ⟨a, vs, rfl, h1, r1⟩ := rv.tup
        dsimp only at s q
        cases e1 : strsOf zs with
        | none => rw [e1] at s; cases s
        | some ys =>
          rw [e1] at s q
          simp only [Option.bind_some] at s q
          have hc := isSome_ite s
          have ev := strsOf_rep r1 e1
          subst ev
          exact ⟨z, a, ys, rfl, rfl, .inr (by rw [hK]; exact h1), by rw [lim_val] at hc; exact hc, q _ _ (if_pos hc) g H _ h (Ext.refl g H) (by simp only [RepE, Rep])⟩
      | _ => rw [e] at s; cases s
    · cases s
  | _ => cases s
theorem de_joinS (hK : X.K = W.K) (ho : DE W Wx X o φ) (ha : DA W Wx X [a] α)
    (hbase : attributeBase o "join" X.env (eval o X.env) = eval o X.env := by rfl)
    (hfew : ((backTo cpos (starEach (a :: []) X.env)).all (fun x => !x.1) && (backToKw cpos (keywordEach [] X.env)).all (fun x => x.1.isSome)
      && decide ((a :: []).length + ([] : List Keyword).length + (if ([] : List Keyword).isEmpty then 0 else 1) < 30)) = true := by rfl)
    (hline : (apos.endLine == cpos.line) = true := by rfl) (hs : starEach (a :: []) X.env = (false, eval a X.env) :: starEach [] X.env := by rfl) : DE W Wx X (.Call (.Attribute o "join" apos) [a] [] cpos) (eM "str" mJoin φ α) :=
  de_bm hK PySem.F.plainAttrs_str PySem.F.slot_str_join PySem.F.type_str_join mt_join (pm_join hK) ho ha hbase hfew hline hs
end
end
end PM

/-! PM30: setdefault, dict displays, dicts of the module. -/
namespace PM
open PySem L2
noncomputable section

/-! ### d.setdefault(k, x) -/
def isDctR (vh : VH) : D → Bool
  | .ref n => match vh[n]? with
    | some (.dct _) => true
    | _ => false
  | _ => false
def dSetd (d y z : D) (vh : VH) : R EV := match d with
  | .ref n => (match vh[n]? with
    | some (.dct kvs) => (match keyD y with
      | some ky => if kvs.length < lim then (match dget kvs ky with
        | some v => .ok (.v v) vh
        | none => .ok (.v z) (vh.set n (.dct (dput kvs y z)))) else .bad
      | none => .bad)
    | _ => .bad)
  | _ => .bad
def eSetd (φ ψ χ : EF) : EF := eb φ fun d => fun sl vh => if isDctR vh d = true then eb ψ (fun y => eb χ fun z _ vh => dSetd d y z vh) sl vh else .bad
section
variable {W : Wd} {C : Con} {Wx : WX} {X : Cx} {k : Nat} {g g0 : Gh} {H H0 : Hp} {σ : L2.St} {sl : Sl} {vh : VH} {φ ψ χ : EF} {α : AF} {pos : Pos} {e a b o : Expr} {x : Str} {p0 apos cpos : Pos}
theorem de_setd (ho : DE W Wx X o φ) (ha : DE W Wx X a ψ) (hb : DE W Wx X b χ)
    (hbase : attributeBase o "setdefault" X.env (eval o X.env) = eval o X.env := by rfl)
    (hfew : ((backTo cpos (starEach [a, b] X.env)).all (fun x => !x.1) && (backToKw cpos (keywordEach [] X.env)).all (fun x => x.1.isSome)
      && decide (([a, b] : List Expr).length + ([] : List Keyword).length + (if ([] : List Keyword).isEmpty then 0 else 1) < 30)) = true := by rfl)
    (hline : (apos.endLine == cpos.line) = true := by rfl) (htr : backTo cpos (starEach [a, b] X.env) = [(false, eval a X.env), (false, eval b X.env)] := by rfl) :
    DE W Wx X (.Call (.Attribute o "setdefault" apos) [a, b] [] cpos) (eSetd φ ψ χ) := fun C =>
  pe_imp (pe_dsetd (ho C) (ha C) (hb C) ⟨hbase, hfew, hline, htr⟩) fun σ H Q ⟨g, sl, vh, h, hs, q⟩ =>
    (TDE.bind h hs (Ext.refl g H) q).mono fun v1 H1 ⟨g1, vh1, d, i1, s1, x1, _, p1, q1⟩ => by
      split at q1
      · rename_i hd
        cases d with
        | ref n =>
          simp only [isDctR] at hd
          simp only [Rep] at p1
          obtain ⟨hn, rfl⟩ := p1
          cases en : vh1[n]? with
          | none => rw [en] at hd; cases hd
          | some ob =>
            rw [en] at hd
            cases ob with
            | dct kvs =>
              obtain ⟨ws, hw, _⟩ := i1.vh n _ en
              refine ⟨_, rfl, .inl ⟨ws, .inl hw⟩, ?_⟩
              refine (TDE.bind i1 s1 x1 q1).mono fun v2 H2 ⟨g2, vh2, y, i2, s2, x2, x2', p2, q2⟩ => ?_
              refine (TDE.bind i2 s2 x2 q2).mono fun v3 H3 ⟨g3, vh3, z, i3, s3, x3, x3', p3, q3⟩ => ?_
              have hn3 : n < g3.n := Nat.lt_of_lt_of_le hn (Nat.le_trans x2'.n x3'.n)
              have em : g3.m n = g1.m n := (x3'.m n (Nat.lt_of_lt_of_le hn x2'.n)).trans (x2'.m n hn)
              simp only [dSetd] at q3
              cases en3 : vh3[n]? with
              | none => rw [en3] at q3; exact q3.elim
              | some ob3 =>
                rw [en3] at q3
                cases ob3 with
                | dct kvs3 =>
                  dsimp only at q3
                  cases ek : keyD y with
                  | none => rw [ek] at q3; exact q3.elim
                  | some ky =>
                    rw [ek] at q3
                    dsimp only at q3
                    split at q3
                    · rename_i hl
                      obtain ⟨ws3, hw3, rk⟩ := i3.vh n _ en3
                      rw [em] at hw3
                      have p2' := Rep.mono x3' _ _ p2
                      refine ⟨ws3, ky, hw3, keyD_kV (.inl p2') ek, by rw [← rk.length, ← lim_eq]; exact hl, ?_, ?_⟩
                      · intro v hv
                        rcases rk.get ky with ⟨e1, e2⟩ | ⟨d2, v2, e1, e2, r2⟩
                        · rw [e2] at hv; cases hv
                        · rw [e2] at hv
                          cases hv
                          rw [e1] at q3
                          exact q3 g3 H3 v i3 s3 x3 r2
                      · intro hv
                        rcases rk.get ky with ⟨e1, e2⟩ | ⟨d2, v2, e1, e2, r2⟩
                        · rw [e1] at q3
                          have xw := Ext.write (u := .dK (putK ws3 ky v3)) i3 hn3
                          rw [← em]
                          exact q3 g3 _ v3 (i3.write hn3 ⟨_, upd_same, (RepKV.mono xw _ _ (rk.put ek p3))⟩) (s3.mono xw) (x3.trans xw) (Rep.mono xw _ _ p3)
                        · rw [e2] at hv; cases hv
                    · exact q3.elim
                | _ => exact q3.elim
            | _ => cases hd
        | _ => simp [isDctR] at hd
      · exact q1.elim

/-! ### {k: v, ..} -/
def ePairs : List (EF × EF) → Sl → VH → R (List (D × D))
  | [], _, vh => .ok [] vh
  | (φ, ψ) :: r, sl, vh => match φ sl vh with
    | .ok x vh1 => (match ψ sl vh1 with
      | .ok y vh2 => (match ePairs r sl vh2 with
        | .ok l vh3 => .ok ((x.d, y.d) :: l) vh3
        | .exc x vh' => .exc x vh'
        | .bad => .bad)
      | .exc x vh' => .exc x vh'
      | .bad => .bad)
    | .exc x vh' => .exc x vh'
    | .bad => .bad
def okKeys (l : List (D × D)) : Bool := l.all fun p => (keyD p.1).isSome
def eDisp (ps : List (EF × EF)) : EF := fun sl vh => match ePairs ps sl vh with
  | .ok l vh' => if okKeys l = true then .ok (.f (.dct (dmerge [] l))) vh' else .bad
  | .exc x vh' => .exc x vh'
  | .bad => .bad
inductive DPs (W : Wd) (Wx : WX) (X : Cx) : List (Option Expr) → List Expr → List (EF × EF) → Prop where
  | nil : DPs W Wx X [] [] []
  | cons {k v : Expr} {ks : List (Option Expr)} {vs : List Expr} {φ ψ : EF} {ps : List (EF × EF)} (h1 : DE W Wx X k φ) (h2 : DE W Wx X v ψ) (r : DPs W Wx X ks vs ps) : DPs W Wx X (some k :: ks) (v :: vs) ((φ, ψ) :: ps)
theorem DPs.pps {ks : List (Option Expr)} {vs : List Expr} {ps : List (EF × EF)} (h : DPs W Wx X ks vs ps) (C : Con) : PPs X pos ks vs (ps.map fun p => (TDE W C Wx p.1, TDE W C Wx p.2)) := by
  induction h with
  | nil => exact pps_nil
  | cons h1 h2 _ ih => exact pps_cons (h1 C) (h2 C) ih
theorem DPs.all {ks : List (Option Expr)} {vs : List Expr} {ps : List (EF × EF)} (h : DPs W Wx X ks vs ps) : ks.all (·.isSome) = true ∧ ks.length = vs.length := by
  induction h with
  | nil => exact ⟨rfl, rfl⟩
  | cons h1 h2 _ ih => exact ⟨by simp [ih.1], by simp [ih.2]⟩
/-- pairs as represented -/
def RepPs (W : Wd) (g : Gh) (H : Hp) : List (D × D) → List (V × V) → Prop
  | [], l => l = []
  | (x, y) :: r, l => ∃ u v s, l = (u, v) :: s ∧ Rep W g H x u ∧ Rep W g H y v ∧ RepPs W g H r s
def TDX (W : Wd) (Wx : WX) (φ : EF) : TE := fun σ H Q => ∃ C, TDE W C Wx φ σ H Q
theorem de_tx (h : DE W Wx X e φ) : PE X e (TDX W Wx φ) := ⟨fun pins s σ H Q I ⟨C, q⟩ => (h C).run pins s σ H Q I q⟩
theorem DPs.ppx {ks : List (Option Expr)} {vs : List Expr} {ps : List (EF × EF)} (h : DPs W Wx X ks vs ps) : PPs X pos ks vs (ps.map fun p => (TDX W Wx p.1, TDX W Wx p.2)) := by
  induction h with
  | nil => exact pps_nil
  | cons h1 h2 _ ih => exact pps_cons (de_tx h1) (de_tx h2) ih
def PostP (W : Wd) (C : Con) (Wx : WX) (g0 : Gh) (H0 : Hp) (σ : L2.St) (sl : Sl) (r : R (List (D × D))) (K : List (V × V) → Hp → Prop) : Prop := match r with
  | .bad => False
  | .ok l vh => ∀ g H ws, RelH W C g vh H → RelS W g H sl σ → Ext g0 H0 g H → RepPs W g H l ws → K ws H
  | .exc x vh => ∀ g H c od, RelH W C g vh H → RelS W g H sl σ → Ext g0 H0 g H → XRep W g H x c od → Wx c od σ H
theorem pairs_run : ∀ (ps : List (EF × EF)) (g : Gh) (H : Hp) (vh : VH) (K : List (V × V) → Hp → Prop), RelH W C g vh H → RelS W g H sl σ → PostP W C Wx g H σ sl (ePairs ps sl vh) K →
    tPairs (ps.map fun p => (TDX W Wx p.1, TDX W Wx p.2)) σ H K
  | [], g, H, vh, K, h, hs, q => q g H [] h hs (Ext.refl g H) rfl
  | (φ, ψ) :: r, g, H, vh, K, h, hs, q => by
    show TDX W Wx φ σ H _
    refine ⟨C, g, sl, vh, h, hs, ?_⟩
    unfold ePairs at q
    cases r1 : φ sl vh with
    | bad => rw [r1] at q; exact q
    | exc x vh' => rw [r1] at q; exact q
    | ok ev vh1 =>
      rw [r1] at q
      intro g1 H1 v1 h1 s1 x1 p1
      obtain ⟨g2, h2, x2, p2⟩ := p1.freeze h1
      refine ⟨C, g2, sl, vh1, h2, s1.mono x2, ?_⟩
      show PostE W C Wx g2 H1 σ sl (ψ sl vh1) _
      dsimp only at q
      cases r2 : ψ sl vh1 with
      | bad => rw [r2] at q; exact q
      | exc x vh' => rw [r2] at q; exact fun g3 H3 c od a b d e => q g3 H3 c od a b ((x1.trans x2).trans d) e
      | ok ev2 vh2 =>
        rw [r2] at q
        intro g3 H3 v3 h3 s3 x3 p3
        obtain ⟨g4, h4, x4, p4⟩ := p3.freeze h3
        have xx := (x1.trans x2).trans (x3.trans x4)
        refine pairs_run r g4 H3 vh2 _ h4 (s3.mono x4) ?_
        dsimp only at q
        cases r3 : ePairs r sl vh2 with
        | bad => rw [r3] at q; exact q
        | exc x vh' => rw [r3] at q; exact fun g5 H5 c od a b d e => q g5 H5 c od a b (xx.trans d) e
        | ok l vh3 =>
          rw [r3] at q
          exact fun g5 H5 ws h5 s5 x5 rp => q g5 H5 _ h5 s5 (xx.trans x5) ⟨_, _, _, rfl, Rep.mono ((x3.trans x4).trans x5) _ _ p2, Rep.mono x5 _ _ p4, rp⟩
theorem RepPs.kv : ∀ {l : List (D × D)} {ws : List (V × V)}, RepPs W g H l ws → okKeys l = true → ∃ kvs : List (Key × V), ws = kvs.map (fun kv => (kV kv.1, kv.2)) ∧ RepKV W g H l kvs ∧ kvs.length = l.length
  | [], ws, r, _ => ⟨[], r, by simp [RepKV], rfl⟩
  | (x, y) :: l, ws, r, o => by
    obtain ⟨u, v, s, rfl, h1, h2, h3⟩ := r
    simp only [okKeys, List.all_cons, Bool.and_eq_true] at o
    cases ek : keyD x with
    | none => rw [ek] at o; exact absurd o.1 (by simp)
    | some ky =>
      obtain ⟨kvs, e1, e2, e3⟩ := RepPs.kv h3 o.2
      refine ⟨(ky, v) :: kvs, ?_, ?_, by simp [e3]⟩
      · rw [List.map_cons, ← e1, keyD_kV (.inl h1) ek]
      · simp only [RepKV]; exact ⟨ky, v, kvs, rfl, ek, h2, e2⟩
theorem ePairs_len : ∀ {ps : List (EF × EF)} {vh vh' : VH} {l : List (D × D)}, ePairs ps sl vh = .ok l vh' → l.length = ps.length
  | [], vh, vh', l, e => by cases e; rfl
  | (φ, ψ) :: r, vh, vh', l, e => by
    unfold ePairs at e
    cases r1 : φ sl vh with
    | bad => rw [r1] at e; cases e
    | exc x vh' => rw [r1] at e; cases e
    | ok ev vh1 =>
      rw [r1] at e
      dsimp only at e
      cases r2 : ψ sl vh1 with
      | bad => rw [r2] at e; cases e
      | exc x vh' => rw [r2] at e; cases e
      | ok ev2 vh2 =>
        rw [r2] at e
        dsimp only at e
        cases r3 : ePairs r sl vh2 with
        | bad => rw [r3] at e; cases e
        | exc x vh' => rw [r3] at e; cases e
        | ok l2 vh3 =>
          rw [r3] at e
          cases e
          simp [ePairs_len r3]
theorem DPs.len {ks : List (Option Expr)} {vs : List Expr} {ps : List (EF × EF)} (h : DPs W Wx X ks vs ps) : ps.length = ks.length := by
  induction h with
  | nil => rfl
  | cons h1 h2 _ ih => simp [ih]
theorem de_disp {ks : List (Option Expr)} {vs : List Expr} {ps : List (EF × EF)} (hp : DPs W Wx X ks vs ps) (h0 : ks ≠ [] := by exact fun h => nomatch h) (h15 : ks.length ≤ 15 := by decide) : DE W Wx X (.Dict ks vs pos) (eDisp ps) := fun C =>
  pe_imp (pe_disp hp.ppx hp.all.1 hp.all.2 h0 h15) fun σ H Q ⟨g, sl, vh, h, hs, q⟩ p np => by
    have hD : (upd H p (.dK [])) p ≠ none := by rw [upd_same]; exact fun z => by cases z
    obtain ⟨f1, f2, f3⟩ := h.free np
    have p1 : Pend C g p := ⟨f1, f2, f3⟩
    have xn : Ext g H g (upd H p (.dK [])) := Ext.new h np
    have h1 : RelH W C g vh (upd H p (.dK [])) := h.new np
    have hk := h1.keep p1 hD
    refine pairs_run ps g _ vh _ hk (hs.mono xn) ?_
    unfold eDisp at q
    cases r : ePairs ps sl vh with
    | bad => rw [r] at q; exact q
    | exc x vh' =>
      rw [r] at q
      exact fun g2 H2 c od a b d e => q g2 H2 c od (h1.unkeep p1 a).1 b (xn.trans d) e
    | ok l vh' =>
      rw [r] at q
      dsimp only at q
      split at q
      · rename_i ho
        intro g2 H2 ws h2 s2 x2 rp
        obtain ⟨h3, p3, e3⟩ := h1.unkeep p1 h2
        obtain ⟨kvs, e1, e2, e4⟩ := rp.kv ho
        refine ⟨by rw [e3, upd_same], kvs, e1, ?_, ?_⟩
        · have := ePairs_len r
          have := hp.len
          omega
        · have nx := nx_dK (e3.trans upd_same)
          have xu := Ext.upd (H := H2) (u := .dK (mergeK [] kvs)) p3.nf nx
          exact q g2 _ (.ref p) (h3.pend p3 nx) (s2.mono xu) ((xn.trans x2).trans xu) ⟨p, rfl, ⟨_, upd_same, RepKV.mono xu _ _ (e2.merge (by simp [RepKV]))⟩, p3.nf, p3.np, p3.nfr⟩
      · exact q.elim

/-! ### dicts of the module: text keys, written values -/
def gdcB (K : PySem.W.Frag) (x : Str) (kvs : List (D × D)) : Bool := kvs.all fun p => match p.1 with
  | .str z => (match PySem.W.nsIn K (He.ga K x) z with
    | some (some u) => valB K p.2 u
    | _ => false)
  | _ => false
def GlDc (K : PySem.W.Frag) (w : World) (mg : Str → Option Value) (x : Str) (kvs : List (D × D)) : Prop :=
  ∃ a, mg x = some (.ref a) ∧ ∀ z d, dget kvs (.inr z) = some d → ∃ v, KDct K w a z v ∧ ∀ (W : Wd) (g : Gh) (H : Hp), W.K = K → Rep W g H d v
theorem dget_mem {z : Str} {d : D} : ∀ {kvs : List (D × D)}, dget kvs (.inr z) = some d → (D.str z, d) ∈ kvs
  | [], e => by cases e
  | (k, x) :: r, e => by
    unfold dget at e
    split at e
    · rename_i hk
      cases e
      cases k with
      | str y =>
        simp only [keyD, Option.some.injEq, Sum.inr.injEq] at hk
        subst hk
        exact List.mem_cons_self ..
      | int i => simp [keyD] at hk
      | _ => cases hk
    · exact List.mem_cons_of_mem _ (dget_mem e)
theorem glDc_of {K : PySem.W.Frag} {w : World} {mg : Str → Option Value} {x : Str} {kvs : List (D × D)} (hm : mg x = some (.ref (He.ga K x))) (c : gdcB K x kvs = true) (t : ∃ es n, KDict K w (He.ga K x) es n) : GlDc K w mg x kvs := by
  obtain ⟨es, n, t⟩ := t
  refine ⟨_, hm, fun z d e => ?_⟩
  have h1 := List.all_eq_true.mp c _ (dget_mem e)
  dsimp only at h1
  cases e2 : PySem.W.nsIn K (He.ga K x) z with
  | none => rw [e2] at h1; cases h1
  | some r =>
    rw [e2] at h1
    cases r with
    | none => cases h1
    | some u =>
      obtain ⟨v, r1, r2⟩ := valB_ok h1
      exact ⟨v, ⟨es, n, u, t.at_, t.lit, e2, r1⟩, r2⟩
def pGdc (kvs : List (D × D)) : D → Option EV
  | .str z => (dget kvs (.inr z)).map EV.v
  | _ => none
theorem de_gix {kvs : List (D × D)} (hK : X.K = W.K) (hg : Gl X x) (c : GlDc W.K X.w X.mg x kvs) (hb : DE W Wx X b φ) (hs : PlainIx b) (hd : (x == ("__debug__" : Str)) = false := by decide) :
    DE W Wx X (.Subscript (.Name x p0) b pos) (e1 (pGdc kvs) φ) := by
  obtain ⟨pa, hm, ha⟩ := c
  refine de_1 hb (r := fun y H2 Q => L2.rIxD X.K X.w (.ref pa) y H2 Q) ?_ fun tb h => pe_imp (pe_ix ix_kdict (pe_glob hg hm (v := .ref pa) rfl hd) h hs) fun σ H Q q => q
  intro C g H vh dx y Q h rx q s
  cases dx <;> try (simp [pGdc] at s; done)
  rename_i z
  rw [rx.str]
  simp only [pGdc] at s q
  cases e : dget kvs (.inr z) with
  | none => rw [e] at s; cases s
  | some d =>
    rw [e] at q
    obtain ⟨v, kd, rr⟩ := ha z d e
    exact ⟨pa, z, v, rfl, rfl, by rw [hK]; exact kd, q _ rfl g H v h (Ext.refl g H) (rr W g H rfl)⟩
end
end
end PM

/-! PM31: small facts for printed heads. -/
namespace PM
open PySem L2
theorem fl_of {K : PySem.W.Frag} {C : Addr} {l : List Str} {f : Str} (h : l.contains f = true) (hc : Cls K C) (hn : ∀ x ∈ l, NoAttr K C x) : Cls K C ∧ NoAttr K C f := ⟨hc, hn f (List.contains_iff_mem.mp h)⟩
end PM

/-! PM32: data that can be compared with itself. -/
namespace PM
open PySem L2
def Cp (k : Nat) (d : D) : Prop := ∃ p, toPy d = some p ∧ p.canLay0 = true ∧ p.depth ≤ k
def Cps (k : Nat) (ds : List D) : Prop := ∃ ps, toPys ds = some ps ∧ PyData.canLayAll0 ps = true ∧ PyData.depthAll ps ≤ k
theorem Cps.nil {k : Nat} : Cps k [] := ⟨[], by simp [toPys], by simp [PyData.canLayAll0], by simp [PyData.depthAll]⟩
theorem Cps.cons {k : Nat} {d : D} {ds : List D} (h : Cp k d) (r : Cps k ds) : Cps k (d :: ds) := by
  obtain ⟨p, e, c, l⟩ := h
  obtain ⟨ps, e2, c2, l2⟩ := r
  exact ⟨p :: ps, by simp [toPys, e, e2], by simp [PyData.canLayAll0, c, c2], by simp only [PyData.depthAll]; omega⟩
theorem Cp.tup {k : Nat} {ds : List D} (h : Cps k ds) : Cp (k + 1) (.tup ds) := by
  obtain ⟨ps, e, c, l⟩ := h
  exact ⟨.tuple ps, by simp [toPy, e], by simpa [PyData.canLay0] using c, by simp only [PyData.depth]; omega⟩
theorem Cp.lst {k : Nat} {ds : List D} (h : Cps k ds) : Cp (k + 1) (.lst ds) := by
  obtain ⟨ps, e, c, l⟩ := h
  exact ⟨.list ps, by simp [toPy, e], by simpa [PyData.canLay0] using c, by simp only [PyData.depth]; omega⟩
theorem Cp.non {k : Nat} : Cp k .non := ⟨.none, by simp [toPy], by simp [PyData.canLay0], by simp [PyData.depth]⟩
theorem Cp.int {k : Nat} (i : Int) : Cp k (.int i) := ⟨.int i, by simp [toPy], by simp [PyData.canLay0], by simp [PyData.depth]⟩
theorem Cp.bl {k : Nat} (b : Bool) : Cp k (.bl b) := ⟨.bool b, by simp [toPy], by simp [PyData.canLay0], by simp [PyData.depth]⟩
theorem Cp.str {k : Nat} {x : Str} (h : ∀ c ∈ x.cps.toList, c < 0x110000) : Cp k (.str x) := by
  refine ⟨.str x, by simp [toPy], ?_, by simp [PyData.depth]⟩
  simp only [PyData.canLay0, PyData.strOk]
  rw [← Array.all_toList, List.all_eq_true]
  exact fun c hc => decide_eq_true (h c hc)
theorem Cp.mono {k l : Nat} {d : D} (h : Cp k d) (hl : k ≤ l) : Cp l d := by
  obtain ⟨p, e, c, b⟩ := h
  exact ⟨p, e, c, by omega⟩
theorem Cp.deep {d : D} (h : Cp 64 d) : eqDeep d d = some true := by
  obtain ⟨p, e, c, b⟩ := h
  have s : SeqAt.shaped p = true := by simp [SeqAt.shaped, c, b]
  simp only [eqDeep, e, s]
  simp
  exact PySem.SeqAt.eqv_refl_plain p (PyData.plain_of_canLay0 p c)
theorem ne_tup {ds : List D} (h : Cp 64 (.tup ds)) : opNe (.tup ds) (.tup ds) = some (.v (.bl false)) := by
  simp only [opNe, eqD, scV, h.deep]; rfl
theorem eq_tup {ds : List D} (h : Cp 64 (.tup ds)) : opEq (.tup ds) (.tup ds) = some (.v (.bl true)) := by
  simp only [opEq, eqD, scV, h.deep]; rfl
end PM

/-! PM33: list comprehensions with two fors. -/
namespace PM
open PySem L2
noncomputable section
section
variable {W : Wd} {C : Con} {Wx : WX} {X : Cx} {k : Nat} {g g0 : Gh} {H H0 : Hp} {σ : L2.St} {sl : Sl} {vh : VH} {φ ψ χ : EF} {δ ε : SF} {τ τ1 : TF} {pos : Pos} {e a b tg : Expr} {st : Stmt} {rest : List Stmt}
theorem wipe_idem {us : List Nat} : ∀ (ws : List Nat), (∀ i ∈ us, i ∈ ws) → wipe (wipe σ us) ws = wipe σ ws := by
  induction us with
  | nil => intro ws _; rfl
  | cons u us ih =>
    intro ws hw
    show wipe ((wipe σ us).set u none) ws = _
    rw [wipe_set (hw u (List.mem_cons_self ..)), ih ws fun i hi => hw i (List.mem_cons_of_mem _ hi)]
/-- what is wanted of a loop's answer: D holds the items -/
def PostL (W : Wd) (C : Con) (g1 : Gh) (H1 : Hp) (Da : Addr) (r : R (List D)) (Qd : Hp → Prop) : Prop := match r with
  | .ok acc vh2 => ∀ g2 H2 vals, RelH W C g2 vh2 H2 → Pend C g2 Da → Ext g1 H1 g2 H2 → H2 Da = some (.lst vals) → Reps W g2 H2 acc vals → Qd H2
  | _ => False
/-- the loop of a comprehension, whatever its element is: each item's step brings the list on by K -/
theorem lc_core {γ : GF} {ix vs : List Nat} {iv : IV} {J : It} {Da : Addr} {g1 : Gh} {H1 : Hp} {acc0 : List D} {Lp : List D → List D → VH → R (List D)} {Qd : Hp → Prop} {Body : Hp → L2.St → Hp → (Hp → Prop) → Prop}
    (hix : ∀ i ∈ ix, i ∈ vs) (s1 : RelS W g1 H1 sl σ) (y1 : YI W J iv.items iv.gd g1 H1)
    (hnil : ∀ acc vh, Lp [] acc vh = if gdB iv.gd vh = true then .ok acc vh else .bad)
    (hcons : ∀ d ds acc vh, Lp (d :: ds) acc vh = .bad ∨ (gdB iv.gd vh = true ∧ ∃ sl' vh1, γ d (wipeS sl vs) vh = some (sl', vh1) ∧ ∀ (g2 g4 : Gh) (H2 H4 : Hp) (σ4 : L2.St) (vals : List V) (Nx : Hp → Prop), RelH W C g2 vh H2 → Pend C g2 Da → Ext g1 H1 g2 H2 → H2 Da = some (.lst vals) → Reps W g2 H2 acc vals →
        RelH W (keepC C H2 Da) g4 vh1 H4 → RelS W g4 H4 sl' σ4 → Ext g2 H2 g4 H4 → (∀ (g5 : Gh) (H5 : Hp) (vals' : List V) (acc' : List D) (vh5 : VH), Lp (d :: ds) acc vh = Lp ds acc' vh5 → RelH W C g5 vh5 H5 → Pend C g5 Da → Ext g1 H1 g5 H5 → H5 Da = some (.lst vals') → Reps W g5 H5 acc' vals' → Nx H5) → Body H2 σ4 H4 Nx))
    (g2 : Gh) (vh2 : VH) (H2 : Hp) (vals : List V) (h2 : RelH W C g2 vh2 H2) (p2 : Pend C g2 Da) (x2 : Ext g1 H1 g2 H2) (e2 : H2 Da = some (.lst vals)) (r2 : Reps W g2 H2 acc0 vals) (q : PostL W C g1 H1 Da (Lp iv.items acc0 vh2) Qd) :
    ∃ Wi : Nat → Nat → Hp → Prop, (∃ m, Wi 0 m H2) ∧ ∀ i m H, Wi i m H → (J.stop i H ∧ Qd H) ∨ (J.go i H ∧ ∃ Nx : Hp → Prop, (∀ H', Nx H' → ∃ m', m' < m ∧ Wi (i + 1) m' H') ∧
      ∀ x H', J.yld i H x H' → TDG W γ ix x (wipe σ vs) H' fun σ2 H3 => wipe σ2 vs = wipe σ vs ∧ Body H σ2 H3 Nx) := by
  refine ⟨fun i m H2 => m = iv.items.length - i ∧ i ≤ iv.items.length ∧ ∃ g2 vh2 acc vals, RelH W C g2 vh2 H2 ∧ Pend C g2 Da ∧ Ext g1 H1 g2 H2 ∧ H2 Da = some (.lst vals) ∧ Reps W g2 H2 acc vals ∧ PostL W C g1 H1 Da (Lp (iv.items.drop i) acc vh2) Qd,
    ⟨_, rfl, Nat.zero_le _, g2, vh2, acc0, vals, h2, p2, x2, e2, r2, by rw [List.drop_zero]; exact q⟩, ?_⟩
  rintro i m H2 ⟨rfl, hi, g2, vh2, acc, vals, h2, p2, x2, e2, r2, q2⟩
  by_cases hlt : i < iv.items.length
  · rw [List.drop_eq_getElem_cons hlt] at q2
    rcases hcons iv.items[i] (iv.items.drop (i + 1)) acc vh2 with hb | ⟨hgd, sl4, vh4, eg, body⟩
    · rw [hb] at q2; exact q2.elim
    · have hk := h2.keep p2 (by rw [e2]; exact fun z => by cases z)
      obtain ⟨_, yy⟩ := y1 _ i g2 vh2 H2 hk x2 hgd
      obtain ⟨go, yy⟩ := yy _ (List.getElem?_eq_getElem hlt)
      refine .inr ⟨go, fun H2 => ∃ g2 vh2 acc vals, RelH W C g2 vh2 H2 ∧ Pend C g2 Da ∧ Ext g1 H1 g2 H2 ∧ H2 Da = some (.lst vals) ∧ Reps W g2 H2 acc vals ∧ PostL W C g1 H1 Da (Lp (iv.items.drop (i + 1)) acc vh2) Qd,
        fun H' n => ⟨_, by omega, rfl, hlt, n⟩, fun x H3 hy => ?_⟩
      obtain ⟨g3, h3, x3, r3⟩ := yy x H3 hy
      have s3 : RelS W g3 H3 (wipeS sl vs) (wipe σ vs) := RelS.mono (x2.trans x3) (s1.wipe vs)
      refine ⟨_, g3, wipeS sl vs, vh2, _, h3, s3, r3, ?_⟩
      rw [eg]
      intro g4 H4 σ4 h4 s4 x4 w4
      refine ⟨by rw [w4 vs hix]; exact wipe_idem vs fun i hi => hi, ?_⟩
      exact body g2 g4 H2 H4 σ4 vals _ h2 p2 x2 e2 r2 h4 s4 (x3.trans x4) fun g5 H5 vals' acc' vh5 el h5 p5 x5 e5 r5 => ⟨g5, vh5, acc', vals', h5, p5, x5, e5, r5, by rw [← el]; exact q2⟩
  · have ei : iv.items.length ≤ i := Nat.le_of_not_lt hlt
    rw [List.drop_eq_nil_of_le ei, hnil] at q2
    split at q2
    · rename_i hgd
      exact .inl ⟨(y1 C i g2 vh2 H2 h2 x2 hgd).1 ei, q2 g2 H2 vals h2 p2 x2 e2 r2⟩
    · exact q2.elim
noncomputable def lc2Loop (gd : Option (Nat × O)) (γ : GF) (τ : TF) (ι1 : IF) (γ1 : GF) (τ1 : TF) (φ : EF) (vs1 : List Nat) (sl : Sl) : List D → List D → VH → R (List D)
  | [], acc, vh => if gdB gd vh = true then .ok acc vh else .bad
  | d :: ds, acc, vh => if gdB gd vh = true then (match γ d sl vh with
    | none => .bad
    | some (sl', vh1) => match τ sl' vh1 with
      | .ok true vh2 => (match ι1 sl' vh2 with
        | .ok iv vh3 => (match lcLoop iv.gd γ1 τ1 φ (wipeS sl' vs1) iv.items acc vh3 with
          | .ok acc' vh4 => lc2Loop gd γ τ ι1 γ1 τ1 φ vs1 sl ds acc' vh4
          | _ => .bad)
        | _ => .bad)
      | .ok false vh2 => lc2Loop gd γ τ ι1 γ1 τ1 φ vs1 sl ds acc vh2
      | _ => .bad) else .bad
noncomputable def eLc2 (ι : IF) (γ : GF) (τ : TF) (ι1 : IF) (γ1 : GF) (τ1 : TF) (φ : EF) (vs vs1 : List Nat) : EF := fun sl vh => match ι sl vh with
  | .ok iv vh1 => (match lc2Loop iv.gd γ τ ι1 γ1 τ1 φ vs1 (wipeS sl vs) iv.items [] vh1 with
    | .ok acc vh2 => .ok (.f (.lst acc)) vh2
    | _ => .bad)
  | .exc x vh' => .exc x vh'
  | .bad => .bad
/-- the innermost loop's step -/
theorem lc_inner {γ : GF} {ix vs : List Nat} {iv : IV} {J : It} {Da : Addr} {g1 : Gh} {H1 : Hp} {acc0 : List D} {Qd : Hp → Prop}
    (hix : ∀ i ∈ ix, i ∈ vs) (s1 : RelS W g1 H1 sl σ) (y1 : YI W J iv.items iv.gd g1 H1)
    (g2 : Gh) (vh2 : VH) (H2 : Hp) (vals : List V) (h2 : RelH W C g2 vh2 H2) (p2 : Pend C g2 Da) (x2 : Ext g1 H1 g2 H2) (e2 : H2 Da = some (.lst vals)) (r2 : Reps W g2 H2 acc0 vals) (q : PostL W C g1 H1 Da (lcLoop iv.gd γ τ φ (wipeS sl vs) iv.items acc0 vh2) Qd) :
    ∃ Wi : Nat → Nat → Hp → Prop, (∃ m, Wi 0 m H2) ∧ ∀ i m H, Wi i m H → (J.stop i H ∧ Qd H) ∨ (J.go i H ∧ ∃ Nx : Hp → Prop, (∀ H', Nx H' → ∃ m', m' < m ∧ Wi (i + 1) m' H') ∧
      ∀ x H', J.yld i H x H' → TDG W γ ix x (wipe σ vs) H' fun σ2 H3 => wipe σ2 vs = wipe σ vs ∧ (∃ C, TDT W C WF τ σ2 H3 fun b H4 => if b = true then (∃ C, TDE W C WF φ σ2 H4 fun y H5 => ∃ acc, H5 Da = some (.lst acc) ∧ acc.length < sizeLine ∧ Nx (upd H5 Da (.lst (acc ++ [y])))) else Nx H4)) := by
  refine lc_core (Lp := fun ds acc vh => lcLoop iv.gd γ τ φ (wipeS sl vs) ds acc vh) (Body := fun _ σ2 H3 Nx => ∃ C, TDT W C WF τ σ2 H3 fun b H4 => if b = true then (∃ C, TDE W C WF φ σ2 H4 fun y H5 => ∃ acc, H5 Da = some (.lst acc) ∧ acc.length < sizeLine ∧ Nx (upd H5 Da (.lst (acc ++ [y])))) else Nx H4)
    hix s1 y1 (fun acc vh => by unfold lcLoop; rfl) (fun d ds acc vh => ?_) g2 vh2 H2 vals h2 p2 x2 e2 r2 q
  by_cases hgd : gdB iv.gd vh = true
  · cases eg : γ d (wipeS sl vs) vh with
    | none => left; unfold lcLoop; rw [if_pos hgd, eg]
    | some p =>
      obtain ⟨sl4, vh4⟩ := p
      cases et : τ sl4 vh4 with
      | bad => left; unfold lcLoop; rw [if_pos hgd, eg]; dsimp only; rw [et]
      | exc x vh' => left; unfold lcLoop; rw [if_pos hgd, eg]; dsimp only; rw [et]
      | ok bb vh5 =>
        have base : (bb = true ∧ (∀ ev vh6, φ sl4 vh5 ≠ .ok ev vh6)) → lcLoop iv.gd γ τ φ (wipeS sl vs) (d :: ds) acc vh = .bad := by
          rintro ⟨rfl, hn⟩
          unfold lcLoop
          rw [if_pos hgd, eg]
          dsimp only
          rw [et]
          dsimp only
          cases ee : φ sl4 vh5 with
          | ok ev vh6 => exact absurd ee (hn ev vh6)
          | _ => rfl
        cases bb with
        | false =>
          refine .inr ⟨hgd, sl4, vh4, rfl, fun ga g4 Ha H4 σ4 vals Nx h2 p2 x2 e2 r2 h4 s4 x4 nx => ⟨_, g4, sl4, vh4, h4, s4, ?_⟩⟩
          rw [et]
          intro g5 H5 h5 s5 x5
          rw [if_neg Bool.false_ne_true]
          obtain ⟨h6, p6, e6⟩ := h2.unkeep p2 h5
          exact nx g5 H5 vals acc vh5 (by conv => lhs; unfold lcLoop; rw [if_pos hgd, eg]; dsimp only; rw [et]) h6 p6 ((x2.trans x4).trans x5) (e6.trans e2) (Reps.mono (x4.trans x5) _ _ r2)
        | true =>
          cases ee : φ sl4 vh5 with
          | bad => exact .inl (base ⟨rfl, fun ev vh6 h => by rw [ee] at h; cases h⟩)
          | exc x vh' => exact .inl (base ⟨rfl, fun ev vh6 h => by rw [ee] at h; cases h⟩)
          | ok ev vh6 =>
            by_cases hlim : acc.length < lim
            · refine .inr ⟨hgd, sl4, vh4, rfl, fun ga g4 Ha H4 σ4 vals Nx h2 p2 x2 e2 r2 h4 s4 x4 nx => ⟨_, g4, sl4, vh4, h4, s4, ?_⟩⟩
              rw [et]
              intro g5 H5 h5 s5 x5
              rw [if_pos rfl]
              refine ⟨_, g5, sl4, vh5, h5, s5, ?_⟩
              rw [ee]
              intro g6 H6 v6 h6 s6 x6 r6
              obtain ⟨g7, h7, x7, r7⟩ := r6.freeze h6
              obtain ⟨h8, p8, e8⟩ := h2.unkeep p2 h7
              have xz := (x4.trans x5).trans (x6.trans x7)
              have nxe := nx_lst (e8.trans e2)
              have xu := Ext.upd (H := H6) (u := .lst (vals ++ [v6])) p8.nf nxe
              refine ⟨vals, e8.trans e2, by rw [← r2.length, ← lim_eq]; exact hlim, ?_⟩
              exact nx g7 _ (vals ++ [v6]) (acc ++ [ev.d]) vh6 (by conv => lhs; unfold lcLoop; rw [if_pos hgd, eg]; dsimp only; rw [et]; dsimp only; rw [ee]; dsimp only; rw [if_pos hlim]) (h8.pend p8 nxe) p8 ((x2.trans xz).trans xu) upd_same
                (Reps.mono xu _ _ ((Reps.mono xz _ _ r2).append (Reps.one r7)))
            · left
              unfold lcLoop
              rw [if_pos hgd, eg]
              dsimp only
              rw [et]
              dsimp only
              rw [ee]
              dsimp only
              rw [if_neg hlim]
  · left; unfold lcLoop; rw [if_neg hgd]
theorem lc2_imp {ι ι1 : IF} {γ γ1 : GF} {ix ix1 vs vs1 : List Nat} {Q : VK} (hix : ∀ i ∈ ix, i ∈ vs) (hix1 : ∀ i ∈ ix1, i ∈ vs1) (h : RelH W C g vh H) (hs : RelS W g H sl σ) (q : PostE W C Wx g H σ sl (eLc2 ι γ τ ι1 γ1 τ1 φ vs vs1 sl vh) Q) :
    tLc2 (TDI W C Wx ι) (TDG W γ ix) (fun σ H Q => ∃ C, TDT W C WF τ σ H Q) (fun σ H Q => ∃ C, TDI W C WF ι1 σ H Q) (TDG W γ1 ix1) (fun σ H Q => ∃ C, TDT W C WF τ1 σ H Q) (fun σ H Q => ∃ C, TDE W C WF φ σ H Q) vs vs1 σ H Q := by
  refine ⟨g, sl, vh, h, hs, ?_⟩
  unfold eLc2 at q
  cases r : ι sl vh with
  | bad => rw [r] at q; exact q
  | exc x vh' => rw [r] at q; exact q
  | ok iv vh1 =>
    rw [r] at q
    intro g1 H1 J h1 s1 x1 y1 Da hD
    dsimp only at q
    obtain ⟨f1, f2, f3⟩ := h1.free hD
    have p1 : Pend C g1 Da := ⟨f1, f2, f3⟩
    refine lc_core (Lp := fun ds acc vh => lc2Loop iv.gd γ τ ι1 γ1 τ1 φ vs1 (wipeS sl vs) ds acc vh) (acc0 := [])
      (Body := fun _ σ2 H3 Nx => ∃ C, TDT W C WF τ σ2 H3 fun b H4 => if b = true then (∃ C, TDI W C WF ι1 σ2 H4 fun J1 H5 => ∃ W1 : Nat → Nat → Hp → Prop, (∃ m, W1 0 m H5) ∧ ∀ j k H, W1 j k H →
        (J1.stop j H ∧ Nx H) ∨ (J1.go j H ∧ ∃ Nx1 : Hp → Prop, (∀ H', Nx1 H' → ∃ k', k' < k ∧ W1 (j + 1) k' H') ∧ ∀ x H', J1.yld j H x H' → TDG W γ1 ix1 x (wipe σ2 vs1) H' fun σ3 H5 => wipe σ3 vs1 = wipe σ2 vs1 ∧ (∃ C, TDT W C WF τ1 σ3 H5 fun b H6 =>
          if b = true then (∃ C, TDE W C WF φ σ3 H6 fun y H7 => ∃ acc, H7 Da = some (.lst acc) ∧ acc.length < sizeLine ∧ Nx1 (upd H7 Da (.lst (acc ++ [y])))) else Nx1 H6))) else Nx H4)
      hix s1 y1 (fun acc vh => by unfold lc2Loop; rfl) (fun d ds acc vh => ?_) g1 vh1 _ [] (h1.pend p1 (nx_none hD)) p1 (Ext.upd f1 (nx_none hD)) upd_same Reps.nil ?_
    · by_cases hgd : gdB iv.gd vh = true
      · cases eg : γ d (wipeS sl vs) vh with
        | none => left; unfold lc2Loop; rw [if_pos hgd, eg]
        | some p =>
          obtain ⟨sl4, vh4⟩ := p
          cases et : τ sl4 vh4 with
          | bad => left; unfold lc2Loop; rw [if_pos hgd, eg]; dsimp only; rw [et]
          | exc x vh' => left; unfold lc2Loop; rw [if_pos hgd, eg]; dsimp only; rw [et]
          | ok bb vh5 =>
            cases bb with
            | false =>
              refine .inr ⟨hgd, sl4, vh4, rfl, fun ga g4 Ha H4 σ4 vals Nx h2 p2 x2 e2 r2 h4 s4 x4 nx => ⟨_, g4, sl4, vh4, h4, s4, ?_⟩⟩
              rw [et]
              intro g5 H5 h5 s5 x5
              rw [if_neg Bool.false_ne_true]
              obtain ⟨h6, p6, e6⟩ := h2.unkeep p2 h5
              exact nx g5 H5 vals acc vh5 (by conv => lhs; unfold lc2Loop; rw [if_pos hgd, eg]; dsimp only; rw [et]) h6 p6 ((x2.trans x4).trans x5) (e6.trans e2) (Reps.mono (x4.trans x5) _ _ r2)
            | true =>
              cases ei : ι1 sl4 vh5 with
              | bad => left; unfold lc2Loop; rw [if_pos hgd, eg]; dsimp only; rw [et]; dsimp only; rw [ei]
              | exc x vh' => left; unfold lc2Loop; rw [if_pos hgd, eg]; dsimp only; rw [et]; dsimp only; rw [ei]
              | ok iv1 vh6 =>
                cases el : lcLoop iv1.gd γ1 τ1 φ (wipeS sl4 vs1) iv1.items acc vh6 with
                | bad => left; unfold lc2Loop; rw [if_pos hgd, eg]; dsimp only; rw [et]; dsimp only; rw [ei]; dsimp only; rw [el]
                | exc x vh' => left; unfold lc2Loop; rw [if_pos hgd, eg]; dsimp only; rw [et]; dsimp only; rw [ei]; dsimp only; rw [el]
                | ok acc' vh7 =>
                  refine .inr ⟨hgd, sl4, vh4, rfl, fun ga g4 Ha H4 σ4 vals Nx h2 p2 x2 e2 r2 h4 s4 x4 nx => ⟨_, g4, sl4, vh4, h4, s4, ?_⟩⟩
                  rw [et]
                  intro g5 H5 h5 s5 x5
                  rw [if_pos rfl]
                  refine ⟨_, g5, sl4, vh5, h5, s5, ?_⟩
                  rw [ei]
                  intro g6 H6 J1 h6 s6 x6 y6
                  obtain ⟨h8, p8, e8⟩ := h2.unkeep p2 h6
                  have xx := (x4.trans x5).trans x6
                  refine lc_inner (acc0 := acc) hix1 s6 y6 g6 vh6 H6 vals h8 p8 (Ext.refl g6 H6) (e8.trans e2) (Reps.mono xx _ _ r2) ?_
                  rw [el]
                  intro g7 H7 vals7 h7 p7 x7 e7 r7
                  exact nx g7 H7 vals7 acc' vh7 (by conv => lhs; unfold lc2Loop; rw [if_pos hgd, eg]; dsimp only; rw [et]; dsimp only; rw [ei]; dsimp only; rw [el]) h7 p7 ((x2.trans xx).trans x7) e7 r7
      · left; unfold lc2Loop; rw [if_neg hgd]
    · cases el : lc2Loop iv.gd γ τ ι1 γ1 τ1 φ vs1 (wipeS sl vs) iv.items [] vh1 with
      | bad => rw [el] at q; exact q
      | exc x vh' => rw [el] at q; exact q.elim
      | ok acc vh2 =>
        rw [el] at q
        exact fun g2 H2 vals h2 p2 x2 e2 r2 => q g2 H2 (.ref Da) h2 (RelS.mono x2 s1) (x1.trans x2) ⟨Da, rfl, ⟨vals, e2, r2⟩, p2.nf, p2.np, p2.nfr⟩
variable {elt iter iter1 tg1 : Expr} {ifs ifs1 : List Expr} {scope : Scope} {ι ι1 : IF} {γ γ1 : GF} {ix ix1 vs1 : List Nat}
theorem de_lc2 (own : List (Str × Nat)) (vs1 : List Nat) (cz : Cz W Wx k X) (hi : DI W Wx X tg iter ι) (ok : blkC X.N X.env.scope scope own = true)
    (hg : ∀ (s : Shared) (H : Hp) (C : Addr) (cl : List (Str × Addr)) (fp : List Addr), Cz W WF k (X.blk s H scope (compEnvC scope cl C X.env) fp) → DG W (X.blk s H scope (compEnvC scope cl C X.env) fp) tg γ ix)
    (ht : ∀ (s : Shared) (H : Hp) (C : Addr) (cl : List (Str × Addr)) (fp : List Addr), Cz W WF k (X.blk s H scope (compEnvC scope cl C X.env) fp) → DTs W WF (X.blk s H scope (compEnvC scope cl C X.env) fp) ifs τ)
    (hi1 : ∀ (s : Shared) (H : Hp) (C : Addr) (cl : List (Str × Addr)) (fp : List Addr), Cz W WF k (X.blk s H scope (compEnvC scope cl C X.env) fp) → DI W WF (X.blk s H scope (compEnvC scope cl C X.env) fp) tg1 iter1 ι1)
    (hg1 : ∀ (s : Shared) (H : Hp) (C : Addr) (cl : List (Str × Addr)) (fp : List Addr), Cz W WF k (X.blk s H scope (compEnvC scope cl C X.env) fp) → DG W (X.blk s H scope (compEnvC scope cl C X.env) fp) tg1 γ1 ix1)
    (ht1 : ∀ (s : Shared) (H : Hp) (C : Addr) (cl : List (Str × Addr)) (fp : List Addr), Cz W WF k (X.blk s H scope (compEnvC scope cl C X.env) fp) → DTs W WF (X.blk s H scope (compEnvC scope cl C X.env) fp) ifs1 τ1)
    (he : ∀ (s : Shared) (H : Hp) (C : Addr) (cl : List (Str × Addr)) (fp : List Addr), Cz W WF k (X.blk s H scope (compEnvC scope cl C X.env) fp) → DE W WF (X.blk s H scope (compEnvC scope cl C X.env) fp) elt φ)
    (hix : ∀ i ∈ ix, i ∈ own.map (·.2) := by decide) (hix1 : ∀ i ∈ ix1, i ∈ vs1 := by decide) (hv : ∀ i ∈ vs1, i ∈ own.map (·.2) := by decide) (hs : ∀ x, foldedSetIterable iter X.env x = pure x := by intro _; rfl) (hs1 : ∀ env x, foldedSetIterable iter1 env x = pure x := by intro _ _; rfl) :
    DE W Wx X (.ListComp elt [⟨tg, iter, ifs, 0⟩, ⟨tg1, iter1, ifs1, 0⟩] scope pos) (eLc2 ι γ τ ι1 γ1 τ1 φ (own.map (·.2)) vs1) := fun C =>
  pe_imp (pe_lc2 cz.calm cz.nd (hi C) (blkOk_by ok) hv (fun s H C cl fp => hg s H C cl fp (cz.blk ..)) (fun s H C cl fp => ⟨fun pins s' σ H Q I ⟨C', q⟩ => ((ht s _ C cl fp (cz.blk ..)) C').run pins s' σ H Q I q⟩)
    (fun s H C cl fp => ⟨fun pins s' σ H Q I ⟨C', q⟩ => ((hi1 s _ C cl fp (cz.blk ..)) C').run pins s' σ H Q I q⟩) (fun s H C cl fp => hg1 s H C cl fp (cz.blk ..)) (fun s H C cl fp => ⟨fun pins s' σ H Q I ⟨C', q⟩ => ((ht1 s _ C cl fp (cz.blk ..)) C').run pins s' σ H Q I q⟩)
    (fun s H C cl fp => ⟨fun pins s' σ H Q I ⟨C', q⟩ => ((he s _ C cl fp (cz.blk ..)) C').run pins s' σ H Q I q⟩) hs hs1) fun σ H Q ⟨g, sl, vh, h, hs, q⟩ => lc2_imp hix hix1 h hs q
theorem ds_setLc2 {i : Nat} {y : Str} {py spos : Pos} (own : List (Str × Nat)) (vs1 : List Nat) (cz : Cz W Wx k X) (hi : DI W Wx X tg iter ι) (ok : blkC X.N X.env.scope scope own = true)
    (hg : ∀ (s : Shared) (H : Hp) (C : Addr) (cl : List (Str × Addr)) (fp : List Addr), Cz W WF k (X.blk s H scope (compEnvC scope cl C X.env) fp) → DG W (X.blk s H scope (compEnvC scope cl C X.env) fp) tg γ ix)
    (ht : ∀ (s : Shared) (H : Hp) (C : Addr) (cl : List (Str × Addr)) (fp : List Addr), Cz W WF k (X.blk s H scope (compEnvC scope cl C X.env) fp) → DTs W WF (X.blk s H scope (compEnvC scope cl C X.env) fp) ifs τ)
    (hi1 : ∀ (s : Shared) (H : Hp) (C : Addr) (cl : List (Str × Addr)) (fp : List Addr), Cz W WF k (X.blk s H scope (compEnvC scope cl C X.env) fp) → DI W WF (X.blk s H scope (compEnvC scope cl C X.env) fp) tg1 iter1 ι1)
    (hg1 : ∀ (s : Shared) (H : Hp) (C : Addr) (cl : List (Str × Addr)) (fp : List Addr), Cz W WF k (X.blk s H scope (compEnvC scope cl C X.env) fp) → DG W (X.blk s H scope (compEnvC scope cl C X.env) fp) tg1 γ1 ix1)
    (ht1 : ∀ (s : Shared) (H : Hp) (C : Addr) (cl : List (Str × Addr)) (fp : List Addr), Cz W WF k (X.blk s H scope (compEnvC scope cl C X.env) fp) → DTs W WF (X.blk s H scope (compEnvC scope cl C X.env) fp) ifs1 τ1)
    (he : ∀ (s : Shared) (H : Hp) (C : Addr) (cl : List (Str × Addr)) (fp : List Addr), Cz W WF k (X.blk s H scope (compEnvC scope cl C X.env) fp) → DE W WF (X.blk s H scope (compEnvC scope cl C X.env) fp) elt φ)
    (hy : X.N[i]? = some y := by rfl) (hyl : X.env.scope.names.lookup y = some .local := by rfl)
    (hsw : swapsWith (.ListComp elt [⟨tg, iter, ifs, 0⟩, ⟨tg1, iter1, ifs1, 0⟩] scope pos) (some (.Name y py)) spos.line X.env = pure true := by rfl)
    (hix : ∀ i ∈ ix, i ∈ own.map (·.2) := by decide) (hix1 : ∀ i ∈ ix1, i ∈ vs1 := by decide) (hv : ∀ i ∈ vs1, i ∈ own.map (·.2) := by decide) (hs : ∀ x, foldedSetIterable iter X.env x = pure x := by intro _; rfl) (hs1 : ∀ env x, foldedSetIterable iter1 env x = pure x := by intro _ _; rfl) :
    DS W Wx X (.Assign [.Name y py] (.ListComp elt [⟨tg, iter, ifs, 0⟩, ⟨tg1, iter1, ifs1, 0⟩] scope pos) spos) (sSet i (eLc2 ι γ τ ι1 γ1 τ1 φ (own.map (·.2)) vs1)) := fun C =>
  ps_imp (ps_setLc2 (tt := fun σ H Q => ∃ C, TDT W C WF τ σ H Q) (wi1 := fun σ H Q => ∃ C, TDI W C WF ι1 σ H Q) (tt1 := fun σ H Q => ∃ C, TDT W C WF τ1 σ H Q) (te := fun σ H Q => ∃ C, TDE W C WF φ σ H Q) cz.calm cz.nd hy hyl hsw (hi C) (blkOk_by ok) hv (fun s H C cl fp => hg s H C cl fp (cz.blk ..)) (fun s H C cl fp => ⟨fun pins s' σ H Q I ⟨C', q⟩ => ((ht s _ C cl fp (cz.blk ..)) C').run pins s' σ H Q I q⟩)
    (fun s H C cl fp => ⟨fun pins s' σ H Q I ⟨C', q⟩ => ((hi1 s _ C cl fp (cz.blk ..)) C').run pins s' σ H Q I q⟩) (fun s H C cl fp => hg1 s H C cl fp (cz.blk ..)) (fun s H C cl fp => ⟨fun pins s' σ H Q I ⟨C', q⟩ => ((ht1 s _ C cl fp (cz.blk ..)) C').run pins s' σ H Q I q⟩)
    (fun s H C cl fp => ⟨fun pins s' σ H Q I ⟨C', q⟩ => ((he s _ C cl fp (cz.blk ..)) C').run pins s' σ H Q I q⟩) hs hs1) fun En σ H t => by
    obtain ⟨g, sl, vh, h, hs, q⟩ := TDS.set t
    exact lc2_imp hix hix1 h hs q
end
end
end PM

/-! PM34: len, repr, == of own classes. -/
namespace PM
open PySem L2
noncomputable section
section
variable {W : Wd} {C : Con} {Wx : WX} {X : Cx} {g g0 : Gh} {H H0 : Hp} {σ : L2.St} {sl : Sl} {vh : VH} {k np cid : Nat} {f : Addr} {fd : FuncData} {ps ks : List Str} {Φ : Den} {arr : List D → List D} {α β : AF} {φ ψ : EF} {x m : Str} {p p0 pos apos kpos : Pos} {a b o e : Expr} {es : List Expr}
/-- what is wanted of a callee that raises nothing -/
def PostV (W : Wd) (C : Con) (g : Gh) (H : Hp) (r : R D) (Q : VK) : Prop := match r with
  | .ok d vh' => ∀ g1 H1 v, RelH W C g1 vh' H1 → Ext g H g1 H1 → Rep W g1 H1 d v → Q v H1
  | _ => False
theorem run_pfnA {A : Around} {pins : List (Addr × Obj)} {s : Shared} {Q : VK} {us : List Value} {vs : List V} {ds : List D} (hr : Room k A) (hgd : A.guards = some []) (hK : X.K = W.K) (E0 : Env0 X.prog X.w W.K X.mg X.base A X.stack s H)
    (F : PFn W X.prog X.w X.mg X.base k f fd ps Φ) (pt : Pat W fd ps np [] arr) (I : Inv X pins σ H s) (h : RelH W C g vh H) (h1 : us.length = np) (r : Reps W g H ds vs) (rv : Vals vs us) (q : PostV W C g H (Φ (arr ds) vh) Q) :
    wpAny (model X.prog X.w) A (call (.ref f) us) (EP X pins σ Q) X.xe s := by
  have KI : W.K.In s.heap := by rw [← hK]; exact I.kIn
  obtain ⟨us', vs', hb, rv', r', hl⟩ := pt.ok s us [] g H ds vs KI h1 rfl r (by rw [List.append_nil]; exact rv)
  refine wpAny_call (codeAny_mono (F.run A X.stack s H ⟨us, []⟩ us' vs' Q (fun _ _ _ => False) hr hgd E0 hb rv' ⟨g, arr ds, vh, h.call, r', hl, ?_⟩) fun rr s' hq => ?_)
  · cases e : Φ (arr ds) vh with
    | bad => rw [e] at q; exact q.elim
    | exc x vh' => rw [e] at q; exact q.elim
    | ok d vh' => rw [e] at q; exact fun g1 H1 v i1 x1 p1 => q g1 H1 v (h.back i1) x1 p1
  · cases rr with
    | error e =>
      obtain ⟨_, _, _, _, _, _, _, _, _, _, _, _, z⟩ := hq
      exact z.elim
    | ok fl =>
      cases fl with
      | ret u => exact I.after hq
      | next => exact hq.elim
      | brk => exact hq.elim
      | cont => exact hq.elim
/-- len(o) by an own __len__ -/
def lenR : R D → R D
  | .ok (.int n) vh' => if 0 ≤ n ∧ n < 1000000000 then .ok (.int n) vh' else .bad
  | _ => .bad
def dLen (cid : Nat) (arr : List D → List D) (Φ : Den) (φ : EF) : EF := eb φ fun d sl vh => if isIns cid "__len__" (view vh d) = true then (match lenR (Φ (arr [d]) vh) with
  | .ok d vh' => .ok (.v d) vh'
  | _ => .bad) else .bad
def rLenO (W : Wd) (cid : Nat) (arr : List D → List D) (Φ : Den) : List V → Hp → VK → Prop := fun xs H Q => ∃ C g vh d a dx gs, xs = [V.ref a] ∧ H a = some (.ins (W.cls cid) dx gs) ∧ RelH W C g vh H ∧ Rep W g H d (.ref a) ∧ PostV W C g H (lenR (Φ (arr [d]) vh)) Q
theorem cr_lenO (cz : Cz W Wx (k + 1) X) (hm : Meth W.K (W.cls cid) "__len__" f) (F : PFn W X.prog X.w X.mg X.base k f fd ps Φ) (pt : Pat W fd ps 1 [] arr) : CallR X (.builtin "len") (rLenO W cid arr Φ) := by
  intro pins s σ H xs us Q I rv h
  obtain ⟨C, g, vh, d, a, dx, gs, rfl, ha, hR, rd, q⟩ := h
  obtain ⟨u, rfl, rr⟩ := vals1 rv
  cases rr
  obtain ⟨mA, J, _⟩ := ins_get I.hok ha
  obtain ⟨od, J, _⟩ := J.look
  obtain ⟨m, hF⟩ := I.fr
  refine PySem.W.len_K hF I.ok.mod.kin J (by rw [cz.K]; exact hm.at_) (by rw [cz.K]; exact hm.fn) ?_
  have E0 : Env0 X.prog X.w W.K X.mg X.base X.A.in1 X.stack s H := by rw [← cz.K]; exact I.env0.in1
  refine wpAny_mono (run_pfnA (Q := fun v H' => ∃ n : Int, v = .int n ∧ (0 ≤ n ∧ n < 1000000000) ∧ Q (.int n) H') cz.rm.in1 cz.gd cz.K E0 F pt I hR rfl (Reps.one rd) (.cons rfl .nil) ?_) (fun v s' hv => ?_) fun _ _ x => x
  · cases e : Φ (arr [d]) vh with
    | bad => rw [e] at q; exact q.elim
    | exc x vh' => rw [e] at q; exact q.elim
    | ok r vh' =>
      rw [e] at q
      cases r with
      | int n =>
        simp only [lenR] at q
        split at q
        · rename_i hn
          exact fun g1 H1 v h1 x1 r1 => ⟨n, by simpa only [Rep] using r1, hn, q g1 H1 _ h1 x1 (by simp only [Rep])⟩
        · exact q.elim
      | _ => exact q.elim
  · obtain ⟨w, H', I', rw', n, e1, hn, q'⟩ := hv
    subst e1
    obtain ⟨t, rfl⟩ := rw'
    exact ⟨by omega, ⟨.int n, H', I'.tok _, ⟨_, rfl⟩, q'⟩⟩
theorem de_lenO (cz : Cz W Wx (k + 1) X) (hm : Meth W.K (W.cls cid) "__len__" f) (F : PFn W X.prog X.w X.mg X.base k f fd ps Φ) (pt : Pat W fd ps 1 [] arr) (hg : Gl X "len") (hm0 : X.mg "len" = none) (ha : DE W Wx X a φ)
    (he : starEach (a :: []) X.env = (false, eval a X.env) :: starEach [] X.env := by rfl) : DE W Wx X (.Call (.Name "len" p0) [a] [] pos) (dLen cid arr Φ φ) := fun C =>
  pe_imp (pe_callB (cr_lenO cz hm F pt) hg hm0 (by rfl) (pa_cons (ha C) pa_nil he) (by decide) (by decide) he (by rfl)) fun σ H Q ⟨g, sl, vh, h, hs, q⟩ =>
    (TDE.bind h hs (Ext.refl g H) q).mono fun v1 H1 ⟨g2, vh2, d1, i2, s2, x2, _, p2, q2⟩ => by
      split at q2
      · rename_i ht
        obtain ⟨a, dx, gs, rfl, h1, l⟩ := ins_of i2 p2 ht
        refine ⟨C, g2, vh2, d1, a, dx, gs, rfl, h1, i2, p2, ?_⟩
        cases e : lenR (Φ (arr [d1]) vh2) with
        | bad => rw [e] at q2; exact q2
        | exc x vh' => rw [e] at q2; exact q2.elim
        | ok r vh' => rw [e] at q2; exact fun g3 H3 v h3 x3 r3 => q2 g3 H3 v h3 (s2.mono x3) (x2.trans x3) r3
      · exact q2.elim
end
end
end PM

/-! PM35: defaults that are objects; making by keywords alone. -/
namespace PM
open PySem L2
noncomputable section
/-- the object that a def has as a keyword's default -/
def kwAt (p : Str × Option Str) (k : Str) (K : PySem.W.Frag) : Addr := match K.lookup (He.fAd K p) with
  | some ⟨_, _, .func fd, _⟩ => (match fd.kwdefaults with
    | .ref T => (match PySem.W.nsIn K T k with
      | some (some (.ref a)) => a
      | _ => 0)
    | _ => 0)
  | _ => 0
def kwB (p : Str × Option Str) (k : Str) (d : D) (K : PySem.W.Frag) : Bool := valB K d (.ref (kwAt p k K))
theorem kw_rep {K : PySem.W.Frag} {p : Str × Option Str} {k : Str} {d : D} (h : kwB p k d K = true) (W : Wd) (e : W.K = K) (g : Gh) (H : Hp) : Rep W g H d (.ref (kwAt p k K)) := by
  obtain ⟨v, r, rr⟩ := valB_ok h
  have ev : v = .ref (kwAt p k K) := by
    cases v with
    | ref a => cases r; rfl
    | non => cases r
    | bl b => cases r
    | int i => obtain ⟨t, r⟩ := r; cases r
    | str i => obtain ⟨t, r⟩ := r; cases r
    | byt b => obtain ⟨t, r⟩ := r; cases r
    | flt b => obtain ⟨t, r⟩ := r; cases r
    | _ => cases r
  rw [← ev]
  exact rr W g H e
section
variable {W : Wd} {C : Con} {Wx : WX} {X : Cx} {g g0 : Gh} {H H0 : Hp} {σ : L2.St} {sl : Sl} {vh : VH} {k np cid : Nat} {f : Addr} {fd : FuncData} {ps ks : List Str} {Φ : Den} {arr : List D → List D} {α β : AF} {φ : EF} {x m : Str} {p pos apos kpos : Pos} {o e : Expr} {es : List Expr} {kws : List Keyword}
theorem de_makeK0 (cz : Cz W Wx (k + 1) X) (M : Mk W.K (W.cls cid) f) (F : PFn W X.prog X.w X.mg X.base k f fd ps Φ) (pt : Pat W fd ps 1 ks arr) (hg : Gl X x) (hm : X.mg x = some (.ref (W.cls cid)))
    (hb : DK W Wx X kws β) (hall : (backToKw pos (keywordEach kws X.env)).all (·.1.isSome) = true := by rfl) (hks : (backToKw pos (keywordEach kws X.env)).filterMap (·.1) = ks := by rfl)
    (hdb : (x == ("__debug__" : Str)) = false := by decide)
    (hpl : ((backTo pos (starEach [] X.env)).any (·.1) || (backToKw pos (keywordEach kws X.env)).any (·.1.isNone)) = false := by rfl)
    (hbl : ∀ sl vh ds vh', β sl vh = .ok ds vh' → ds.length = ks.length) : DE W Wx X (.Call (.Name x p) [] kws pos) (dMake cid arr Φ β) := fun C => by
  refine ⟨fun pins s σ H Q I ⟨g, sl, vh, h, hs, q⟩ => ?_⟩
  refine wpAny_Call_Name_kw (ld_glob I hg hm ?_ hdb)
  have T : TDA W C Wx β σ H (fun v1 H1 => v1.length = ks.length ∧ ∃ g1 vh1 d1, RelH W C g1 vh1 H1 ∧ RelS W g1 H1 sl σ ∧ Ext g H g1 H1 ∧ Reps W g1 H1 d1 v1 ∧
      PostE W C Wx g H σ sl (match Φ (arr (.ref vh1.length :: d1)) (vh1 ++ [.ins cid []]) with | .ok .non vh' => .ok (.v (.ref vh1.length)) vh' | .ok _ _ => .bad | .exc x vh' => .exc x vh' | .bad => .bad) Q) := by
    refine ⟨g, sl, vh, h, hs, ?_⟩
    unfold dMake ab at q
    cases r : β sl vh with
    | bad => rw [r] at q; exact q
    | exc x vh1 => rw [r] at q; exact q
    | ok ds vh1 => rw [r] at q; exact fun g1 H1 v1 h1 s1 x1 r1 => ⟨by rw [← r1.length]; exact hbl _ _ _ _ r, g1, vh1, ds, h1, s1, x1, r1, q⟩
  refine PySem.W.callWith_KW0 (first := []) (h₀ := X.base) I.ok.mod.kin (by rw [cz.K]; exact M.kp) hall (thn ((hb C).run pos pins s σ H _ I T) ?_) hpl
  rintro ws s1 ⟨vs, H1, I1, rv, ln, g1, vh1, d1, h1, s1', x1, r1, qq⟩
  refine ⟨I1.kIn, ?_⟩
  rw [hks]
  exact run_new (np := 0) (us := []) (ws := ws) (ds := d1) cz M F pt I1 h1 s1' x1 rfl (by rw [← rv.length, ln]) r1 rv qq
end
end
end PM

/-! PM36: data whose text is known to be short (repr is defined); also data equal to itself. -/
namespace PM
open PySem L2
def Rp (k n : Nat) (d : D) : Prop := ∃ p, toPy d = some p ∧ p.canLay0 = true ∧ p.showable = true ∧ p.leavesShort 66 = true ∧ p.depth ≤ k ∧ p.weight ≤ n
def Rps (k n : Nat) (ds : List D) : Prop := ∃ ps, toPys ds = some ps ∧ PyData.canLayAll0 ps = true ∧ PyData.showableAll ps = true ∧ PyData.leavesShortAll 66 ps = true ∧ PyData.depthAll ps ≤ k ∧ PyData.weightAll ps ≤ n
theorem Rps.nil {k n : Nat} : Rps k n [] := ⟨[], by simp [toPys], by simp [PyData.canLayAll0], by simp [PyData.showableAll], by simp [PyData.leavesShortAll], by simp [PyData.depthAll], by simp [PyData.weightAll]⟩
theorem Rps.cons {k n m : Nat} {d : D} {ds : List D} (h : Rp k n d) (r : Rps k m ds) : Rps k (n + 1 + m) (d :: ds) := by
  obtain ⟨p, e, c, l, a1, a2, a3⟩ := h
  obtain ⟨ps, e2, c2, l2, b1, b2, b3⟩ := r
  exact ⟨p :: ps, by simp [toPys, e, e2], by simp [PyData.canLayAll0, c, c2], by simp [PyData.showableAll, l, l2], by simp [PyData.leavesShortAll, a1, b1], by simp only [PyData.depthAll]; omega, by simp only [PyData.weightAll]; omega⟩
theorem Rps.all {k n : Nat} : ∀ {ds : List D}, (∀ d ∈ ds, Rp k n d) → Rps k ((n + 1) * ds.length) ds
  | [], _ => by simpa using Rps.nil
  | d :: ds, h => by
    have a := Rps.cons (h d (List.mem_cons_self ..)) (Rps.all (ds := ds) fun x hx => h x (List.mem_cons_of_mem _ hx))
    rw [List.length_cons, Nat.mul_succ, Nat.add_comm]
    exact a
theorem Rps.mono {k l n m : Nat} {ds : List D} (h : Rps k n ds) (h1 : k ≤ l) (h2 : n ≤ m) : Rps l m ds := by
  obtain ⟨p, e, c, b, a1, a2, a3⟩ := h
  exact ⟨p, e, c, b, a1, by omega, by omega⟩
theorem Rp.mono {k l n m : Nat} {d : D} (h : Rp k n d) (h1 : k ≤ l) (h2 : n ≤ m) : Rp l m d := by
  obtain ⟨p, e, c, b, a1, a2, a3⟩ := h
  exact ⟨p, e, c, b, a1, by omega, by omega⟩
theorem Rp.tup {k n : Nat} {ds : List D} (h : Rps k n ds) : Rp (k + 1) n (.tup ds) := by
  obtain ⟨ps, e, c, l, a1, a2, a3⟩ := h
  exact ⟨.tuple ps, by simp [toPy, e], by simpa [PyData.canLay0] using c, by simpa [PyData.showable] using l, by simpa [PyData.leavesShort] using a1, by simp only [PyData.depth]; omega, by simpa only [PyData.weight] using a3⟩
theorem Rp.lst {k n : Nat} {ds : List D} (h : Rps k n ds) : Rp (k + 1) n (.lst ds) := by
  obtain ⟨ps, e, c, l, a1, a2, a3⟩ := h
  exact ⟨.list ps, by simp [toPy, e], by simpa [PyData.canLay0] using c, by simpa [PyData.showable] using l, by simpa [PyData.leavesShort] using a1, by simp only [PyData.depth]; omega, by simpa only [PyData.weight] using a3⟩
theorem Rp.non {k n : Nat} : Rp k n .non := ⟨.none, by simp [toPy], by simp [PyData.canLay0], by simp [PyData.showable], by simp [PyData.leavesShort], by simp [PyData.depth], by simp [PyData.weight]⟩
theorem Rp.bl {k n : Nat} (b : Bool) : Rp k n (.bl b) := ⟨.bool b, by simp [toPy], by simp [PyData.canLay0], by simp [PyData.showable], by simp [PyData.leavesShort], by simp [PyData.depth], by simp [PyData.weight]⟩
theorem Rp.int {k : Nat} {i : Int} (h : i.natAbs < 2 ^ 64) : Rp k 64 (.int i) := by
  have a := shown_int_len (k := 64) (by omega) h
  have b := log2_lt h (by omega)
  exact ⟨.int i, by simp [toPy], by simp [PyData.canLay0], by simp [PyData.showable]; omega, by simp only [PyData.leavesShort]; exact decide_eq_true (by omega), by simp [PyData.depth], by simp only [PyData.weight]; split <;> omega⟩
theorem Rp.str {k : Nat} {x : Str} (h : ∀ c ∈ x.cps.toList, c < 0x110000) : Rp k x.cps.size (.str x) := by
  refine ⟨.str x, by simp [toPy], ?_, by simp [PyData.showable], ?_, by simp [PyData.depth], by simp [PyData.weight]⟩
  · simp only [PyData.canLay0, PyData.strOk]
    rw [← Array.all_toList, List.all_eq_true]
    exact fun c hc => decide_eq_true (h c hc)
  · simp only [PyData.leavesShort, List.all_eq_true, decide_eq_true_eq]
    exact fun c hc => Nat.lt_of_lt_of_le (h c hc) (by decide)
theorem Rp.cp {k n : Nat} {d : D} (h : Rp k n d) : Cp k d := by
  obtain ⟨p, e, c, l, a1, a2, a3⟩ := h
  exact ⟨p, e, c, a2⟩
theorem Rp.repr {d : D} (h : Rp 64 200000 d) : ∃ x, bRepr d = some (.v (.str x)) := by
  obtain ⟨p, e, c, l, a1, a2, a3⟩ := h
  refine ⟨p.shown, ?_⟩
  have e2 : pyR d = some p := by cases d <;> first | exact e | (simp [toPy] at e)
  have c3 : p.shown.length ≤ lim := by
    have := PyData.shown_le 66 (by decide) p a1
    have : (66 + 2) * p.weight ≤ 68 * 200000 := Nat.mul_le_mul_left _ a3
    rw [lim_val]
    omega
  unfold bRepr
  rw [e2]
  simp [l, a2, c3, vS]
/-- a list, a tuple against nothing -/
theorem Rps.eq_nilL {k n : Nat} {ds : List D} (h : Rps k n ds) (hk : k < 64) : opEq (.lst ds) (.lst []) = some (.v (.bl ds.isEmpty)) := by
  obtain ⟨ps, e, c, l, a1, a2, a3⟩ := h
  have s : SeqAt.shaped (.list ps) = true := by simp [SeqAt.shaped, PyData.canLay0, c, PyData.depth]; omega
  have s0 : SeqAt.shaped (.list []) = true := by decide
  have q : PyData.eqv (.list ps) (.list []) = ds.isEmpty := by
    cases ds with
    | nil => simp only [toPys, Option.some.injEq] at e; subst e; rfl
    | cons d ds =>
      cases ps with
      | nil => simp only [toPys] at e; split at e <;> simp at e
      | cons p ps => rfl
  simp [opEq, eqD, scV, eqDeep, toPy, e, toPys, s, s0, q]
theorem Rps.ne_nilT {k n : Nat} {ds : List D} (h : Rps k n ds) (hk : k < 64) : opNe (.tup ds) (.tup []) = some (.v (.bl (!ds.isEmpty))) := by
  obtain ⟨ps, e, c, l, a1, a2, a3⟩ := h
  have s : SeqAt.shaped (.tuple ps) = true := by simp [SeqAt.shaped, PyData.canLay0, c, PyData.depth]; omega
  have s0 : SeqAt.shaped (.tuple []) = true := by decide
  have q : PyData.eqv (.tuple ps) (.tuple []) = ds.isEmpty := by
    cases ds with
    | nil => simp only [toPys, Option.some.injEq] at e; subst e; rfl
    | cons d ds =>
      cases ps with
      | nil => simp only [toPys] at e; split at e <;> simp at e
      | cons p ps => rfl
  simp [opNe, eqD, scV, eqDeep, toPy, e, toPys, s, s0, q]
theorem Rps.eq_nilT {k n : Nat} {ds : List D} (h : Rps k n ds) (hk : k < 64) : opEq (.tup ds) (.tup []) = some (.v (.bl ds.isEmpty)) := by
  have := h.ne_nilT hk
  simp only [opNe, opEq] at this ⊢
  cases e : eqD (.tup ds) (.tup []) with
  | none => rw [e] at this; simp at this
  | some b => rw [e] at this; cases b <;> cases h : ds.isEmpty <;> simp_all [vB]
/-- two tuples of two truth values -/
theorem eq_bb {a b c d : Bool} : opEq (.tup [.bl a, .bl b]) (.tup [.bl c, .bl d]) = some (.v (.bl (decide (a = c) && decide (b = d)))) := by
  cases a <;> cases b <;> cases c <;> cases d <;> rfl
end PM

/-! PM37: {e for t in it}, e a whole number. -/
namespace PM
open PySem PySem.Spec PyProof.Rows L2 PpSet
noncomputable section
section
variable {X : Cx}
/-- Da is the new set; no ifs -/
def tSi (w : World) (wi : TI) (tg : TG) (te : TE) (vs : List Nat) : TE := fun σ H Q => wi σ H fun J H1 => ∀ Da, H1 Da = none → ∃ Wv : Nat → Nat → Hp → Prop, (∃ m, Wv 0 m (upd H1 Da (SetO w Da (fun _ => false) 0))) ∧
  ∀ i m K, Wv i m K → (J.stop i K ∧ ∃ S n, K Da = some (SetO w Da S n) ∧ Q (.ref Da) (upd K Da (.set S n))) ∨ (J.go i K ∧ ∃ Nx : Hp → Prop, (∀ K', Nx K' → ∃ m', m' < m ∧ Wv (i + 1) m' K') ∧
    ∀ x K1, J.yld i K x K1 → tg x (wipe σ vs) K1 fun σ2 K2 => wipe σ2 vs = wipe σ vs ∧ te σ2 K2 fun y K3 => ∃ (c : Int) (S : Int → Bool) (n : Nat), y = .int c ∧ K3 Da = some (SetO w Da S n) ∧ n + 1 < scanBound ∧
      Nx (upd K3 Da (SetO w Da (fun j => S j || decide (j = c)) (if S c = true then n else n + 1))))
theorem addI {pins : List (Addr × Obj)} {σ : L2.St} {H : Hp} {s : Shared} {Z : Value → Shared → Prop} {Da : Addr} {S : Int → Bool} {n : Nat} {c : Int} {u : Tok} {Qv : Value → Shared → Prop} (I : Inv X pins σ H s) (hD : H Da = some (SetO X.w Da S n)) (room : n + 1 < scanBound)
    (fin : ∀ s1, Inv X pins σ (upd H Da (SetO X.w Da (fun j => S j || decide (j = c)) (if S c = true then n else n + 1))) s1 → Qv .none s1) : wpAny (model X.prog X.w) X.A (call (.builtin "set.add") [.ref Da, .int c u]) Qv Z s := by
  refine setR_add (setO_get I hD) room fun h1 sb new => ?_
  obtain ⟨ob, hob⟩ : ∃ ob, h1.get? Da = some ob := by
    have ⟨o, _, _, _, z, _⟩ := new
    exact ⟨o, z⟩
  exact fin _ (I.write (e := Da) (t' := s.toks + 1) (by rw [hD]; trivial) (.inl rfl) (fun a v na hv => (sb.2 a na).trans hv) ⟨ob, hob⟩ (setO_new new))
/-- a set of whole numbers is known by its members -/
theorem toSet {pins : List (Addr × Obj)} {σ : L2.St} {H : Hp} {s : Shared} {Da : Addr} {S : Int → Bool} {n : Nat} (I : Inv X pins σ H s) (hD : H Da = some (SetO X.w Da S n)) : Inv X pins σ (upd H Da (.set S n)) s := by
  have rr := (setO_get I hD).setOf (P := X.prog)
  obtain ⟨ob, hob⟩ : ∃ ob, s.heap.get? Da = some ob := by
    have ⟨o, _, _, _, z, _⟩ := setO_get I hD
    exact ⟨o, z⟩
  have new : ObjOk X.prog X.w (upd H Da (.set S n)) s.heap Da (.set S n) := rr
  exact I.write (e := Da) (h' := s.heap) (t' := s.toks) (by rw [hD]; trivial) (.inl rfl) (fun a v na hv => hv) ⟨ob, hob⟩ new
theorem si_core {pins : List (Addr × Obj)} {s : Shared} {σ : L2.St} {H : Hp} {Q : VK} {elt tgt iter : Expr} {scope : Scope} {own : List (PySem.Str × Nat)} {pos p2 : Pos} {wi : TI} {tg : TG} {te : TE}
    (calm : X.calm = true) (nd : X.N.Nodup) (I : Inv X pins σ H s) (hi : PI X tgt iter wi) (blk : BlkOk X.N X.env.scope scope own)
    (pgs : ∀ (s : Shared) (H : Hp) (B : Addr) (cl : List (PySem.Str × Addr)) (ft : List Addr), PG (X.blk s H scope (compEnvC scope cl B X.env) ft) tgt tg)
    (pes : ∀ (s : Shared) (H : Hp) (B : Addr) (cl : List (PySem.Str × Addr)) (ft : List Addr), PE (X.blk s H scope (compEnvC scope cl B X.env) ft) elt te) (nofold : ∀ x, foldedSetIterable iter X.env x = pure x)
    (want : tSi X.w wi tg te (own.map (·.2)) σ H Q) :
    wpAny (model X.prog X.w) X.A (comprehension (.SetComp elt [⟨tgt, iter, [], 0⟩] scope pos) scope X.env p2 (newSet (.type "set")) false (eval iter X.env) none) (EP X pins σ Q) X.xe s := by
  have frees : ∀ nm ∈ scope.names, nm.2 = .free → ∃ cell, X.env.cells.lookup nm.1 = some cell := fun nm hm e => (blk.free nm hm e).elim (fun z => I.ok.has _ (.inl z)) fun z => I.ok.has _ (.inr z)
  refine wpAny_comprehension_free (use := none) rfl nofold (closure_ok frees) blk.kind (fun nm hm e => by rw [blk.uniq nm hm, e])
    (thn (hi.run pins s σ H _ I want) fun xv s1 hx => thn hx fun itv s2 hit => ?_)
  obtain ⟨it, ft, tn, J, H2, rfl, I2, Tk, st2, f2, q⟩ := hit
  refine newSet_ok (newEnv_comp ?_)
  obtain ⟨Da, hD⟩ : ∃ Da, s2.heap.objs.size = Da := ⟨_, rfl⟩
  rw [hD]
  obtain ⟨Wv, ⟨m0, w0⟩, turn⟩ := q Da (I2.hok.fresh (Nat.le_of_eq hD))
  obtain ⟨s3, hs3⟩ : ∃ s3 : Shared, { s2 with heap := s2.heap.push { cls := .type "set", dict := none, data := .set #[] 0 (.fresh 0 0 (!X.w.params.followText "set-order")) } } = s3 := ⟨_, rfl⟩
  rw [hs3]
  have h3 : s3.heap = s2.heap.push { cls := .type "set", dict := none, data := .set #[] 0 (.fresh 0 0 (!X.w.params.followText "set-order")) } := by rw [← hs3]
  have old3 : ∀ a v, s2.heap.get? a = some v → s3.heap.get? a = some v := fun a v e => by rw [h3]; exact Heap.get?_push_of_some _ e
  obtain ⟨H3, hH3⟩ : ∃ K, upd H2 Da (SetO X.w Da (fun _ => false) 0) = K := ⟨_, rfl⟩
  rw [hH3] at w0
  have I3 : Inv X pins σ H3 s3 := by
    rw [← hH3, ← hs3]
    refine I2.laid (t' := s2.toks) (fun a v e => Heap.get?_push_of_some _ e) (Nat.le_of_eq hD) ?_
    rw [← hD]
    exact setO_new (setR_fresh X.w)
  have low : ∀ b ∈ ft, b < s2.heap.objs.size := fun b hb => let ⟨v, e, _⟩ := Tk.obj _ _ st2 b hb; Heap.lt_size e
  have f3 : ∀ b ∈ ft, FpOk X pins H3 b ∧ b < s3.heap.objs.size := fun b hb => by
    have hlt := low b hb
    refine ⟨⟨?_, (f2 b hb).2⟩, by rw [h3, Heap.size_push]; exact Nat.lt_succ_of_lt hlt⟩
    rw [← hH3, upd_ne (fun z => by rw [z, ← hD] at hlt; exact Nat.lt_irrefl _ hlt)]
    exact (f2 b hb).1
  have st3 : tn 0 s3.heap := Tk.keep _ _ _ st2 fun b _ v e => old3 b v e
  have I4 := block_start I3 blk nd f3
  have pg := pgs s3 H3 s3.heap.objs.size (cellsFrom (s3.heap.objs.size + 1) scope.names (cloFrom X.env.cells scope.names [])) ft
  have pe := pes s3 H3 s3.heap.objs.size (cellsFrom (s3.heap.objs.size + 1) scope.names (cloFrom X.env.cells scope.names [])) ft
  show codeAny _ _ (.compStart (.SetComp elt [⟨tgt, iter, [], 0⟩] scope pos) 0 (.ref it) (.ref Da) (compEnvC scope (cellsFrom (s3.heap.objs.size + 1) scope.names (cloFrom X.env.cells scope.names [])) s3.heap.objs.size X.env))
    (compPost (model X.prog X.w) X.A X.xe none (EP X pins σ Q) (.ref Da) s3.heap.objs.size) { s3 with heap := pushCells (s3.heap.push { cls := .type "dict", data := .dict #[] }) scope.names }
  have none3 : ∀ b ∈ ft, H3 b = none := fun b hb => (f3 b hb).1.1
  obtain ⟨ce, hce⟩ : ∃ ce, compEnvC scope (cellsFrom (s3.heap.objs.size + 1) scope.names (cloFrom X.env.cells scope.names [])) s3.heap.objs.size X.env = ce := ⟨_, rfl⟩
  rw [hce] at I4 pg pe ⊢
  have here : ce.locals = s3.heap.objs.size := by rw [← hce]; rfl
  obtain ⟨s4, hs4⟩ : ∃ s4 : Shared, { s3 with heap := pushCells (s3.heap.push { cls := .type "dict", data := .dict #[] }) scope.names } = s4 := ⟨_, rfl⟩
  rw [hs4] at I4 ⊢
  have st4 : tn 0 s4.heap := Tk.keep _ _ _ st3 fun b _ v e => by rw [← hs4]; exact pushCells_keeps _ _ _ _ (Heap.get?_push_of_some _ e)
  have still : ∀ {σ1 : L2.St} {K : Hp} {s5 : Shared}, Inv (X.blk s3 H3 scope ce ft) [] σ1 K s5 → (∀ b ∈ ft, K b = none) → ∀ b ∈ ft, FpOk (X.blk s3 H3 scope ce ft) [] K b := fun {σ1 K s5} J1 hn b hb =>
    ⟨hn b hb, (J1.ok.exf b hb).1, J1.ok.exfs b hb, .inl hb, fun x c e => (J1.ok.exf b hb).2 x c e, fun p hp => by cases hp⟩
  have loop : codeAny (model X.prog X.w) X.A (.compLoop (.SetComp elt [⟨tgt, iter, [], 0⟩] scope pos) 0 (.ref it) (.ref Da) ce) (compPost (model X.prog X.w) X.A X.xe none (EP X pins σ Q) (.ref Da) s3.heap.objs.size) s4 := by
    refine compLoopS_any (fun n t => ∃ i K, Inv (X.blk s3 H3 scope ce ft) [] (wipe σ (own.map (·.2))) K t ∧ tn i t.heap ∧ (∀ b ∈ ft, K b = none) ∧ Wv i n K) ?_ m0 ⟨0, H3, I4, st4, none3, w0⟩
    rintro n s5 ⟨i, K5, I5, st5, n5, w5⟩
    rcases turn i n K5 w5 with ⟨stop, S, nn, hK, qq⟩ | ⟨go, Nx, hNx, step⟩
    · refine thnF (Tk.done (X.blk s3 H3 scope ce ft) rfl rfl rfl calm i [] s5 _ K5 (fun _ _ => False) I5 (still I5 n5) st5 stop) fun r s6 ⟨hr, I6⟩ => ?_
      subst hr
      have I7 : Inv X pins σ K5 s6 := I3.call' (ch := ft) I6.os I6.base I6.hok I6.bare fun b hb => let z := (f3 b hb).1.2; ⟨z.2.2.1, z.1, z.2.2.2.1, z.2.2.2.2⟩
      have I8 := toSet I7 hK
      have nC : K5 s3.heap.objs.size = none := here ▸ (show K5 ce.locals = none from I6.free)
      obtain ⟨m, hn, _⟩ := I6.loc
      have hn1 : s6.heap.Ns ce.locals m := hn
      rw [here] at hn1
      have nDa : s3.heap.objs.size ≠ Da := fun e => by
        have lt : Da < s3.heap.objs.size := by rw [h3, Heap.size_push]; omega
        omega
      obtain ⟨z0, z1, z2, z3, z4, z5⟩ := I3.fpOk (b := s3.heap.objs.size) (Nat.le_refl _) (show (upd K5 Da (.set S nn)) s3.heap.objs.size = none by rw [upd_ne nDa]; exact nC)
      exact ⟨m, hn1, fun h9 sb => ⟨.ref Da, _, I8.turned (t' := s6.toks) (fun a v na e => (sb.2 a na).trans e) z0 z1 z3 z4 z5, rfl, qq⟩⟩
    · refine thnF (Tk.item (X.blk s3 H3 scope ce ft) rfl rfl rfl calm i [] s5 _ K5 (fun _ _ => False) I5 (still I5 n5) st5 go) fun r s6 ⟨u, hr, h6⟩ => ?_
      subst hr
      refine thnF h6 fun _ s7 ⟨x, K7, I7, r7, y7, st7, n7⟩ => ?_
      refine thnF (pg.run _ s7 _ K7 x u _ (I7.pinned (still I7 n7) (Tk.obj _ _ st7)) r7 (step x K7 y7)) fun _ s8 ⟨σ8, K8, I8, hw8, q8⟩ => ?_
      have ends : ∀ {t : Shared} {K : Hp}, Inv (X.blk s3 H3 scope ce ft) ([] ++ pinsAt ft s7.heap) σ8 K t → Nx K → ∃ m, m < n ∧ ∃ i K, Inv (X.blk s3 H3 scope ce ft) [] (wipe σ (own.map (·.2))) K t ∧ tn i t.heap ∧ (∀ b ∈ ft, K b = none) ∧ Wv i m K := fun {t K} J1 nx => by
        obtain ⟨m1, hm, w1⟩ := hNx K nx
        have kept : ∀ b ∈ ft, ∀ v, s7.heap.get? b = some v → t.heap.get? b = some v ∧ K b = none := fun b hb v e =>
          let z := J1.pin (b, v) (List.mem_append_right _ (List.mem_append_right _ (mem_pinsAt hb e)))
          ⟨z.1, z.2.1⟩
        refine ⟨m1, hm, i + 1, K, (J1.unpinned (pins := [])).weak (by rw [← hw8, wipe_length]) (fun j v e => ?_), Tk.keep _ _ _ st7 fun b hb v e => (kept b hb v e).1, fun b hb => ?_, w1⟩
        · rw [← hw8] at e
          exact (wipe_some e).1
        · obtain ⟨v, e, _⟩ := Tk.obj _ _ st7 b hb
          exact (kept b hb v e).2
      show wpAny _ _ (pure true) _ _ _
      refine wpAny_pure ?_
      simp only [if_true]
      refine thnF (pe.run _ s8 σ8 K8 _ I8 q8) fun z s10 ⟨yv, K10, I10, r10, c, S0, n0, ey, hD10, room, nx⟩ => ?_
      subst ey
      obtain ⟨tk, rfl⟩ := (show ∃ tk, z = Value.int c tk from r10)
      exact addI (X := X.blk s3 H3 scope ce ft) I10 hD10 room fun s11 I11 => ends I11 nx
  exact codeAny_compStart_set loop (Tk.self X.A 0 _ _ _ st4 loop)
theorem pe_si {elt tgt iter : Expr} {scope : Scope} {own : List (PySem.Str × Nat)} {pos : Pos} {wi : TI} {tg : TG} {te : TE} (calm : X.calm = true) (nd : X.N.Nodup) (hi : PI X tgt iter wi) (blk : BlkOk X.N X.env.scope scope own)
    (pgs : ∀ (s : Shared) (H : Hp) (B : Addr) (cl : List (PySem.Str × Addr)) (ft : List Addr), PG (X.blk s H scope (compEnvC scope cl B X.env) ft) tgt tg)
    (pes : ∀ (s : Shared) (H : Hp) (B : Addr) (cl : List (PySem.Str × Addr)) (ft : List Addr), PE (X.blk s H scope (compEnvC scope cl B X.env) ft) elt te) (nofold : ∀ x, foldedSetIterable iter X.env x = pure x := by intro _; rfl) :
    PE X (.SetComp elt [⟨tgt, iter, [], 0⟩] scope pos) (tSi X.w wi tg te (own.map (·.2))) := by
  refine ⟨fun pins s σ H Q I want => ?_⟩
  rw [eval_SetComp]
  exact si_core calm nd I hi blk pgs pes nofold want
end
/-! ### with denotations -/
def isJ (i : Int) : D → Bool
  | .int j => j == i
  | _ => false
def insI (acc : List D) (i : Int) : List D := if acc.any (isJ i) = true then acc else acc ++ [.int i]
def siLoop (gd : Option (Nat × O)) (γ : GF) (φ : EF) (sl : Sl) : List D → List D → VH → R (List D)
  | [], acc, vh => if gdB gd vh = true then .ok acc vh else .bad
  | d :: ds, acc, vh => if gdB gd vh = true then (match γ d sl vh with
    | none => .bad
    | some (sl', vh1) => match φ sl' vh1 with
      | .ok (.v (.int i)) vh2 => if acc.length < 1000 then siLoop gd γ φ sl ds (insI acc i) vh2 else .bad
      | _ => .bad) else .bad
def eSi (ι : IF) (γ : GF) (φ : EF) (vs : List Nat) : EF := fun sl vh => match ι sl vh with
  | .ok iv vh1 => (match siLoop iv.gd γ φ (wipeS sl vs) iv.items [] vh1 with
    | .ok acc vh2 => .ok (.f (.st acc)) vh2
    | _ => .bad)
  | .exc x vh' => .exc x vh'
  | .bad => .bad
section
variable {W : Wd} {C : Con} {Wx : WX} {X : Cx} {k : Nat} {g g0 : Gh} {H H0 : Hp} {σ : L2.St} {sl : Sl} {vh : VH} {φ ψ : EF} {pos : Pos} {e a b tg : Expr}
/-- a set in the making is no code object -/
theorem nx_set {H : Hp} {w : World} {D : Addr} {S : Int → Bool} {n : Nat} (e : H D = some (SetO w D S n)) : ∀ q, H D ≠ some (LamX.CodeO D q) := by
  intro q z
  have z2 : SetO w D S n = LamX.CodeO D q := Option.some.inj (e.symm.trans z)
  unfold SetO LamX.CodeO at z2
  injection z2 with z3
  have g : Heap.get? ⟨Array.replicate (D + 1) ({ cls := .none, data := .fields #[.none, .str q 0] } : Obj), {}⟩ D = some { cls := .none, data := .fields #[.none, .str q 0] } := by
    simp [Heap.get?]
  have r := (congrFun z3 ⟨Array.replicate (D + 1) ({ cls := .none, data := .fields #[.none, .str q 0] } : Obj), {}⟩).mpr ⟨_, _, 0, g, rfl, rfl⟩
  obtain ⟨o, es, ep, t, e1, _, e3, _⟩ := r
  rw [g] at e1
  cases e1
  cases e3
theorem scan_big : 1001 < scanBound := by decide
theorem insI_any {acc : List D} {i j : Int} : (insI acc i).any (isJ j) = (acc.any (isJ j) || decide (j = i)) := by
  unfold insI
  split
  · rename_i h
    by_cases e : j = i
    · subst e; simp [h]
    · simp [e]
  · rw [List.any_append]
    congr 1
    simp only [List.any_cons, List.any_nil, Bool.or_false, isJ]
    by_cases e : j = i
    · subst e; simp
    · rw [decide_eq_false e]; exact beq_eq_false_iff_ne.mpr fun z => e z.symm
theorem si_imp {ι : IF} {γ : GF} {ix vs : List Nat} {Q : VK} (hix : ∀ i ∈ ix, i ∈ vs) (h : RelH W C g vh H) (hs : RelS W g H sl σ) (q : PostE W C Wx g H σ sl (eSi ι γ φ vs sl vh) Q) :
    tSi X.w (TDI W C Wx ι) (TDG W γ ix) (fun σ H Q => ∃ C, TDE W C WF φ σ H Q) vs σ H Q := by
  refine ⟨g, sl, vh, h, hs, ?_⟩
  unfold eSi at q
  cases r : ι sl vh with
  | bad => rw [r] at q; exact q
  | exc x vh' => rw [r] at q; exact q
  | ok iv vh1 =>
    rw [r] at q
    intro g1 H1 J h1 s1 x1 y1 Da hD
    dsimp only at q
    obtain ⟨f1, f2, f3⟩ := h1.free hD
    have p1 : Pend C g1 Da := ⟨f1, f2, f3⟩
    have q : PostE W C Wx g H σ sl (match siLoop iv.gd γ φ (wipeS sl vs) iv.items [] vh1 with | .ok acc vh2 => .ok (.f (.st acc)) vh2 | _ => .bad) Q := q
    refine ⟨fun i m H2 => m = iv.items.length - i ∧ i ≤ iv.items.length ∧ ∃ g2 vh2 acc S, RelH W C g2 vh2 H2 ∧ Pend C g2 Da ∧ Ext g1 H1 g2 H2 ∧ H2 Da = some (SetO X.w Da S acc.length) ∧ (∀ j, S j = acc.any (isJ j)) ∧
        PostE W C Wx g H σ sl (match siLoop iv.gd γ φ (wipeS sl vs) (iv.items.drop i) acc vh2 with | .ok acc vh2 => .ok (.f (.st acc)) vh2 | _ => .bad) Q,
      ⟨_, rfl, Nat.zero_le _, g1, vh1, [], _, h1.pend p1 (nx_none hD), p1, Ext.upd f1 (nx_none hD), upd_same, fun j => rfl, by rw [List.drop_zero]; exact q⟩, ?_⟩
    rintro i m H2 ⟨rfl, hi, g2, vh2, acc, S, h2, p2, x2, e2, hS, q2⟩
    by_cases hlt : i < iv.items.length
    · rw [List.drop_eq_getElem_cons hlt] at q2
      unfold siLoop at q2
      by_cases hgd : gdB iv.gd vh2 = true
      · rw [if_pos hgd] at q2
        have hk := h2.keep p2 (by rw [e2]; exact fun z => by cases z)
        obtain ⟨_, yy⟩ := y1 _ i g2 vh2 H2 hk x2 hgd
        obtain ⟨go, yy⟩ := yy _ (List.getElem?_eq_getElem hlt)
        refine .inr ⟨go, fun H2 => ∃ g2 vh2 acc S, RelH W C g2 vh2 H2 ∧ Pend C g2 Da ∧ Ext g1 H1 g2 H2 ∧ H2 Da = some (SetO X.w Da S acc.length) ∧ (∀ j, S j = acc.any (isJ j)) ∧
          PostE W C Wx g H σ sl (match siLoop iv.gd γ φ (wipeS sl vs) (iv.items.drop (i + 1)) acc vh2 with | .ok acc vh2 => .ok (.f (.st acc)) vh2 | _ => .bad) Q,
          fun H' n => ⟨_, by omega, rfl, hlt, n⟩, fun x H3 hy => ?_⟩
        obtain ⟨g3, h3, x3, r3⟩ := yy x H3 hy
        have s3 : RelS W g3 H3 (wipeS sl vs) (wipe σ vs) := RelS.mono (x2.trans x3) (s1.wipe vs)
        refine ⟨_, g3, wipeS sl vs, vh2, _, h3, s3, r3, ?_⟩
        cases eg : γ iv.items[i] (wipeS sl vs) vh2 with
        | none => rw [eg] at q2; exact q2.elim
        | some p =>
          obtain ⟨sl4, vh4⟩ := p
          rw [eg] at q2
          dsimp only at q2
          intro g4 H4 σ4 h4 s4 x4 w4
          refine ⟨by rw [w4 vs hix]; exact wipe_idem vs fun i hi => hi, _, g4, sl4, vh4, h4, s4, ?_⟩
          cases ee : φ sl4 vh4 with
          | bad => rw [ee] at q2; exact q2.elim
          | exc x vh' => rw [ee] at q2; exact q2.elim
          | ok ev vh6 =>
            rw [ee] at q2
            cases ev with
            | f o => exact q2.elim
            | v d =>
              cases d <;> try exact q2.elim
              rename_i c
              dsimp only at q2
              by_cases hl : acc.length < 1000
              · rw [if_pos hl] at q2
                intro g6 H6 v6 h6 s6 x6 r6
                have r6' : Rep W g6 H6 (.int c) v6 := r6
                simp only [Rep] at r6'
                subst r6'
                obtain ⟨h8, p8, e8⟩ := h2.unkeep p2 h6
                have sb := scan_big
                refine ⟨c, S, acc.length, rfl, e8.trans e2, by omega, g6, vh6, insI acc c, (fun j => S j || decide (j = c)), h8.pend p8 (nx_set (e8.trans e2)), p8, (x2.trans ((x3.trans x4).trans x6)).trans (Ext.upd p8.nf (nx_set (e8.trans e2))), ?_, fun j => ?_, q2⟩
                · rw [upd_same]
                  have en : (if S c = true then acc.length else acc.length + 1) = (insI acc c).length := by
                    unfold insI
                    rw [hS c]
                    split <;> simp
                  rw [en]
                · show (S j || decide (j = c)) = _
                  rw [insI_any, hS j]
              · rw [if_neg hl] at q2; exact q2.elim
      · rw [if_neg hgd] at q2; exact q2.elim
    · have ei : iv.items.length ≤ i := Nat.le_of_not_lt hlt
      rw [List.drop_eq_nil_of_le ei] at q2
      unfold siLoop at q2
      by_cases hgd : gdB iv.gd vh2 = true
      · rw [if_pos hgd] at q2
        refine .inl ⟨(y1 C i g2 vh2 H2 h2 x2 hgd).1 ei, S, acc.length, e2, ?_⟩
        have xu := Ext.upd (H := H2) (u := .set S acc.length) p2.nf (nx_set e2)
        exact q2 g2 _ (.ref Da) (h2.pend p2 (nx_set e2)) (RelS.mono (x2.trans xu) s1) ((x1.trans x2).trans xu) ⟨Da, rfl, ⟨S, acc.length, upd_same, rfl, fun j => hS j⟩, p2.nf, p2.np, p2.nfr⟩
      · rw [if_neg hgd] at q2; exact q2.elim
variable {elt iter : Expr} {scope : Scope} {ι : IF} {γ : GF} {ix : List Nat}
theorem de_si (own : List (Str × Nat)) (cz : Cz W Wx k X) (hi : DI W Wx X tg iter ι) (ok : blkC X.N X.env.scope scope own = true)
    (hg : ∀ (s : Shared) (H : Hp) (C : Addr) (cl : List (Str × Addr)) (fp : List Addr), Cz W WF k (X.blk s H scope (compEnvC scope cl C X.env) fp) → DG W (X.blk s H scope (compEnvC scope cl C X.env) fp) tg γ ix)
    (he : ∀ (s : Shared) (H : Hp) (C : Addr) (cl : List (Str × Addr)) (fp : List Addr), Cz W WF k (X.blk s H scope (compEnvC scope cl C X.env) fp) → DE W WF (X.blk s H scope (compEnvC scope cl C X.env) fp) elt φ)
    (hix : ∀ i ∈ ix, i ∈ own.map (·.2) := by decide) (hs : ∀ x, foldedSetIterable iter X.env x = pure x := by intro _; rfl) :
    DE W Wx X (.SetComp elt [⟨tg, iter, [], 0⟩] scope pos) (eSi ι γ φ (own.map (·.2))) := fun C =>
  pe_imp (pe_si cz.calm cz.nd (hi C) (blkOk_by ok) (fun s H C cl fp => hg s H C cl fp (cz.blk ..))
    (fun s H C cl fp => ⟨fun pins s' σ H Q I ⟨C', q⟩ => ((he s _ C cl fp (cz.blk ..)) C').run pins s' σ H Q I q⟩) hs) fun σ H Q ⟨g, sl, vh, h, hs, q⟩ => si_imp hix h hs q
/-! ### i not in a set -/
def opNotInS : D → D → Option EV
  | .int i, .st xs => vB (!xs.any (isJ i))
  | _, _ => none
def rNotInS : R2 := fun x y H Q => ∃ i a S n, x = V.int i ∧ y = V.ref a ∧ H a = some (.set S n) ∧ Q (.bl (!S i)) H
theorem or_notinS : OpR X (compareOp .NotIn) rNotInS := by
  intro pins s σ H x y v u Q I rx ry h
  obtain ⟨i, a, S, n, rfl, rfl, ha, q⟩ := h
  obtain ⟨tk, rfl⟩ := rx
  cases ry
  have R : s.heap.SetOf (intKind X.prog X.w) a S n := I.hok a _ ha
  exact wpAny_notInSet_of (intKind_is _ _ _ _) rfl R ⟨.bl (!S i), H, I.tok _, rfl, q⟩
theorem c_notinS : CmpOk W X .NotIn opNotInS := ⟨_, or_notinS, by
  intro C g H vh dx dy x y Q h rx ry q s
  cases dx <;> cases dy <;> try (simp [opNotInS] at s; done)
  rename_i i xs
  rw [rx.int]
  have ry' : ∃ a S n, y = .ref a ∧ H a = some (.set S n) ∧ n = xs.length ∧ ∀ i, S i = xs.any (isJ i) := by
    rcases ry with ry | ⟨o, a, e1, rfl, ho⟩
    · simp only [Rep] at ry
      obtain ⟨a, S, n, rfl, _, r⟩ := ry
      exact ⟨a, S, n, rfl, r⟩
    · cases o <;> cases e1
      obtain ⟨S, n, r⟩ := ho
      exact ⟨a, S, n, rfl, r⟩
  obtain ⟨a, S, n, rfl, ha, hn, hS⟩ := ry'
  refine ⟨i, a, S, n, rfl, rfl, ha, q _ rfl g H _ h (Ext.refl g H) ?_⟩
  simp only [RepE, Rep]
  rw [hS i]⟩
end
end
end PM

/-! PM38: sorted of whole numbers. -/
namespace PM
open PySem L2
noncomputable section
def intsOf : List D → Option (List Int)
  | [] => some []
  | .int x :: r => (intsOf r).map (x :: ·)
  | _ => none
def leI (a b : Int) : Bool := decide (a ≤ b)
def srtI (xs : List Int) : List Int := xs.mergeSort leI
def bSrtI : D → Option EV
  | .lst xs => (intsOf xs).bind fun ys => if ys.length < 64 then some (.f (.lst ((srtI ys).map D.int))) else none
  | _ => none
theorem srtI_eq {xs ys : List Int} (p : ys.Perm xs) (h : ys.Pairwise (· ≤ ·)) : ys = srtI xs :=
  List.Perm.eq_of_pairwise (le := fun a b => leI a b = true) (fun a b _ _ h k => Int.le_antisymm (of_decide_eq_true h) (of_decide_eq_true k)) (h.imp fun z => decide_eq_true z)
    (List.pairwise_mergeSort (le := leI) (fun a b c h k => decide_eq_true (Int.le_trans (of_decide_eq_true h) (of_decide_eq_true k))) (fun a b => by simp only [leI, Bool.or_eq_true, decide_eq_true_eq]; omega) xs) (p.trans (List.mergeSort_perm xs leI).symm)
section
variable {W : Wd} {C : Con} {Wx : WX} {X : Cx} {k : Nat} {g g0 : Gh} {H H0 : Hp} {sl : Sl} {vh : VH} {φ : EF} {pos p0 : Pos} {a : Expr}
theorem intsOf_rep : ∀ {xs : List D} {vs : List V} {ys : List Int}, Reps W g H xs vs → intsOf xs = some ys → vs = ys.map V.int
  | [], vs, ys, r, e => by
    simp only [Reps] at r
    cases e
    exact r
  | x :: xs, vs, ys, r, e => by
    simp only [Reps] at r
    obtain ⟨v, s, rfl, h1, h2⟩ := r
    cases x with
    | int z =>
      simp only [intsOf] at e
      cases e2 : intsOf xs with
      | none => rw [e2] at e; cases e
      | some zs =>
        rw [e2] at e
        cases e
        simp only [Rep] at h1
        rw [h1, intsOf_rep h2 e2]
        rfl
    | _ => simp [intsOf] at e
theorem reps_intsB : ∀ xs : List Int, Reps W g H (xs.map D.int) (xs.map V.int)
  | [] => Reps.nil
  | x :: xs => Reps.cons (by simp only [Rep]) (reps_intsB xs)
theorem p_srtI (hK : X.K = W.K) : Prim1 W X (fun x H Q => rSorted X.K [x] H Q) bSrtI := by
  intro C g H vh dx x Q h rx q s
  cases dx <;> try (simp [bSrtI] at s; done)
  rename_i xs
  obtain ⟨a, vs, rfl, h1, r1⟩ := rx.lst
  simp only [bSrtI] at s q
  cases e : intsOf xs with
  | none => rw [e] at s; cases s
  | some ys =>
    rw [e] at s q
    simp only [Option.bind_some] at s q
    have hc := isSome_ite s
    have ev := intsOf_rep r1 e
    subst ev
    refine ⟨a, ys, rfl, SqL.of h1, hc, fun zs p pm st np => ?_⟩
    have ez := srtI_eq pm st
    subst ez
    exact q _ (if_pos hc) _ _ _ (h.new np) (Ext.new h np) (new_lst h np (reps_intsB _))
theorem de_srtI (hK : X.K = W.K) (hg : Gl X "sorted") (hm : X.mg "sorted" = none) (ha : DE W Wx X a φ) (he : starEach (a :: []) X.env = (false, eval a X.env) :: starEach [] X.env := by rfl) : DE W Wx X (.Call (.Name "sorted" p0) [a] [] pos) (e1 bSrtI φ) :=
  de_b1 cr_sorted (p_srtI hK) hg hm ha (he := he)
end
end
end PM

/-! PM39: == and != of own instances by an own __eq__, whatever it answers. -/
namespace PMW
open PySem PySem.W PySem.Spec PyProof.Rows
section
variable {prog : Program} {w : World} {A : Around} {E : Value → Shared → Prop} {s : Shared} {K : Frag} {x C L f : Addr} {h₀ : Heap} {m : Str → Option Value} {ox : Obj} {od : Option Obj} {b tb : Value}
theorem on_slotB : Slot "object" "__ne__" "object.__ne__" :=
  Slot.of (T := "object") (name := "__ne__") (owner := "object") (n := "__ne__") (by rw [typeLookup_type, builtinLookup_eq_fast]; kernel_rfl) (by decide +kernel) (by decide +kernel) (by decide +kernel)
    (.inl (by decide +kernel)) (by rw [isSubtype_type]; kernel_rfl)
theorem ifBoundB {M : Model} {name : Str} {g : Value} {args : List Value} {Qo : Option Value → Shared → Prop} (X : K.In s.heap) (I : InstAt s.heap x ox C od) (hs : findIn K (.ref C) name = some (some g)) (hb : ∀ self, bindSpecial g self = pure (g, [self]))
    (h : wpAny M A (call g (.ref x :: args)) (fun v => Qo (some v)) E s) : wpAny M A (callSpecialIfBound? (.ref x) name args) Qo E s := by
  unfold callSpecialIfBound? bindSpecialIfBound?
  have found : Looks M s.heap (typeOf (.ref x)) (.ref C) := I.type
  refine wpAny_holding (wpAny_bind (wpAny_bind ?_))
  refine wpAny_bind (found.here ((looks_findIn X hs).here (wpAny_bind (wpAny_askSetting (wpAny_ite ?_)))))
  have fin : wpAny M A (call g ([.ref x] ++ args) >>= fun v => pure (some v)) Qo E s := wpAny_bind (wpAny_mono h (fun v s1 h1 => wpAny_pure h1) fun _ _ z => z)
  split
  · exact wpAny_bind ((Looks.of_pure (hb (.ref x))).here (wpAny_pure (by exact fin)))
  · exact wpAny_tryCatch (wpAny_bind ((Looks.of_pure (hb (.ref x))).here (wpAny_pure (by exact fin))))
theorem plain_sub {M : Model} {h : Heap} (X : K.In h) (I : InstAt h x ox C od) (hp : plainOver K C = true) : Looks M h (isInstance (.ref x) (.type "object")) true := by
  obtain ⟨cdata, h1, h2⟩ := any_some hp
  have some1 : cdata.mro.isEmpty = false := by
    rcases hm : cdata.mro with _ | ⟨c1, cs⟩
    · rw [hm] at h2; cases h2
    · rfl
  refine I.type.andThen (looks_mroIn X ?_)
  unfold mroIn
  rw [h1, Option.bind_some, if_neg (by rw [some1]; decide), only_has h2]
theorem ne_bodyB {Qf : Fin → Shared → Prop} (hu : A.units < cLine) (X : K.In s.heap) (I : InstAt s.heap x ox C od) (hs : findIn K (.ref C) "__eq__" = some (some (.ref f))) (hf : isFn K (.ref f) = true)
    (h : wpAny (model prog w) A (call (.ref f) [.ref x, b]) (fun v s1 => ∃ r, v = .bool r ∧ Qf (.done (.ret (.bool (!r)))) s1) E s) : wpAny (model prog w) A (Builtin.«object.__ne__» ⟨[.ref x, b], []⟩) Qf E s := by
  unfold Builtin.«object.__ne__»
  repeat (first
    | with_reducible refine wpAny_cRoomFor hu ?_
    | (refine wpAny_bind (m := callSpecialIfBound? (.ref x) (Str.ofString "__eq__") [b])
        (ifBound_K X I hs hf (wpAny_mono h (fun r s1 hr => by
          obtain ⟨ans, rfl, qa⟩ := hr
          repeat (first | exact qa | exact wpAny_pure qa | exact wpAny_truthy_bool qa | (refine wpAny_bind (m := truthy (.bool ans)) (wpAny_truthy_bool ?_)) | wp_step)) fun _ _ e => e)))
    | wp_step)
theorem ne_tryB {Qo : Option Value → Shared → Prop} (hu : A.in1.units < cLine) (X : K.In s.heap) (I : InstAt s.heap x ox C od) (hp : plainOver K C = true) (hne : findIn K (.ref C) "__ne__" = some (some (.builtin "object.__ne__")))
    (hs : findIn K (.ref C) "__eq__" = some (some (.ref f))) (hf : isFn K (.ref f) = true)
    (h : wpAny (model prog w) A.in1 (call (.ref f) [.ref x, b]) (fun v s1 => ∃ r, v = .bool r ∧ Qo (some (.bool (!r))) s1) E s) : wpAny (model prog w) A (tryCompare (.ref x) "__ne__" b) Qo E s := by
  unfold tryCompare
  refine wpAny_bind (ifBoundB X I hne on_slotB.bind ?_)
  refine wpAny_call (codeAny_call_builtin on_slotB.plain F.cmpEntry_ne (check_slot F.cmpKind_ne F.cmpSplit_ne (plain_sub X I hp) (F.cmpArgs_ne _ _)
    (ne_bodyB hu X I hs hf (wpAny_mono h (fun v s1 hv => ?_) fun _ _ e => e))))
  obtain ⟨r, rfl, hq⟩ := hv
  first | exact ⟨r, rfl, wpAny_pure hq⟩ | exact ⟨r, rfl, wpAny_pure (wpAny_pure hq)⟩ | exact ⟨r, rfl, hq⟩
theorem ne_richB {Q : Value → Shared → Prop} (hu : A.in1.units < cLine) (hu0 : A.units < cLine) (F : Fr h₀ L s.heap m) (X₀ : K.In h₀) (I : InstAt s.heap x ox C od) (hb : Looks (model prog w) s.heap (typeOf b) tb) (hn : notFirst K C tb = true) (hp : plainOver K C = true)
    (hne : findIn K (.ref C) "__ne__" = some (some (.builtin "object.__ne__"))) (hs : findIn K (.ref C) "__eq__" = some (some (.ref f))) (hf : isFn K (.ref f) = true)
    (h : wpAny (model prog w) A.in1 (call (.ref f) [.ref x, b]) (fun v s1 => ∃ r, v = .bool r ∧ Q (.bool (!r)) s1) E s) : wpAny (model prog w) A (richCompare .NotEq (.ref x) b) Q E s := by
  have X := X₀.keeps F.keep
  have one : wpAny (model prog w) A (tryCompare (.ref x) "__ne__" b) (fun r s1 => ∃ v, r = some v ∧ Q v s1) E s :=
    ne_tryB hu X I hp hne hs hf (wpAny_mono h (fun v s1 hv => let ⟨r, e, q⟩ := hv; ⟨r, e, _, rfl, q⟩) fun _ _ e => e)
  unfold richCompare
  simp only [oneThing_ref]
  have left : ∀ {B : Type} {c : B → Sem Value} {e : Sem B} {u : B}, Looks (model prog w) s.heap e u → wpAny (model prog w) A (c u) Q E s → wpAny (model prog w) A (e >>= c) Q E s := fun lk z => wpAny_bind (lk.here z)
  refine wpAny_holding (wpAny_bind (wpAny_cRoomFor hu0 (left I.type (left hb ?_))))
  split
  · rename_i ne1
    have low : subIn K tb (.ref C) = some false := (Bool.or_eq_true_iff.mp hn).elim (fun e => absurd ne1 (by rw [beq_iff_eq.mp e]; simp)) fun e => beq_iff_eq.mp e
    refine left (looks_subIn X low) ?_
    simp only [Bool.false_eq_true, if_false]
    exact wpAny_bind (wpAny_mono one (fun r s1 z => by obtain ⟨v, rfl, qv⟩ := z; exact wpAny_pure qv) fun _ _ e => e)
  · refine wpAny_bind (wpAny_pure ?_)
    simp only [Bool.false_eq_true, if_false]
    exact wpAny_bind (wpAny_mono one (fun r s1 z => by obtain ⟨v, rfl, qv⟩ := z; exact wpAny_pure qv) fun _ _ e => e)
end
end PMW

/-! PM40: == and != by an own __eq__, with denotations. -/
namespace PM
open PySem L2
noncomputable section
section
variable {W : Wd} {C : Con} {Wx : WX} {X : Cx} {g g0 : Gh} {H H0 : Hp} {σ : L2.St} {sl : Sl} {vh : VH} {k cid : Nat} {f : Addr} {fd : FuncData} {ps : List Str} {Φ : Den} {arr : List D → List D} {φ ψ : EF} {p0 pos : Pos} {a b : Expr}
/-- what may stand at the right: its type is no class below the own one -/
def okR (cid : Nat) : D → Bool
  | .ins c _ => c == cid
  | .tup _ => true
  | .int _ => true
  | .non => true
  | _ => false
def cmpR (neg : Bool) : R D → R D
  | .ok (.bl b) vh' => .ok (.bl (b != neg)) vh'
  | _ => .bad
def dCmpO (cid : Nat) (neg : Bool) (arr : List D → List D) (Φ : Den) (φ ψ : EF) : EF := eb φ fun x => eb ψ fun y => fun sl vh => if isIns cid "__eq__" (view vh x) = true ∧ okR cid (view vh y) = true then (match cmpR neg (Φ (arr [x, y]) vh) with
  | .ok d vh' => .ok (.v d) vh'
  | _ => .bad) else .bad
def RightOk (W : Wd) (cid : Nat) (H : Hp) (y : V) : Prop := y = .non ∨ (∃ i, y = .int i) ∨ (∃ b xs, y = .ref b ∧ SqT W.K H b xs) ∨ ∃ b dx gs, y = .ref b ∧ H b = some (.ins (W.cls cid) dx gs)
theorem rightOk (h : RelH W C g vh H) {d : D} {v : V} (r : Rep W g H d v) (t : okR cid (view vh d) = true) : RightOk W cid H v := by
  have rx := h.view r
  cases e : view vh d with
  | non => rw [e] at rx; exact .inl rx.non
  | int i => rw [e] at rx; exact .inr (.inl ⟨i, rx.int⟩)
  | tup xs =>
    rw [e] at rx
    obtain ⟨b, vs, rfl, h1, _⟩ := rx.tup
    exact .inr (.inr (.inl ⟨b, vs, rfl, h1⟩))
  | ins c fs =>
    rw [e] at rx t
    obtain ⟨b, dx, gs, rfl, h1, _⟩ := rx.ins
    simp only [okR, beq_iff_eq] at t
    subst t
    exact .inr (.inr (.inr ⟨b, dx, gs, rfl, h1⟩))
  | _ => rw [e] at t; cases t
/-- its type, as the model finds it -/
theorem right_type {pins : List (Addr × Obj)} {s : Shared} {y : V} {u : Value} (hK : X.K = W.K) (I : Inv X pins σ H s) (ry : RelV y u) (h : RightOk W cid H y) : ∃ tb, PySem.W.Looks (model X.prog X.w) s.heap (typeOf u) tb ∧ PySem.W.notFirst W.K (W.cls cid) tb = true := by
  rcases h with rfl | ⟨i, rfl⟩ | ⟨b, xs, rfl, hT⟩ | ⟨b, dx, gs, rfl, hb⟩
  · cases ry
    exact ⟨.type "NoneType", PySem.W.Looks.of_pure rfl, by kernel_rfl⟩
  · obtain ⟨t, rfl⟩ := ry
    exact ⟨.type "int", PySem.W.Looks.of_pure rfl, by kernel_rfl⟩
  · cases ry
    rw [← hK] at hT
    obtain ⟨its, r, ⟨o, ho, hc, _⟩, _⟩ := I.tuple hT
    exact ⟨.type "tuple", hc ▸ (PySem.W.Looks.ld ho).andThen .now, by kernel_rfl⟩
  · cases ry
    obtain ⟨mB, J, _⟩ := ins_get I.hok hb
    obtain ⟨od, J, _⟩ := J.look
    exact ⟨.ref (W.cls cid), J.type, by simp [PySem.W.notFirst]⟩
def rCmpO (W : Wd) (cid : Nat) (neg : Bool) (arr : List D → List D) (Φ : Den) : R2 := fun x y H Q => ∃ C g vh d e a dx gs, x = V.ref a ∧ H a = some (.ins (W.cls cid) dx gs) ∧ RelH W C g vh H ∧ Rep W g H d x ∧ Rep W g H e y ∧ RightOk W cid H y ∧ PostV W C g H (cmpR neg (Φ (arr [d, e]) vh)) Q
theorem post_bl {neg : Bool} {r : R D} {Q : VK} (q : PostV W C g H (cmpR neg r) Q) : PostV W C g H r (fun v H1 => ∃ b, v = .bl b ∧ Q (.bl (b != neg)) H1) := by
  cases r with
  | bad => exact q.elim
  | exc x vh' => exact q.elim
  | ok d vh' =>
    cases d <;> try exact q.elim
    rename_i b
    exact fun g1 H1 v h1 x1 r1 => ⟨b, by simpa only [Rep] using r1, q g1 H1 _ h1 x1 (by simp only [Rep])⟩
theorem op_eqO (cz : Cz W Wx (k + 1) X) (hm : Meth W.K (W.cls cid) "__eq__" f) (F : PFn W X.prog X.w X.mg X.base k f fd ps Φ) (pt : Pat W fd ps 2 [] arr) : OpR X (compareOp .Eq) (rCmpO W cid false arr Φ) := by
  intro pins s σ H x y v u Q I rx ry h
  obtain ⟨C, g, vh, d, e, a, dx, gs, rfl, ha, hR, rd, re, hy, q⟩ := h
  cases rx
  obtain ⟨mA, J, _⟩ := ins_get I.hok ha
  obtain ⟨od, J, _⟩ := J.look
  obtain ⟨tb, hb, hn⟩ := right_type cz.K I ry hy
  obtain ⟨m, hF⟩ := I.fr
  have rm : Room k X.A := cz.rm.mono (Nat.le_succ k)
  show wpAny _ _ (richCompare .Eq (.ref a) u) _ _ _
  refine PySem.W.cmp_K (op := .Eq) rm.units0 hF I.ok.mod.kin J hb (by rw [cz.K]; exact hn) (by rw [cz.K]; exact hm.at_) (by rw [cz.K]; exact hm.fn) ?_
  have E0 : Env0 X.prog X.w W.K X.mg X.base X.A X.stack s H := by rw [← cz.K]; exact I.env0
  refine wpAny_mono (run_pfnA (Q := fun v H1 => ∃ b, v = .bl b ∧ Q (.bl (b != false)) H1) rm cz.gd cz.K E0 F pt I hR rfl (Reps.cons rd (Reps.one re)) (.cons rfl (.cons ry .nil)) (post_bl q)) (fun v s1 hv => ?_) fun _ _ z => z
  obtain ⟨w, H1, I1, rw1, r, e1, q1⟩ := hv
  subst e1
  cases rw1
  exact ⟨.bl r, H1, I1, rfl, by simpa using q1⟩
theorem op_neO (cz : Cz W Wx (k + 1) X) (c : Cls W.K (W.cls cid)) (hne : PySem.W.findIn W.K (.ref (W.cls cid)) "__ne__" = some (some (.builtin "object.__ne__"))) (hm : Meth W.K (W.cls cid) "__eq__" f) (F : PFn W X.prog X.w X.mg X.base k f fd ps Φ) (pt : Pat W fd ps 2 [] arr) :
    OpR X (compareOp .NotEq) (rCmpO W cid true arr Φ) := by
  intro pins s σ H x y v u Q I rx ry h
  obtain ⟨C, g, vh, d, e, a, dx, gs, rfl, ha, hR, rd, re, hy, q⟩ := h
  cases rx
  obtain ⟨mA, J, _⟩ := ins_get I.hok ha
  obtain ⟨od, J, _⟩ := J.look
  obtain ⟨tb, hb, hn⟩ := right_type cz.K I ry hy
  obtain ⟨m, hF⟩ := I.fr
  show wpAny _ _ (richCompare .NotEq (.ref a) u) _ _ _
  refine PMW.ne_richB cz.rm.in1.units0 cz.rm.units0 hF I.ok.mod.kin J hb (by rw [cz.K]; exact hn) (by rw [cz.K]; exact c.po) (by rw [cz.K]; exact hne) (by rw [cz.K]; exact hm.at_) (by rw [cz.K]; exact hm.fn) ?_
  have E0 : Env0 X.prog X.w W.K X.mg X.base X.A.in1 X.stack s H := by rw [← cz.K]; exact I.env0.in1
  refine wpAny_mono (run_pfnA (Q := fun v H1 => ∃ b, v = .bl b ∧ Q (.bl (b != true)) H1) cz.rm.in1 cz.gd cz.K E0 F pt I hR rfl (Reps.cons rd (Reps.one re)) (.cons rfl (.cons ry .nil)) (post_bl q)) (fun v s1 hv => ?_) fun _ _ z => z
  obtain ⟨w, H1, I1, rw1, r, e1, q1⟩ := hv
  subst e1
  cases rw1
  refine ⟨r, rfl, .bl (!r), H1, I1, rfl, ?_⟩
  have : (r != true) = !r := by cases r <;> rfl
  rw [← this]
  exact q1
/-- a == b, a != b as an expression: the left side is an own instance -/
theorem cmpO_imp {neg : Bool} {Q : VK} (h : RelH W C g vh H) (hs : RelS W g H sl σ) (q : PostE W C Wx g H σ sl (dCmpO cid neg arr Φ φ ψ sl vh) Q) :
    TDE W C Wx φ σ H fun x H1 => TDE W C Wx ψ σ H1 fun y H2 => rCmpO W cid neg arr Φ x y H2 Q :=
  (TDE.bind h hs (Ext.refl g H) q).mono fun v1 H1 ⟨g2, vh2, d1, i2, s2, x2, _, p2, q2⟩ =>
    (TDE.bind i2 s2 x2 q2).mono fun v4 H4 ⟨g5, vh5, d5, i5, s5, x5, x5', p5, q5⟩ => by
      split at q5
      · rename_i ht
        have p2' := Rep.mono x5' _ _ p2
        obtain ⟨a, dx, gs, rfl, h1, _⟩ := ins_of i5 p2' ht.1
        refine ⟨C, g5, vh5, d1, d5, a, dx, gs, rfl, h1, i5, p2', p5, rightOk i5 p5 ht.2, ?_⟩
        cases e : cmpR neg (Φ (arr [d1, d5]) vh5) with
        | bad => rw [e] at q5; exact q5
        | exc x vh' => rw [e] at q5; exact q5.elim
        | ok r vh' => rw [e] at q5; exact fun g6 H6 v h6 x6 r6 => q5 g6 H6 v h6 (s5.mono x6) (x5.trans x6) r6
      · exact q5.elim
theorem de_eqO (cz : Cz W Wx (k + 1) X) (hm : Meth W.K (W.cls cid) "__eq__" f) (F : PFn W X.prog X.w X.mg X.base k f fd ps Φ) (pt : Pat W fd ps 2 [] arr) (ha : DE W Wx X a φ) (hb : DE W Wx X b ψ) (hi : behindInMarks .Eq b = false) :
    DE W Wx X (.Compare a [.Eq] [b] pos) (dCmpO cid false arr Φ φ ψ) := fun C => pe_imp (pe_cmpR (op_eqO cz hm F pt) (ha C) (hb C) hi) fun σ H Q ⟨g, sl, vh, h, hs, q⟩ => cmpO_imp h hs q
theorem de_neO (cz : Cz W Wx (k + 1) X) (c : Cls W.K (W.cls cid)) (hne : PySem.W.findIn W.K (.ref (W.cls cid)) "__ne__" = some (some (.builtin "object.__ne__"))) (hm : Meth W.K (W.cls cid) "__eq__" f) (F : PFn W X.prog X.w X.mg X.base k f fd ps Φ) (pt : Pat W fd ps 2 [] arr)
    (ha : DE W Wx X a φ) (hb : DE W Wx X b ψ) (hi : behindInMarks .NotEq b = false) :
    DE W Wx X (.Compare a [.NotEq] [b] pos) (dCmpO cid true arr Φ φ ψ) := fun C => pe_imp (pe_cmpR (op_neO cz c hne hm F pt) (ha C) (hb C) hi) fun σ H Q ⟨g, sl, vh, h, hs, q⟩ => cmpO_imp h hs q
theorem dt_eqO (cz : Cz W Wx (k + 1) X) (hm : Meth W.K (W.cls cid) "__eq__" f) (F : PFn W X.prog X.w X.mg X.base k f fd ps Φ) (pt : Pat W fd ps 2 [] arr) (ha : DE W Wx X a φ) (hb : DE W Wx X b ψ) (hi : behindInMarks .Eq b = false) :
    DT W Wx X (.Compare a [.Eq] [b] pos) (etoT (dCmpO cid false arr Φ φ ψ)) := fun C => pt_imp (pt_cmpR (op_eqO cz hm F pt) (ha C) (hb C) hi) fun σ H Q t => by
  obtain ⟨g, sl, vh, h, hs, q⟩ := t.ofE
  exact cmpO_imp h hs q
theorem dt_neO (cz : Cz W Wx (k + 1) X) (c : Cls W.K (W.cls cid)) (hne : PySem.W.findIn W.K (.ref (W.cls cid)) "__ne__" = some (some (.builtin "object.__ne__"))) (hm : Meth W.K (W.cls cid) "__eq__" f) (F : PFn W X.prog X.w X.mg X.base k f fd ps Φ) (pt : Pat W fd ps 2 [] arr)
    (ha : DE W Wx X a φ) (hb : DE W Wx X b ψ) (hi : behindInMarks .NotEq b = false) :
    DT W Wx X (.Compare a [.NotEq] [b] pos) (etoT (dCmpO cid true arr Φ φ ψ)) := fun C => pt_imp (pt_cmpR (op_neO cz c hne hm F pt) (ha C) (hb C) hi) fun σ H Q t => by
  obtain ⟨g, sl, vh, h, hs, q⟩ := t.ofE
  exact cmpO_imp h hs q
end
end
end PM

/-! PM41: repr(o) by an own __repr__. -/
namespace PM
open PySem L2
noncomputable section
section
variable {W : Wd} {C : Con} {Wx : WX} {X : Cx} {g g0 : Gh} {H H0 : Hp} {σ : L2.St} {sl : Sl} {vh : VH} {k cid : Nat} {f : Addr} {fd : FuncData} {ps : List Str} {Φ : Den} {arr : List D → List D} {φ ψ : EF} {p0 pos : Pos} {a b : Expr}
def strR : R D → R D
  | .ok (.str x) vh' => .ok (.str x) vh'
  | _ => .bad
def dReprO (cid : Nat) (arr : List D → List D) (Φ : Den) (φ : EF) : EF := eb φ fun d sl vh => if isIns cid "__repr__" (view vh d) = true then (match strR (Φ (arr [d]) vh) with
  | .ok d vh' => .ok (.v d) vh'
  | _ => .bad) else .bad
def rReprO (W : Wd) (cid : Nat) (arr : List D → List D) (Φ : Den) : List V → Hp → VK → Prop := fun xs H Q => ∃ C g vh d a dx gs, xs = [V.ref a] ∧ H a = some (.ins (W.cls cid) dx gs) ∧ RelH W C g vh H ∧ Rep W g H d (.ref a) ∧ PostV W C g H (strR (Φ (arr [d]) vh)) Q
theorem cr_reprO (cz : Cz W Wx (k + 1) X) (hm : Meth W.K (W.cls cid) "__repr__" f) (F : PFn W X.prog X.w X.mg X.base k f fd ps Φ) (pt : Pat W fd ps 1 [] arr) : CallR X (.builtin "repr") (rReprO W cid arr Φ) := by
  intro pins s σ H xs us Q I rv h
  obtain ⟨C, g, vh, d, a, dx, gs, rfl, ha, hR, rd, q⟩ := h
  obtain ⟨u, rfl, rr⟩ := vals1 rv
  cases rr
  obtain ⟨mA, J, _⟩ := ins_get I.hok ha
  obtain ⟨od, J, _⟩ := J.look
  obtain ⟨m, hF⟩ := I.fr
  refine PySem.W.repr_K cz.rm.in1.units0 hF I.ok.mod.kin J (by rw [cz.K]; exact hm.at_) (by rw [cz.K]; exact hm.fn) ?_
  have E0 : Env0 X.prog X.w W.K X.mg X.base X.A.in1 X.stack s H := by rw [← cz.K]; exact I.env0.in1
  have q2 : PostV W C g H (Φ (arr [d]) vh) (fun v H1 => ∃ z : Str, v = .str z ∧ Q (.str z) H1) := by
    cases e : Φ (arr [d]) vh with
    | bad => rw [e] at q; exact q.elim
    | exc x vh1 => rw [e] at q; exact q.elim
    | ok r vh1 =>
      rw [e] at q
      cases r <;> try exact q.elim
      rename_i z
      exact fun g1 H1 v h1 x1 r1 => ⟨z, by simpa only [Rep] using r1, q g1 H1 _ h1 x1 (by simp only [Rep])⟩
  refine wpAny_mono (run_pfnA (Q := fun v H1 => ∃ z : Str, v = .str z ∧ Q (.str z) H1) cz.rm.in1 cz.gd cz.K E0 F pt I hR rfl (Reps.one rd) (.cons rfl .nil) q2) (fun v s1 hv => ?_) fun _ _ z => z
  obtain ⟨w, H1, I1, rw1, z, e1, q1⟩ := hv
  subst e1
  obtain ⟨t, rfl⟩ := rw1
  exact ⟨.str z, H1, I1, ⟨t, rfl⟩, q1⟩
theorem de_reprO (cz : Cz W Wx (k + 1) X) (hm : Meth W.K (W.cls cid) "__repr__" f) (F : PFn W X.prog X.w X.mg X.base k f fd ps Φ) (pt : Pat W fd ps 1 [] arr) (hg : Gl X "repr") (hm0 : X.mg "repr" = none) (ha : DE W Wx X a φ)
    (he : starEach (a :: []) X.env = (false, eval a X.env) :: starEach [] X.env := by rfl) : DE W Wx X (.Call (.Name "repr" p0) [a] [] pos) (dReprO cid arr Φ φ) := fun C =>
  pe_imp (pe_callB (cr_reprO cz hm F pt) hg hm0 (by rfl) (pa_cons (ha C) pa_nil he) (by decide) (by decide) he (by rfl)) fun σ H Q ⟨g, sl, vh, h, hs, q⟩ =>
    (TDE.bind h hs (Ext.refl g H) q).mono fun v1 H1 ⟨g2, vh2, d1, i2, s2, x2, _, p2, q2⟩ => by
      split at q2
      · rename_i ht
        obtain ⟨a, dx, gs, rfl, h1, l⟩ := ins_of i2 p2 ht
        refine ⟨C, g2, vh2, d1, a, dx, gs, rfl, h1, i2, p2, ?_⟩
        cases e : strR (Φ (arr [d1]) vh2) with
        | bad => rw [e] at q2; exact q2
        | exc x vh' => rw [e] at q2; exact q2.elim
        | ok r vh' => rw [e] at q2; exact fun g3 H3 v h3 x3 r3 => q2 g3 H3 v h3 (s2.mono x3) (x2.trans x3) r3
      · exact q2.elim
end
end
end PM

/-! PM42: isinstance of an own class; what the head is to check for it. -/
namespace PM
open PySem L2
/-- the head's check on a class that is asked for by isinstance and compared -/
def insB (C : Addr) (K : PySem.W.Frag) : Bool :=
  PySem.W.findIn K (.ref C) "__class__" == some (some (.builtin "object.__class__")) && (PySem.W.specialIn K (.builtin "object.__class__") "__get__" == some (some (.builtin "getset_descriptor.__get__")) &&
    (PySem.W.takesIn K (.builtin "object.__class__") == some true && (PySem.W.mroIn K C (.type "object") == some true && PySem.W.kitOne K (.ref C) (.ref C) == some true))) && (["NoneType", "bool", "int", "str", "tuple", "list", "dict", "set"] : List String).all fun t => PySem.W.kitOne K (.type t) (.ref C) == some false
def neB (C : Addr) (K : PySem.W.Frag) : Bool := PySem.W.findIn K (.ref C) "__ne__" == some (some (.builtin "object.__ne__"))
theorem ne_of {C : Addr} {K : PySem.W.Frag} (h : neB C K = true) : PySem.W.findIn K (.ref C) "__ne__" = some (some (.builtin "object.__ne__")) := beq_iff_eq.mp h
theorem ins_ofB {C : Addr} {K : PySem.W.Frag} (c : Cls K C) (h : insB C K = true) : InsK K C ∧ PySem.W.kitOne K (.ref C) (.ref C) = some true ∧ ∀ t ∈ (["NoneType", "bool", "int", "str", "tuple", "list", "dict", "set"] : List String), PySem.W.kitOne K (.type t) (.ref C) = some false := by
  simp only [insB, Bool.and_eq_true, beq_iff_eq, List.all_eq_true] at h
  obtain ⟨⟨h1, h2, h3, h4, h5⟩, h6⟩ := h
  exact ⟨⟨c, h1, h2, h3, h4⟩, h5, h6⟩
theorem kitC {W : Wd} {K : PySem.W.Frag} {c : Nat} (h : InsK K (W.cls c) ∧ PySem.W.kitOne K (.ref (W.cls c)) (.ref (W.cls c)) = some true ∧ ∀ t ∈ (["NoneType", "bool", "int", "str", "tuple", "list", "dict", "set"] : List String), PySem.W.kitOne K (.type t) (.ref (W.cls c)) = some false) : KitC W K [c] c :=
  ⟨fun d t e => h.2.2 t (by cases d <;> cases e <;> decide), fun c1 hc => by
    have := List.mem_singleton.mp hc
    subst this
    exact ⟨h.1, by rw [h.2.1]; simp⟩⟩
end PM

/-! PM43: == of data of whole numbers, None and tuples: the same data. -/
namespace PM
open PySem L2
mutual
def nb : D → Bool
  | .non => true
  | .int _ => true
  | .tup xs => nbs xs
  | _ => false
def nbs : List D → Bool
  | [] => true
  | x :: xs => nb x && nbs xs
end
mutual
theorem eqv_nb : ∀ {d e : D} {p q : PyData}, nb d = true → nb e = true → toPy d = some p → toPy e = some q → (PyData.eqv p q = true ↔ d = e)
  | .non, e, p, q, h, k, a, b => by
    simp only [toPy, Option.some.injEq] at a; subst a
    cases e <;> simp only [nb] at k <;> first | (cases k; done) | skip
    · simp only [toPy, Option.some.injEq] at b; subst b; simp [PyData.eqv]
    · simp only [toPy, Option.some.injEq] at b; subst b; simp [PyData.eqv]
    · simp only [toPy, Option.map_eq_some_iff] at b; obtain ⟨ys, _, rfl⟩ := b; simp [PyData.eqv]
  | .int i, e, p, q, h, k, a, b => by
    simp only [toPy, Option.some.injEq] at a; subst a
    cases e <;> simp only [nb] at k <;> first | (cases k; done) | skip
    · simp only [toPy, Option.some.injEq] at b; subst b; simp [PyData.eqv]
    · simp only [toPy, Option.some.injEq] at b; subst b; simp [PyData.eqv]
    · simp only [toPy, Option.map_eq_some_iff] at b; obtain ⟨ys, _, rfl⟩ := b; simp [PyData.eqv]
  | .tup xs, e, p, q, h, k, a, b => by
    simp only [toPy, Option.map_eq_some_iff] at a; obtain ⟨ps, a, rfl⟩ := a
    simp only [nb] at h
    cases e <;> simp only [nb] at k <;> first | (cases k; done) | skip
    · simp only [toPy, Option.some.injEq] at b; subst b; simp [PyData.eqv]
    · simp only [toPy, Option.some.injEq] at b; subst b; simp [PyData.eqv]
    · simp only [toPy, Option.map_eq_some_iff] at b; obtain ⟨qs, b, rfl⟩ := b
      simp only [PyData.eqv, D.tup.injEq]
      exact eqv_nbs h k a b
  | .bl _, e, p, q, h, k, a, b => by simp [nb] at h
  | .str _, e, p, q, h, k, a, b => by simp [nb] at h
  | .lst _, e, p, q, h, k, a, b => by simp [nb] at h
  | .dct _, e, p, q, h, k, a, b => by simp [nb] at h
  | .st _, e, p, q, h, k, a, b => by simp [nb] at h
  | .ins _ _, e, p, q, h, k, a, b => by simp [nb] at h
  | .ref _, e, p, q, h, k, a, b => by simp [nb] at h
  | .fn _, e, p, q, h, k, a, b => by simp [nb] at h
  | .cls _, e, p, q, h, k, a, b => by simp [nb] at h
  | .ty _, e, p, q, h, k, a, b => by simp [nb] at h
  | .scr _, e, p, q, h, k, a, b => by simp [nb] at h
theorem eqv_nbs : ∀ {ds es : List D} {ps qs : List PyData}, nbs ds = true → nbs es = true → toPys ds = some ps → toPys es = some qs → (PyData.eqvAll ps qs = true ↔ ds = es)
  | [], [], ps, qs, h, k, a, b => by
    simp only [toPys, Option.some.injEq] at a b; subst a b; simp [PyData.eqvAll]
  | [], e :: es, ps, qs, h, k, a, b => by
    simp only [toPys, Option.some.injEq] at a; subst a
    cases qs with
    | nil => simp only [toPys] at b; split at b <;> simp at b
    | cons q qs => simp [PyData.eqvAll]
  | d :: ds, [], ps, qs, h, k, a, b => by
    simp only [toPys, Option.some.injEq] at b; subst b
    cases ps with
    | nil => simp only [toPys] at a; split at a <;> simp at a
    | cons q qs => simp [PyData.eqvAll]
  | d :: ds, e :: es, ps, qs, h, k, a, b => by
    simp only [nbs, Bool.and_eq_true] at h k
    simp only [toPys] at a b
    cases a1 : toPy d with
    | none => rw [a1] at a; simp at a
    | some p =>
      cases a2 : toPys ds with
      | none => rw [a1, a2] at a; simp at a
      | some ps1 =>
        cases b1 : toPy e with
        | none => rw [b1] at b; simp at b
        | some q =>
          cases b2 : toPys es with
          | none => rw [b1, b2] at b; simp at b
          | some qs1 =>
            rw [a1, a2] at a; rw [b1, b2] at b
            simp only [Option.some.injEq] at a b
            subst a b
            simp only [PyData.eqvAll, Bool.and_eq_true, List.cons.injEq]
            rw [eqv_nb h.1 k.1 a1 b1, eqv_nbs h.2 k.2 a2 b2]
end
/-- == of such tuples -/
theorem eq_nb {xs ys : List D} {k n l m : Nat} (h : nbs xs = true) (k1 : nbs ys = true) (rx : Rps k n xs) (ry : Rps l m ys) (hk : k < 64) (hl : l < 64) : ∃ b, opEq (.tup xs) (.tup ys) = some (.v (.bl b)) ∧ (b = true ↔ xs = ys) := by
  obtain ⟨ps, e, c, _, _, a2, _⟩ := rx
  obtain ⟨qs, e2, c2, _, _, b2, _⟩ := ry
  have s1 : SeqAt.shaped (.tuple ps) = true := by simp [SeqAt.shaped, PyData.canLay0, c, PyData.depth]; omega
  have s2 : SeqAt.shaped (.tuple qs) = true := by simp [SeqAt.shaped, PyData.canLay0, c2, PyData.depth]; omega
  exact ⟨PyData.eqvAll ps qs, by simp [opEq, eqD, scV, eqDeep, toPy, e, e2, s1, s2, PyData.eqv], eqv_nbs h k1 e e2⟩
end PM

/-! PM44: the text of small whole numbers, None and tuples tells the thing. -/
namespace PM
open PySem L2
def digsT (i : Int) : List Nat := (Str.ofString (toString i)).cps.toList
def decT (l : List Nat) : Nat := l.foldl (fun a c => 10 * a + (c - 48)) 0
theorem digsT_ok {i : Int} (h0 : 0 ≤ i) (h1 : i < 1000) : digsT i ≠ [] ∧ (∀ c ∈ digsT i, 48 ≤ c ∧ c ≤ 57) ∧ decT (digsT i) = i.toNat := by
  have h : ∀ n : Fin 1000, digsT ((n.val : Nat) : Int) ≠ [] ∧ (∀ c ∈ digsT ((n.val : Nat) : Int), 48 ≤ c ∧ c ≤ 57) ∧ decT (digsT ((n.val : Nat) : Int)) = n.val := by decide +kernel
  have := h ⟨i.toNat, by omega⟩
  simpa [Int.toNat_of_nonneg h0] using this
mutual
def sm : D → Bool
  | .non => true
  | .int i => decide (0 ≤ i ∧ i < 1000)
  | .tup xs => sms xs
  | _ => false
def sms : List D → Bool
  | [] => true
  | x :: xs => sm x && sms xs
end
mutual
/-- its text -/
def tx : D → List Nat
  | .non => [78, 111, 110, 101]
  | .int i => digsT i
  | .tup xs => 40 :: txT xs
  | _ => []
def txT : List D → List Nat
  | [] => [41]
  | [x] => tx x ++ [44, 41]
  | x :: y :: r => tx x ++ (44 :: 32 :: txU (y :: r))
def txU : List D → List Nat
  | [] => [41]
  | [x] => tx x ++ [41]
  | x :: y :: r => tx x ++ (44 :: 32 :: txU (y :: r))
end
def stopT : List Nat → Prop
  | [] => True
  | c :: _ => c = 41 ∨ c = 44
theorem dig_split : ∀ {w v r s : List Nat}, (∀ c ∈ w, 48 ≤ c ∧ c ≤ 57) → (∀ c ∈ v, 48 ≤ c ∧ c ≤ 57) → stopT r → stopT s → w ++ r = v ++ s → w = v ∧ r = s
  | [], [], r, s, _, _, _, _, e => ⟨rfl, by simpa using e⟩
  | [], c :: v, r, s, _, k, a, _, e => by
    simp only [List.nil_append, List.cons_append] at e
    subst e
    have := k c (List.mem_cons_self ..)
    simp only [stopT] at a; omega
  | c :: w, [], r, s, h, _, _, b, e => by
    simp only [List.nil_append, List.cons_append] at e
    subst e
    have := h c (List.mem_cons_self ..)
    simp only [stopT] at b; omega
  | c :: w, d :: v, r, s, h, k, a, b, e => by
    simp only [List.cons_append, List.cons.injEq] at e
    obtain ⟨rfl, e⟩ := e
    obtain ⟨rfl, e2⟩ := dig_split (fun x hx => h x (List.mem_cons_of_mem _ hx)) (fun x hx => k x (List.mem_cons_of_mem _ hx)) a b e
    exact ⟨rfl, e2⟩
/-- how a text begins -/
theorem tx_head : ∀ {d : D}, sm d = true → ∃ c r, tx d = c :: r ∧ ((c = 78 ∧ d = .non) ∨ ((48 ≤ c ∧ c ≤ 57) ∧ ∃ i, d = .int i) ∨ (c = 40 ∧ ∃ xs, d = .tup xs))
  | .non, _ => ⟨78, [111, 110, 101], by simp [tx], .inl ⟨rfl, rfl⟩⟩
  | .int i, h => by
    simp only [sm, decide_eq_true_eq] at h
    obtain ⟨a, b, _⟩ := digsT_ok h.1 h.2
    cases e : digsT i with
    | nil => exact absurd e a
    | cons c r => exact ⟨c, r, by simp [tx, e], .inr (.inl ⟨b c (by rw [e]; exact List.mem_cons_self ..), i, rfl⟩)⟩
  | .tup xs, _ => ⟨40, txT xs, by simp [tx], .inr (.inr ⟨rfl, xs, rfl⟩)⟩
  | .bl _, h => by simp [sm] at h
  | .str _, h => by simp [sm] at h
  | .lst _, h => by simp [sm] at h
  | .dct _, h => by simp [sm] at h
  | .st _, h => by simp [sm] at h
  | .ins _ _, h => by simp [sm] at h
  | .ref _, h => by simp [sm] at h
  | .fn _, h => by simp [sm] at h
  | .cls _, h => by simp [sm] at h
  | .ty _, h => by simp [sm] at h
  | .scr _, h => by simp [sm] at h
mutual
theorem tx_inj : ∀ {d e : D} {r s : List Nat}, sm d = true → sm e = true → stopT r → stopT s → tx d ++ r = tx e ++ s → d = e ∧ r = s
  | .non, e, r, s, h, k, a, b, q => by
    obtain ⟨c, t, e1, z⟩ := tx_head k
    rw [e1] at q
    simp only [tx, List.cons_append, List.cons.injEq] at q
    rcases z with ⟨_, rfl⟩ | ⟨z, _⟩ | ⟨z, _⟩
    · simp only [tx, List.cons.injEq] at e1
      obtain ⟨_, rfl⟩ := e1
      simp only [List.cons_append, List.nil_append, List.cons.injEq] at q
      exact ⟨rfl, q.2.2.2.2⟩
    · omega
    · omega
  | .int i, e, r, s, h, k, a, b, q => by
    obtain ⟨c, t, e1, z⟩ := tx_head k
    have hi := h
    simp only [sm, decide_eq_true_eq] at hi
    obtain ⟨n0, n1, n2⟩ := digsT_ok hi.1 hi.2
    rcases z with ⟨z, rfl⟩ | ⟨_, j, rfl⟩ | ⟨z, xs, rfl⟩
    · rw [e1] at q
      simp only [tx] at q
      cases e2 : digsT i with
      | nil => exact absurd e2 n0
      | cons c' r' =>
        rw [e2] at q n1
        simp only [List.cons_append, List.cons.injEq] at q
        have := n1 c' (List.mem_cons_self ..); omega
    · have hj := k
      simp only [sm, decide_eq_true_eq] at hj
      obtain ⟨m0, m1, m2⟩ := digsT_ok hj.1 hj.2
      simp only [tx] at q
      obtain ⟨e3, e4⟩ := dig_split n1 m1 a b q
      rw [e3, m2] at n2
      exact ⟨by rw [show i = j by omega], e4⟩
    · rw [e1] at q
      simp only [tx] at q
      cases e2 : digsT i with
      | nil => exact absurd e2 n0
      | cons c' r' =>
        rw [e2] at q n1
        simp only [List.cons_append, List.cons.injEq] at q
        have := n1 c' (List.mem_cons_self ..); omega
  | .tup xs, e, r, s, h, k, a, b, q => by
    obtain ⟨c, t, e1, z⟩ := tx_head k
    rcases z with ⟨z, rfl⟩ | ⟨z, j, rfl⟩ | ⟨z, ys, rfl⟩
    · rw [e1] at q; simp only [tx, List.cons_append, List.cons.injEq] at q; omega
    · rw [e1] at q; simp only [tx, List.cons_append, List.cons.injEq] at q; omega
    · simp only [tx, List.cons_append, List.cons.injEq, true_and] at q
      simp only [sm] at h k
      obtain ⟨rfl, e2⟩ := txT_inj h k q
      exact ⟨rfl, e2⟩
  | .bl _, e, r, s, h, k, a, b, q => by simp [sm] at h
  | .str _, e, r, s, h, k, a, b, q => by simp [sm] at h
  | .lst _, e, r, s, h, k, a, b, q => by simp [sm] at h
  | .dct _, e, r, s, h, k, a, b, q => by simp [sm] at h
  | .st _, e, r, s, h, k, a, b, q => by simp [sm] at h
  | .ins _ _, e, r, s, h, k, a, b, q => by simp [sm] at h
  | .ref _, e, r, s, h, k, a, b, q => by simp [sm] at h
  | .fn _, e, r, s, h, k, a, b, q => by simp [sm] at h
  | .cls _, e, r, s, h, k, a, b, q => by simp [sm] at h
  | .ty _, e, r, s, h, k, a, b, q => by simp [sm] at h
  | .scr _, e, r, s, h, k, a, b, q => by simp [sm] at h
theorem txT_inj : ∀ {xs ys : List D} {r s : List Nat}, sms xs = true → sms ys = true → txT xs ++ r = txT ys ++ s → xs = ys ∧ r = s
  | [], [], r, s, h, k, q => by simp [txT] at q; exact ⟨rfl, q⟩
  | [], y :: ys, r, s, h, k, q => by
    simp only [sms, Bool.and_eq_true] at k
    obtain ⟨c, t, e1, z⟩ := tx_head k.1
    cases ys <;> simp only [txT, e1, List.cons_append, List.cons.injEq, List.nil_append] at q <;> omega
  | x :: xs, [], r, s, h, k, q => by
    simp only [sms, Bool.and_eq_true] at h
    obtain ⟨c, t, e1, z⟩ := tx_head h.1
    cases xs <;> simp only [txT, e1, List.cons_append, List.cons.injEq, List.nil_append] at q <;> omega
  | [x], [y], r, s, h, k, q => by
    simp only [sms, Bool.and_eq_true] at h k
    simp only [txT, List.append_assoc] at q
    obtain ⟨rfl, e⟩ := tx_inj h.1 k.1 (by simp [stopT]) (by simp [stopT]) q
    simp at e
    exact ⟨rfl, e⟩
  | [x], y :: y2 :: ys, r, s, h, k, q => by
    simp only [sms, Bool.and_eq_true] at h k
    simp only [txT, List.append_assoc] at q
    obtain ⟨rfl, e⟩ := tx_inj h.1 k.1 (by simp [stopT]) (by simp [stopT]) q
    simp at e
  | x :: x2 :: xs, [y], r, s, h, k, q => by
    simp only [sms, Bool.and_eq_true] at h k
    simp only [txT, List.append_assoc] at q
    obtain ⟨rfl, e⟩ := tx_inj h.1 k.1 (by simp [stopT]) (by simp [stopT]) q
    simp at e
  | x :: x2 :: xs, y :: y2 :: ys, r, s, h, k, q => by
    simp only [sms, Bool.and_eq_true] at h k
    simp only [txT, List.append_assoc] at q
    obtain ⟨rfl, e⟩ := tx_inj h.1 k.1 (by simp [stopT]) (by simp [stopT]) q
    simp only [List.cons_append, List.cons.injEq, true_and] at e
    obtain ⟨e2, e3⟩ := txU_inj (xs := x2 :: xs) (ys := y2 :: ys) (by simp [sms, h.2]) (by simp [sms, k.2]) (by simp) (by simp) e
    exact ⟨by rw [e2], e3⟩
theorem txU_inj : ∀ {xs ys : List D} {r s : List Nat}, sms xs = true → sms ys = true → xs ≠ [] → ys ≠ [] → txU xs ++ r = txU ys ++ s → xs = ys ∧ r = s
  | [], _, r, s, h, k, n, m, q => absurd rfl n
  | _ :: _, [], r, s, h, k, n, m, q => absurd rfl m
  | [x], [y], r, s, h, k, n, m, q => by
    simp only [sms, Bool.and_eq_true] at h k
    simp only [txU, List.append_assoc] at q
    obtain ⟨rfl, e⟩ := tx_inj h.1 k.1 (by simp [stopT]) (by simp [stopT]) q
    simp at e
    exact ⟨rfl, e⟩
  | [x], y :: y2 :: ys, r, s, h, k, n, m, q => by
    simp only [sms, Bool.and_eq_true] at h k
    simp only [txU, List.append_assoc] at q
    obtain ⟨rfl, e⟩ := tx_inj h.1 k.1 (by simp [stopT]) (by simp [stopT]) q
    simp at e
  | x :: x2 :: xs, [y], r, s, h, k, n, m, q => by
    simp only [sms, Bool.and_eq_true] at h k
    simp only [txU, List.append_assoc] at q
    obtain ⟨rfl, e⟩ := tx_inj h.1 k.1 (by simp [stopT]) (by simp [stopT]) q
    simp at e
  | x :: x2 :: xs, y :: y2 :: ys, r, s, h, k, n, m, q => by
    simp only [sms, Bool.and_eq_true] at h k
    simp only [txU, List.append_assoc] at q
    obtain ⟨rfl, e⟩ := tx_inj h.1 k.1 (by simp [stopT]) (by simp [stopT]) q
    simp only [List.cons_append, List.cons.injEq, true_and] at e
    obtain ⟨e2, e3⟩ := txU_inj (xs := x2 :: xs) (ys := y2 :: ys) (by simp [sms, h.2]) (by simp [sms, k.2]) (by simp) (by simp) e
    exact ⟨by rw [e2], e3⟩
end
end PM

/-! PM45: repr of such data: the same text says the same data. -/
namespace PM
open PySem L2
theorem cpsA (a b : Str) : (a ++ b).cps.toList = a.cps.toList ++ b.cps.toList := by
  show (a.cps ++ b.cps).toList = _
  simp
def seps : List D → List Nat
  | [] => []
  | [x] => tx x
  | x :: y :: r => tx x ++ (44 :: 32 :: seps (y :: r))
theorem txU_seps : ∀ {xs : List D}, xs ≠ [] → txU xs = seps xs ++ [41]
  | [], h => absurd rfl h
  | [x], _ => by simp [txU, seps]
  | x :: y :: r, _ => by simp [txU, seps, txU_seps (xs := y :: r) (by simp)]
mutual
theorem shown_tx : ∀ {d : D} {p : PyData}, sm d = true → toPy d = some p → p.shown.cps.toList = tx d
  | .non, p, h, e => by simp only [toPy, Option.some.injEq] at e; subst e; rfl
  | .int i, p, h, e => by simp only [toPy, Option.some.injEq] at e; subst e; rfl
  | .tup xs, p, h, e => by
    simp only [toPy, Option.map_eq_some_iff] at e; obtain ⟨ps, e, rfl⟩ := e
    simp only [sm] at h
    obtain ⟨hj, hl⟩ := shownAll_tx h e
    simp only [PyData.shown, tupleText, cpsA, hj, hl, tx]
    match xs with
    | [] => rfl
    | [x] => simp [seps, txT]; rfl
    | x :: y :: r =>
      have : ((x :: y :: r).length == 1) = false := by simp
      simp only [this, seps, txT, txU_seps (xs := y :: r) (by simp)]
      simp; rfl
  | .bl _, p, h, e => by simp [sm] at h
  | .str _, p, h, e => by simp [sm] at h
  | .lst _, p, h, e => by simp [sm] at h
  | .dct _, p, h, e => by simp [sm] at h
  | .st _, p, h, e => by simp [sm] at h
  | .ins _ _, p, h, e => by simp [sm] at h
  | .ref _, p, h, e => by simp [sm] at h
  | .fn _, p, h, e => by simp [sm] at h
  | .cls _, p, h, e => by simp [sm] at h
  | .ty _, p, h, e => by simp [sm] at h
  | .scr _, p, h, e => by simp [sm] at h
theorem shownAll_tx : ∀ {xs : List D} {ps : List PyData}, sms xs = true → toPys xs = some ps → (Str.join ", " (PyData.shownAll ps)).cps.toList = seps xs ∧ (PyData.shownAll ps).length = xs.length
  | [], ps, h, e => by simp only [toPys, Option.some.injEq] at e; subst e; exact ⟨rfl, rfl⟩
  | [x], ps, h, e => by
    simp only [sms, Bool.and_eq_true] at h
    simp only [toPys] at e
    cases a1 : toPy x with
    | none => rw [a1] at e; simp at e
    | some p =>
      rw [a1] at e
      simp only [Option.some.injEq] at e
      subst e
      refine ⟨?_, by simp [PyData.shownAll]⟩
      simp only [PyData.shownAll, Str.join, seps]
      exact shown_tx h.1 a1
  | x :: y :: r, ps, h, e => by
    have h2 : sm x = true ∧ sms (y :: r) = true := by simpa [sms] using h
    have e2 : ∃ p qs, toPy x = some p ∧ toPys (y :: r) = some qs ∧ ps = p :: qs := by
      unfold toPys at e
      split at e
      · rename_i p qs h1 h3
        exact ⟨p, qs, h1, h3, by simpa using e.symm⟩
      · cases e
    obtain ⟨p, qs, h1, h3, rfl⟩ := e2
    obtain ⟨i1, i2⟩ := shownAll_tx (xs := y :: r) h2.2 h3
    have hq : ∃ q qs', qs = q :: qs' := by
      cases qs with
      | nil => simp [PyData.shownAll] at i2
      | cons q qs' => exact ⟨q, qs', rfl⟩
    obtain ⟨q, qs', rfl⟩ := hq
    refine ⟨?_, by simp only [PyData.shownAll, List.length_cons] at i2 ⊢; omega⟩
    simp only [PyData.shownAll, Str.join, cpsA, seps] at i1 ⊢
    rw [shown_tx h2.1 h1, i1]
    simp; rfl
end
/-- the same text, the same data -/
theorem repr_inj {d e : D} {x : Str} (h : sm d = true) (k : sm e = true) (a : bRepr d = some (.v (.str x))) (b : bRepr e = some (.v (.str x))) : d = e := by
  have key : ∀ {d : D}, sm d = true → bRepr d = some (.v (.str x)) → ∃ p, toPy d = some p ∧ p.shown = x := by
    intro d h a
    have e2 : pyR d = toPy d := by cases d <;> first | rfl | (simp [sm] at h)
    unfold bRepr at a
    rw [e2] at a
    cases hp : toPy d with
    | none => rw [hp] at a; cases a
    | some p =>
      rw [hp] at a
      simp only [Option.bind_some] at a
      split at a
      · exact ⟨p, rfl, by simpa [vS] using a⟩
      · cases a
  obtain ⟨p, hp, rfl⟩ := key h a
  obtain ⟨q, hq, e2⟩ := key k b
  have t1 := shown_tx h hp
  have t2 := shown_tx k hq
  rw [e2, t1] at t2
  exact (tx_inj (r := []) (s := []) h k trivial trivial (by rw [t2])).1
end PM

/-! PM46: x is True, x is not False, of truth values and None. -/
namespace PM
open PySem L2
section
variable {X : Cx} {W : Wd}
theorem op_isBN : OpR X (compareOp .Is) (fun x y H Q => ∃ b : Bool, y = .bl b ∧ ((x = .non ∧ Q (.bl false) H) ∨ ∃ a : Bool, x = .bl a ∧ Q (.bl (decide (a = b))) H)) := by
  intro pins s σ H x y v u Q I rx ry h
  obtain ⟨b, rfl, h⟩ := h
  rcases h with ⟨rfl, q⟩ | ⟨a, rfl, q⟩
  · cases (show v = Value.none from rx)
    cases (show u = Value.bool b from ry)
    exact wpAny_is_other rfl (fun z => by cases z) ⟨.bl false, H, I, rfl, q⟩
  · exact op_isBl _ _ _ _ _ _ _ _ _ I rx ry ⟨a, b, rfl, rfl, q⟩
theorem op_isnotBN : OpR X (compareOp .IsNot) (fun x y H Q => ∃ b : Bool, y = .bl b ∧ ((x = .non ∧ Q (.bl true) H) ∨ ∃ a : Bool, x = .bl a ∧ Q (.bl (!decide (a = b))) H)) := by
  intro pins s σ H x y v u Q I rx ry h
  obtain ⟨b, rfl, h⟩ := h
  rcases h with ⟨rfl, q⟩ | ⟨a, rfl, q⟩
  · cases (show v = Value.none from rx)
    cases (show u = Value.bool b from ry)
    exact wpAny_isNot_other rfl (fun z => by cases z) ⟨.bl true, H, I, rfl, q⟩
  · exact op_notBl _ _ _ _ _ _ _ _ _ I rx ry ⟨a, b, rfl, rfl, q⟩
def opIsB : D → D → Option EV
  | .bl a, .bl b => vB (decide (a = b))
  | .non, .bl _ => vB false
  | _, _ => none
def opIsNotB : D → D → Option EV
  | .bl a, .bl b => vB (!decide (a = b))
  | .non, .bl _ => vB true
  | _, _ => none
theorem c_isB : CmpOk W X .Is opIsB := ⟨_, op_isBN, by
  intro C g H vh dx dy x y Q h rx ry q s
  cases dy <;> try (simp [opIsB] at s; done)
  cases dx <;> try (simp [opIsB] at s; done)
  · exact ⟨_, ry.bl, .inl ⟨rx.non, q _ rfl g H _ h (Ext.refl g H) (by simp [RepE, Rep])⟩⟩
  · exact ⟨_, ry.bl, .inr ⟨_, rx.bl, q _ rfl g H _ h (Ext.refl g H) (by simp [RepE, Rep])⟩⟩⟩
theorem c_isnotB : CmpOk W X .IsNot opIsNotB := ⟨_, op_isnotBN, by
  intro C g H vh dx dy x y Q h rx ry q s
  cases dy <;> try (simp [opIsNotB] at s; done)
  cases dx <;> try (simp [opIsNotB] at s; done)
  · exact ⟨_, ry.bl, .inl ⟨rx.non, q _ rfl g H _ h (Ext.refl g H) (by simp [RepE, Rep])⟩⟩
  · exact ⟨_, ry.bl, .inr ⟨_, rx.bl, q _ rfl g H _ h (Ext.refl g H) (by simp [RepE, Rep])⟩⟩⟩
end
@[simp] theorem x_isB {a b : Bool} : opIsB (.bl a) (.bl b) = some (.v (.bl (decide (a = b)))) := rfl
@[simp] theorem x_isnB {a b : Bool} : opIsNotB (.bl a) (.bl b) = some (.v (.bl (!decide (a = b)))) := rfl
@[simp] theorem x_isNB {b : Bool} : opIsB .non (.bl b) = some (.v (.bl false)) := rfl
@[simp] theorem x_isnNB {b : Bool} : opIsNotB .non (.bl b) = some (.v (.bl true)) := rfl
end PM

/-! PM47: own exceptions over any built-in one: made, their fields kept by their own __init__. -/
namespace PM
open PySem PySem.Spec PyProof.Rows L2 PySem.Builtin PySem.Builtin.ObjectAttr
/-- an own exception class over B -/
structure XcT (B newId initId : String) (bmB : List Value) (K : PySem.W.Frag) (C : Addr) : Prop where
  F : ExcBaseFacts B newId initId bmB
  S : StoreFacts B bmB "object.__setattr__" "object"
  cls : ∃ nm q N bs bm sn sub ab col dd k0 k1 k2 k3 k5, K.lookup C = some (excClassObj nm q C N bs bm true sn sub ab col dd k0 k1 k2 k3 k5 newId) ∧ PySem.W.excTail bmB bm = true
  sa : PySem.W.findIn K (.ref C) "__setattr__" = some (some (.builtin "object.__setattr__"))
  exC : PySem.W.subIn K (.ref C) (.type "BaseException") = some true
  tyC : PySem.W.typeIn K (.ref C) = some (.type "type")
  kC : PySem.W.keepIn K (.ref C) = true
section
variable {B newId initId : String} {bmB : List Value} {K : PySem.W.Frag} {C : Addr}
theorem XcT.clsIn (T : XcT B newId initId bmB K C) : ∃ cd bm, PySem.W.clsIn K C = some cd ∧ cd.hasDict = true ∧ cd.mro = .ref C :: bm ∧ PySem.W.excTail bmB bm = true := by
  obtain ⟨nm, q, N, bs, bm, sn, sub, ab, col, dd, k0, k1, k2, k3, k5, h, t⟩ := T.cls
  refine ⟨{ name := nm, bases := bs, mro := .ref C :: bm, ns := N, qualname := q, hasDict := true, slotNames := sn, subclasses := sub, abstract := ab, collection := col, hasDel := false }, bm, ?_, rfl, rfl, t⟩
  unfold PySem.W.clsIn
  rw [h] <;> rfl
theorem XcT.over (T : XcT B newId initId bmB K C) : PySem.W.excOver K C bmB = true := by
  obtain ⟨cd, bm, h1, h2, h3, h4⟩ := T.clsIn
  unfold PySem.W.excOver
  rw [h1]
  simp [Option.any, h3, h4]
theorem XcT.taker {name : Str} (ha : PySem.W.findIn K (.ref C) name = some none) : PySem.W.takerIn K C name = some none := by
  unfold PySem.W.takerIn
  rw [ha]
  rfl
variable {prog : Program} {w : World} {A : Around} {E : Value → Shared → Prop} {R : Result → Shared → Prop} {hp : Heap} {g : Array GenState} {d : Drawn} {t : Nat} {os : OsState}
/-- the first field: the dict is laid -/
theorem xc_first {name : Str} {tk : Tok} {v : Value} {x : Addr} {fv : Array Value} (T : XcT B newId initId bmB K C) (X : K.In hp) (hx : hp.get? x = some { cls := .ref C, data := .fields fv }) (ha : PySem.W.findIn K (.ref C) name = some none)
    (hq : ∀ h' tk' dx, (∀ b o, b ≠ x → hp.get? b = some o → h'.get? b = some o) → hp.objs.size ≤ dx → dx ≠ x → h'.get? x = some { cls := .ref C, dict := some dx, data := .fields fv } →
      h'.Ns1 dx (fun y => if y = name then some v else none) → R (.ok (.ret .none)) ⟨h', g, d, tk', os⟩) :
    codeAny (model prog w) A (.call (.builtin "object.__setattr__") ⟨[.ref x, .str name tk, v], []⟩) R ⟨hp, g, d, t, os⟩ := by
  obtain ⟨cd, bm, hcl, hh, hm, ht⟩ := T.clsIn
  have I : PySem.W.InstAt hp x { cls := .ref C, data := .fields fv } C none := ⟨hx, rfl, rfl, trivial⟩
  have hxs : x ≠ hp.objs.size := Nat.ne_of_lt (Heap.lt_size hx)
  refine PySem.W.osa_openX T.S X I T.over (XcT.taker ha) fun b => ?_
  have hc : PySem.W.Looks (model prog w) hp (classData C) cd := PySem.W.looks_clsIn X hcl
  obtain ⟨nm, bs, mro, ns, qn, hd, sn, sb, ab, col, del⟩ := cd
  dsimp only at hh hm
  subst hh
  show wpAny _ _ (storeInOwnDict _ _ _ _ _ _) _ _ _
  unfold storeInOwnDict ownDictForStores
  repeat (first | with_reducible refine PySem.HandSPX.store_in_new ?_ ?_ | with_reducible refine wpAny_loadPart_at hx ?_ | with_reducible refine hc.at ?_ | wp_step)
  · refine ⟨_, #[], _, (Heap.get?_update_ne _ _ _ _ hxs.symm).trans (Heap.get?_push_at rfl rfl), rfl, fun e he => ?_, fun _ => rfl⟩
    exact absurd he (by simp)
  · intro h' tk' hn' hs
    have hx1 : (hp.push { cls := .type "dict", data := .dict #[] }).get? x = some { cls := .ref C, data := .fields fv } := Heap.get?_push_of_some _ hx
    refine hq h' tk' hp.objs.size (fun b o hb ho => ?_) (Nat.le_refl _) hxs.symm ?_ hn'
    · refine Eq.trans (hs.2 b (Nat.ne_of_lt (Heap.lt_size ho))) ?_
      rw [Heap.get?_update_ne _ _ _ _ hb]
      exact Heap.get?_push_of_some _ ho
    · exact (hs.2 x hxs).trans (Heap.get?_update_self _ hx1 rfl)
/-- a further field -/
theorem xc_more {name : Str} {tk : Tok} {v : Value} {x dx : Addr} {fv : Array Value} {m0 : Str → Option Value} {nl : List Str} (T : XcT B newId initId bmB K C) (X : K.In hp) (hx : hp.get? x = some { cls := .ref C, dict := some dx, data := .fields fv })
    (hns : hp.Ns1 dx m0) (hw : Within m0 nl) (hz : nl.length ≤ 1000) (ha : PySem.W.findIn K (.ref C) name = some none)
    (hq : ∀ h' tk', (∀ b o, b ≠ dx → hp.get? b = some o → h'.get? b = some o) → h'.Ns1 dx (fun y => if y = name then some v else m0 y) → R (.ok (.ret .none)) ⟨h', g, d, tk', os⟩) :
    codeAny (model prog w) A (.call (.builtin "object.__setattr__") ⟨[.ref x, .str name tk, v], []⟩) R ⟨hp, g, d, t, os⟩ := by
  obtain ⟨cd, bm, hcl, hh, hm, ht⟩ := T.clsIn
  obtain ⟨oD, _, _, hoD, _, _⟩ := hns.count hw
  have I : PySem.W.InstAt hp x { cls := .ref C, dict := some dx, data := .fields fv } C (some oD) := ⟨hx, rfl, rfl, hoD⟩
  refine PySem.W.osa_openX T.S X I T.over (XcT.taker ha) fun b => ?_
  have hc : PySem.W.Looks (model prog w) hp (classData C) cd := PySem.W.looks_clsIn X hcl
  obtain ⟨nm, bs, mro, ns, qn, hd, sn, sb, ab, col, del⟩ := cd
  dsimp only at hh hm
  subst hh
  show wpAny _ _ (storeInOwnDict _ _ _ _ _ _) _ _ _
  unfold storeInOwnDict ownDictForStores
  repeat (first | with_reducible refine PySem.OEX.store_in_old hns hw hz ?_ | with_reducible refine wpAny_loadPart_at hx ?_ | with_reducible refine hc.at ?_ | wp_step)
  intro h' tk' hn' hs
  exact hq h' tk' (fun b o hb ho => Eq.trans (hs.2 b hb) ho) hn'
end
section
variable {B newId initId : String} {bmB : List Value} {X : Cx} {pins : List (Addr × Obj)} {σ : L2.St} {H : Hp} {s : Shared} {a C dx : Addr} {f : Str} {y : V} {u : Value} {fs : List (Str × V)} {Q : Unit → Shared → Prop} {E : Value → Shared → Prop} {A : Around}
/-- self.f = y in __init__, the first one: as L2.ost_new, over any base -/
theorem xo_new (T : XcT B newId initId bmB X.K C) (I : L2.Inv X pins σ H s) (e : H a = some (exo a C none)) (hno : PySem.W.findIn X.K (.ref C) f = some none) (ry : RelV y u)
    (h : ∀ dx s', H dx = none → dx ≠ a → L2.Inv X pins σ (upd (upd H dx (exd dx [(f, y)])) a (exo a C (some dx))) s' → Q () s') : wpAny (model X.prog X.w) A (setAttr (.ref a) f u) Q E s := by
  obtain ⟨t1, ho⟩ := exo_at I.hok e
  obtain ⟨hp, g, d, t, os⟩ := s
  refine PySem.W.set_plain I.kIn (ox := { cls := .ref C, dict := none, data := .fields #[.ref t1, .none, .none, .none, .bool false, .none] }) (od := none) ⟨ho, rfl, rfl, trivial⟩ T.sa ?_
  refine xc_first T I.kIn ho hno (fun h' tk' dx k dn dne hx hn => ?_)
  have hnd : H dx = none := I.hok.fresh dn
  have nd : ∀ {b : Addr} {o : Obj}, hp.get? b = some o → b ≠ dx := fun q => Nat.ne_of_lt (Nat.lt_of_lt_of_le (Heap.lt_size q) dn)
  have na : ∀ {b : Addr}, H b = none → b ≠ a := fun n z => by rw [z, e] at n; cases n
  have U : L2.Un X.fs [] H (upd (upd H dx (exd dx [(f, y)])) a (exo a C (some dx))) hp h' := by
    constructor
    · exact fun b o q n _ _ => k b o (na n) q
    · exact fun b o q n _ _ => ⟨o.slots, k b o (na n) q⟩
    · intro b o q n _
      rw [upd_ne (na n), upd_ne (nd q)]; exact n
    · intro b o q _
      by_cases hb : b = a
      · exact ⟨_, by rw [hb]; exact hx⟩
      · exact ⟨o, k b o hb q⟩
    · intro b xs q
      rw [upd_ne (at_ne e q exo_tup), upd_ne (ne_of_none q hnd)]; exact q
    · intro b o v q
      rw [upd_ne (at_ne e q exo_frz), upd_ne (ne_of_none q hnd)]; exact q
    · intro b ps q
      exact ⟨#[], by rw [upd_ne (at_ne e q exo_tbl), upd_ne (ne_of_none q hnd), q]; simp⟩
  refine h dx _ hnd dne (I.un (t' := tk') U fun b o q => ?_)
  by_cases hb : b = a
  · subst hb
    rw [upd_same] at q
    cases q
    exact exo_ok hx
  rw [upd_ne hb] at q
  by_cases hd : b = dx
  · subst hd
    rw [upd_same] at q
    cases q
    exact exd_ok hn (relO_put (fs := []) ry fun g => True.intro)
  rw [upd_ne hd] at q
  refine (I.hok b o q).stay (fun c v hc z => k c v ?_ z) (fun c hc => ?_) (fun c xs hc => ?_)
  · rcases hc with hc | hc
    · rw [hc]; exact hb
    · exact at_ne e hc exo_own
  · rw [upd_ne (at_ne e hc exo_own), upd_ne (ne_of_none hc hnd)]; exact hc
  · rw [upd_ne (at_ne e hc exo_tup), upd_ne (ne_of_none hc hnd)]; exact hc
theorem xo_old (T : XcT B newId initId bmB X.K C) (I : L2.Inv X pins σ H s) (e : H a = some (exo a C (some dx))) (ed : H dx = some (exd dx fs)) (hl : fs.length ≤ 900) (hno : PySem.W.findIn X.K (.ref C) f = some none) (ry : RelV y u)
    (h : ∀ s', L2.Inv X pins σ (upd H dx (exd dx ((f, y) :: fs))) s' → Q () s') : wpAny (model X.prog X.w) A (setAttr (.ref a) f u) Q E s := by
  obtain ⟨t1, ho⟩ := exo_at I.hok e
  obtain ⟨mA, hns, rel⟩ := exd_at I.hok ed
  have hw := within_of rel
  obtain ⟨hp, g, d, t, os⟩ := s
  obtain ⟨oD, _, _, hoD, _, _⟩ := hns.count hw
  refine PySem.W.set_plain I.kIn (ox := { cls := .ref C, dict := some dx, data := .fields #[.ref t1, .none, .none, .none, .bool false, .none] }) (od := some oD) ⟨ho, rfl, rfl, hoD⟩ T.sa ?_
  refine xc_more T I.kIn ho hns hw (by rw [List.length_map]; omega) hno (fun h' tk' k hn => ?_)
  have hd : ∃ o, h'.get? dx = some o := by
    obtain ⟨o, _, _, e', _⟩ := hn
    exact ⟨o, e'⟩
  refine h _ (I.write (t' := tk') (x := dx) (e := dx) (o := exd dx ((f, y) :: fs)) ?_ (.inl rfl) k hd (exd_ok hn (relO_put ry rel)))
  rw [ed]; exact True.intro
end
/-- self.f = e in an exception's __init__ -/
def tXo (B newId initId : String) (bmB : List Value) (K : PySem.W.Frag) (f : Str) (to te : TE) : TS := fun D σ H => te σ H fun y H1 => to σ H1 fun x H2 => ∃ a C : Addr, x = .ref a ∧ XcT B newId initId bmB K C ∧ PySem.W.findIn K (.ref C) f = some none ∧
  ((H2 a = some (exo a C none) ∧ ∀ dx, H2 dx = none → dx ≠ a → D.nx σ (upd (upd H2 dx (exd dx [(f, y)])) a (exo a C (some dx)))) ∨
    ∃ (dx : Addr) (fs : List (Str × V)), H2 a = some (exo a C (some dx)) ∧ H2 dx = some (exd dx fs) ∧ fs.length ≤ 900 ∧ D.nx σ (upd H2 dx (exd dx ((f, y) :: fs))))
section
variable {B newId initId : String} {bmB : List Value} {X : Cx} {o e : Expr} {es : List Expr} {to te : TE} {ta : TA} {f : Str} {p p' p1 p2 pos : Pos}
theorem ps_xo (ho : PE X o to) (he : PE X e te) (hs : swapsWith e (some (.Attribute o f p')) pos.line X.env = pure false := by rfl) : PS X (.Assign [.Attribute o f p'] e pos) (tXo B newId initId bmB X.K f to te) := by
  refine ⟨fun pins s σ H D I h => plainObj_wpAny_Assign_Attribute (thn (he.run pins s σ H _ I h) fun v s1 ⟨y, H1, I1, r1, q1⟩ => thn (ho.run pins s1 σ H1 _ I1 q1) fun u s2 ⟨x, H2, I2, r2, a, C, ex, T, hno, q⟩ => ?_) hs⟩
  subst ex
  obtain rfl : u = Value.ref a := r2
  rcases q with ⟨ea, q⟩ | ⟨dx, fs, ea, ed, hl, q⟩
  · exact xo_new T I2 ea hno r1 fun dx s' n ne J => ⟨σ, _, J, q dx n ne⟩
  · exact xo_old T I2 ea ed hl hno r1 fun s' J => ⟨σ, _, J, q⟩
/-- C(e, ..), C's own __init__ keeping sp: as L2.pmk_oex, over any base -/
theorem pmk_xc {CX : CXT} {x : Str} {C fI : Addr} {k : Nat} {fd : FuncData} {ps : List Str} {sp : Sp} {ds : List Value} {dvs : List V} (T : XcT B newId initId bmB X.K C) (iC : PySem.W.findIn X.K (.ref C) "__init__" = some (some (.ref fI)))
    (tI : PySem.W.typeIn X.K (.ref fI) = some (.type "function")) (F1 : FnOk X.prog X.w X.K X.mg X.base CX k fI fd ps sp) (hr : Room (k + 1) X.A) (hb : Binds X.K fd ps ds) (hd : Vals dvs ds) (hx : Passes CX X (fun _ _ _ => False)) (hg : Gl X x)
    (hm : X.mg x = some (.ref C)) (ha : PA X (e :: es) ta) (hdb : (x == ("__debug__" : Str)) = false) (he : starEach (e :: es) X.env = (false, eval e X.env) :: starEach es X.env := by rfl) (hpl : (backTo pos (starEach es X.env)).any (·.1) = false := by rfl) :
    PMk X (.Call (.Name x p) (e :: es) [] pos) (tMkO C sp dvs ta) := by
  intro pins s σ H Q I h
  obtain ⟨nm, q, N, bs, bm, sn, sub, ab, col, dd, k0, k1, k2, k3, k5, hC, hbm⟩ := T.cls
  refine wpAny_Call_Name_kw (ld_glob I hg hm ?_ hdb)
  refine PySem.W.callWith_K (h₀ := X.base) I.ok.mod.kin T.kC (thn (ha.run pos pins s σ H _ I h) fun us s1 z1 => ?_) he hpl
  obtain ⟨vs, H1, I1, r1, hz, q1⟩ := z1
  refine ⟨I1.kIn, ?_⟩
  show wpAny _ _ (call (.ref C) us) _ _ _
  obtain ⟨hp, g, dr, tk, os⟩ := s1
  have hsz : hp.objs.size ≤ hp.objs.size + 1 := by omega
  have hn : H1 (hp.objs.size + 1) = none := I1.hok.fresh hsz
  have hq := q1 (hp.objs.size + 1) hn
  obtain ⟨h1, eh1⟩ : ∃ z, (hp.push (PySem.W.kdv_tup us)).push (PySem.HandSPX.excO C hp.objs.size) = z := ⟨_, rfl⟩
  have kk : ∀ b o, hp.get? b = some o → h1.get? b = some o := fun b o e => by rw [← eh1]; exact Heap.get?_push_of_some _ (Heap.get?_push_of_some _ e)
  have hget : h1.get? (hp.objs.size + 1) = some (PySem.HandSPX.excO C hp.objs.size) := by rw [← eh1]; heap_get
  have I2 : L2.Inv X pins σ (upd H1 (hp.objs.size + 1) (exo (hp.objs.size + 1) C none)) ⟨h1, g, dr, tk, os⟩ :=
    I1.laid (t' := tk) (a := hp.objs.size + 1) (o := exo (hp.objs.size + 1) C none) (h' := h1) kk hsz (exo_ok hget)
  have r2 : Vals (V.ref (hp.objs.size + 1) :: (vs ++ dvs)) (Value.ref (hp.objs.size + 1) :: (us ++ ds)) := .cons rfl (r1.append hd)
  have hl : (Value.ref (hp.objs.size + 1) :: us ++ ds).length = ps.length := by
    have e := r2.length
    rw [F1.len _ _ _ _ hq] at e
    exact e.symm
  have hus : us.length ≤ sizeLine := by rw [← Paired.length r1, sizeLine_eq]; omega
  have run := F1.run _ X.stack _ _ ⟨Value.ref (hp.objs.size + 1) :: us, []⟩ (Value.ref (hp.objs.size + 1) :: (us ++ ds)) _ _ (fun _ _ _ => False) (hr.make C us []) (I2.env0.make C us []) (hb _ (Value.ref (hp.objs.size + 1) :: us) I2.kIn hl) r2 hq
  rw [← eh1] at run I2
  refine wpAny_call (PySem.HandSPX.call_own T.F (fun Y => PySem.W.excTail_contains Y bm hbm) (I1.kIn _ _ hC) (PySem.W.looks_findIn I1.kIn iC) (fun self => PySem.W.bind_fn I1.kIn self tI) hus (codeAny_mono run fun r s' hq' => ?_))
  rw [eh1] at I2
  cases r with
  | error er => rw [eh1] at hq'; exact hx pins σ _ _ er s' I2 hq'
  | ok fl =>
    cases fl with
    | ret u =>
      rw [eh1] at hq'
      obtain ⟨v, H2, os2, bare2, un2, hok2, rv, ev, d, fs, ea, ed, hd1, q2⟩ := hq'
      subst ev
      obtain ⟨h2, g2, d2, t2, os'⟩ := s'
      exact ⟨rv, mk_end (raises_own T.exC T.tyC) I1 hsz kk un2 hok2 os2 bare2 ea ed hd1 q2⟩
    | next => exact False.elim hq'
    | brk => exact False.elim hq'
    | cont => exact False.elim hq'
end
end PM

/-! PM48: own exceptions by their denotations: made, raised. -/
namespace PM
open PySem PySem.Spec PyProof.Rows L2
noncomputable section
/-- the check of an own exception class with an own __init__ -/
def xcB (bmB : List Value) (newId : String) (C : Addr) (K : PySem.W.Frag) : Bool := PySem.W.excInitIn K C bmB newId && (PySem.W.hasDictIn K C && (decide (PySem.W.findIn K (.ref C) "__setattr__" = some (some (.builtin "object.__setattr__"))) &&
  (decide (PySem.W.subIn K (.ref C) (.type "BaseException") = some true) && (decide (PySem.W.typeIn K (.ref C) = some (.type "type")) && PySem.W.keepIn K (.ref C)))))
theorem xc_of {B newId initId : String} {bmB : List Value} {K : PySem.W.Frag} {C : Addr} (F : ExcBaseFacts B newId initId bmB) (S : StoreFacts B bmB "object.__setattr__" "object") (h : xcB bmB newId C K = true) : XcT B newId initId bmB K C := by
  obtain ⟨h1, h⟩ := Bool.and_eq_true_iff.mp h
  obtain ⟨h2, h⟩ := Bool.and_eq_true_iff.mp h
  obtain ⟨h3, h⟩ := Bool.and_eq_true_iff.mp h
  obtain ⟨h4, h⟩ := Bool.and_eq_true_iff.mp h
  obtain ⟨h5, h6⟩ := Bool.and_eq_true_iff.mp h
  refine ⟨F, S, ?_, of_decide_eq_true h3, of_decide_eq_true h4, of_decide_eq_true h5, h6⟩
  unfold PySem.W.excInitIn at h1
  split at h1
  · rename_i dd cd sl ho
    split at h1
    · rename_i C' bm k0 k1 k2 k3 n k5 hm hs
      simp only [Bool.and_eq_true, beq_iff_eq, Bool.not_eq_true'] at h1
      obtain ⟨⟨⟨rfl, rfl⟩, hdel⟩, ht⟩ := h1
      have hd' : cd.hasDict = true := by
        unfold PySem.W.hasDictIn PySem.W.clsIn at h2
        rw [ho] at h2
        simpa [Option.any] using h2
      obtain ⟨nm, bs, mro, ns, qn, hd, sn, sub, ab, col, del⟩ := cd
      dsimp only at hm hdel hd'
      subst hm hdel hd'
      have hsl : sl = #[k0, k1, k2, k3, some (.builtin n), k5] := by
        obtain ⟨l⟩ := sl
        simp only at hs
        rw [hs]
      subst hsl
      exact ⟨nm, qn, ns, bs, bm, sn, sub, ab, col, dd, k0, k1, k2, k3, k5, ho, ht⟩
    · cases h1
  · cases h1
/-- self.f = x, all that __init__ does -/
def spX1 (C : Addr) (f : Str) : Sp := fun vs H Q E => ∃ (a : Addr) (v : V), vs = [.ref a, v] ∧ H a = some (exo a C none) ∧ ∀ d, H d = none → d ≠ a → Q .non (upd (upd H d (exd d [(f, v)])) a (exo a C (some d)))
def spX2 (C : Addr) (f1 f2 : Str) : Sp := fun vs H Q E => ∃ (a : Addr) (v1 v2 : V), vs = [.ref a, v1, v2] ∧ H a = some (exo a C none) ∧ ∀ d, H d = none → d ≠ a → Q .non (upd (upd (upd H d (exd d [(f1, v1)])) a (exo a C (some d))) d (exd d [(f2, v2), (f1, v1)]))
section
variable {P : Program} {w : World} {K : PySem.W.Frag} {mg : Str → Option Value} {base : Heap} {B newId initId : String} {bmB : List Value} {C fI : Addr} {fd : FuncData} {st : Stmt} {qual f f1 f2 x x1 x2 : Str} {k j : Nat} {p1 p2 p3 p4 q1 q2 q3 q4 : Pos}
theorem vis_of {N ps : List Str} {sc : Scope} (S : FnScope N ps sc) {x : Str} (h : x ∈ ps) : Vis sc x := (S.par x h).elim .inl fun z => .inr (.inl z)
theorem xinit1 (T : Txt K "__init__" qual st fI fd) (S : FnScope ["self", x] ["self", x] (defScope st)) (BX : XcT B newId initId bmB K C) (na : PySem.W.findIn K (.ref C) f = some none)
    (hb : defBody st = [.Assign [.Attribute (.Name "self" p1) f p2] (.Name x p3) p4]) (d1 : (x == ("__debug__" : Str)) = false := by decide) (d2 : (x == ("__classdict__" : Str)) = false := by decide) : FnOk P w K mg base (L2.CX P w) (k + 1) fI fd ["self", x] (spX1 C f) := by
  obtain ⟨oc, od, dV, kV, doc, pm, an, cdv, ct, osl, rfl, lk, hcd⟩ := T.ex
  refine fn_of lk hcd S (fun vs H Q E h => ?_) fun A outer s H vs Q E hr hsp => ?_
  · obtain ⟨a, v, rfl, _⟩ := h; rfl
  · obtain ⟨a, v, rfl, ha, q⟩ := hsp
    refine ⟨_, by rw [hb]; exact pss_one (ps_xo (B := B) (newId := newId) (initId := initId) (bmB := bmB) (pe_var (i := 0) rfl (vis_of S (by simp))) (pe_var (i := 1) rfl (vis_of S (by simp)) d1 d2)), ?_⟩
    exact ⟨v, rfl, .ref a, rfl, a, C, rfl, BX, na, .inl ⟨ha, fun dx n ne => q dx n ne⟩⟩
theorem xinit2 (T : Txt K "__init__" qual st fI fd) (S : FnScope ["self", x1, x2] ["self", x1, x2] (defScope st)) (BX : XcT B newId initId bmB K C) (na1 : PySem.W.findIn K (.ref C) f1 = some none) (na2 : PySem.W.findIn K (.ref C) f2 = some none)
    (hb : defBody st = [.Assign [.Attribute (.Name "self" p1) f1 p2] (.Name x1 p3) p4, .Assign [.Attribute (.Name "self" q1) f2 q2] (.Name x2 q3) q4]) (d1 : (x1 == ("__debug__" : Str)) = false := by decide) (d2 : (x1 == ("__classdict__" : Str)) = false := by decide)
    (d3 : (x2 == ("__debug__" : Str)) = false := by decide) (d4 : (x2 == ("__classdict__" : Str)) = false := by decide) : FnOk P w K mg base (L2.CX P w) (k + 1) fI fd ["self", x1, x2] (spX2 C f1 f2) := by
  obtain ⟨oc, od, dV, kV, doc, pm, an, cdv, ct, osl, rfl, lk, hcd⟩ := T.ex
  refine fn_of lk hcd S (fun vs H Q E h => ?_) fun A outer s H vs Q E hr hsp => ?_
  · obtain ⟨a, v, v', rfl, _⟩ := h; rfl
  · obtain ⟨a, v, v', rfl, ha, q⟩ := hsp
    refine ⟨_, by
      rw [hb]
      exact pss_cons (ps_xo (B := B) (newId := newId) (initId := initId) (bmB := bmB) (pe_var (i := 0) rfl (vis_of S (by simp))) (pe_var (i := 1) rfl (vis_of S (by simp)) d1 d2))
        (pss_one (ps_xo (B := B) (newId := newId) (initId := initId) (bmB := bmB) (pe_var (i := 0) rfl (vis_of S (by simp))) (pe_var (i := 2) rfl (vis_of S (by simp)) d3 d4))), ?_⟩
    refine ⟨v, rfl, .ref a, rfl, a, C, rfl, BX, na1, .inl ⟨ha, fun dx n ne => ?_⟩⟩
    exact ⟨v', rfl, .ref a, rfl, a, C, rfl, BX, na2, .inr ⟨dx, [(f1, v)], upd_same, by rw [upd_ne ne, upd_same], by simp, q dx n ne⟩⟩
end

/-! ### what makes an exception -/
abbrev MF := Sl → VH → R XV
def PostM (W : Wd) (C : Con) (Wx : WX) (g0 : Gh) (H0 : Hp) (σ : L2.St) (sl : Sl) (r : R XV) (Q : XK) : Prop :=
  match r with
  | .bad => False
  | .ok x vh => ∀ g H c od, RelH W C g vh H → RelS W g H sl σ → Ext g0 H0 g H → XRep W g H x c od → Q c od H
  | .exc x vh => ∀ g H c od, RelH W C g vh H → RelS W g H sl σ → Ext g0 H0 g H → XRep W g H x c od → Wx c od σ H
def TDM (W : Wd) (C : Con) (Wx : WX) (μ : MF) : L2.St → Hp → XK → Prop := fun σ H Q => ∃ g sl vh, RelH W C g vh H ∧ RelS W g H sl σ ∧ PostM W C Wx g H σ sl (μ sl vh) Q
def DM (W : Wd) (Wx : WX) (X : Cx) (e : Expr) (μ : MF) : Prop := ∀ C, PMk X e (TDM W C Wx μ)
def sRaise (μ : MF) : SF := fun sl vh => match μ sl vh with
  | .ok x vh' => .ex x sl vh'
  | .exc x vh' => .ex x sl vh'
  | .bad => .bad
/-- C(e, ..): the fields that its __init__ keeps of the arguments; none: not so many -/
def mExc (c : Nat) (mk : List D → Option (List (Str × D))) (α : AF) : MF := fun sl vh => match α sl vh with
  | .ok ds vh' => match mk ds with
    | some fs => .ok ⟨c, fs⟩ vh'
    | none => .bad
  | .exc x vh' => .exc x vh'
  | .bad => .bad
def mk1 (f : Str) : List D → Option (List (Str × D))
  | [d] => some [(f, d)]
  | _ => none
def mk2 (f1 f2 : Str) : List D → Option (List (Str × D))
  | [d1, d2] => some [(f2, d2), (f1, d1)]
  | _ => none
def mk0 (n : Nat) (ds : List D) : Option (List (Str × D)) := if ds.length = n ∧ n ≤ 100 then some [] else none
section
variable {W : Wd} {C : Con} {Wx : WX} {X : Cx} {g g0 : Gh} {H H0 : Hp} {σ : L2.St} {sl : Sl} {vh : VH} {k : Nat} {α : AF} {μ : MF} {x : Str} {p pos : Pos} {e : Expr} {es : List Expr} {c : Nat} {B newId initId : String} {bmB : List Value} {fI : Addr} {fd : FuncData} {f f1 f2 x1 x2 : Str}
theorem pmk_imp {e : Expr} {t t' : L2.St → Hp → XK → Prop} (h : PMk X e t) (i : ∀ σ H Q, t' σ H Q → t σ H Q) : PMk X e t' := fun pins s σ H Q I q => h pins s σ H Q I (i σ H Q q)
theorem ds_raise (cz : Cz W Wx k X) (hm : DM W Wx X e μ) : DS W Wx X (.Raise (some e) none pos) (sRaise μ) := fun C => ps_imp (ps_raise cz.calm cz.tk (hm C)) fun En σ H ⟨g, sl, vh, h, hs, q⟩ => by
  refine ⟨g, sl, vh, h, hs, ?_⟩
  unfold sRaise at q
  cases r : μ sl vh with
  | bad => rw [r] at q; exact q
  | ok x vh' => rw [r] at q; exact fun g1 H1 c od a b d e => q g1 H1 σ c od a b d e
  | exc x vh' => rw [r] at q; exact fun g1 H1 c od a b d e => q g1 H1 σ c od a b d e
/-- a new dict of an exception stands at d -/
theorem RelH.xd {d : Addr} {gs : List (Str × V)} (h : RelH W C g vh H) (n : H d = none) : RelH W C (g.add d) vh (upd H d (.xd gs)) := by
  have h1 := h.new (u := .xd gs) n
  obtain ⟨a1, a2, a3⟩ := h.free n
  exact {
    len := h1.len
    vh := fun i o e => (h1.vh i o e).mono (Ext.add g _ d) rfl
    inj := h1.inj
    nf := fun i hi hh => hh.elim (h1.nf i hi) (a2 i hi)
    ff := fun a ha => ha.elim (h1.ff a) fun e => by rw [e, upd_same]; exact fun z => by cases z
    fr := h1.fr
    nfr := h1.nfr
    pd := fun a ha => ⟨(h1.pd a ha).1, fun z => z.elim (h1.pd a ha).2 fun e => a3 (by rw [← e]; exact (h1.pd a ha).1)⟩ }
theorem XRep.mk {d : Addr} {gs : List (Str × V)} {fs : List (Str × D)} (h : RelH W C g vh H) (n : H d = none) (r : RepFs W g H fs gs) : XRep W (g.add d) (upd H d (.xd gs)) ⟨c, fs⟩ (.ref (W.cls c)) (some d) :=
  ⟨rfl, gs, .inr rfl, upd_same, RepFs.mono ((Ext.new h n).trans (Ext.add g _ d)) _ _ r⟩
theorem dm_args {mk : List D → Option (List (Str × D))} {Q : XK} (h : RelH W C g vh H) (hs : RelS W g H sl σ) (q : PostM W C Wx g H σ sl (mExc c mk α sl vh) Q) :
    TDA W C Wx α σ H (fun vs H1 => ∃ g1 vh1 ds fs, RelH W C g1 vh1 H1 ∧ RelS W g1 H1 sl σ ∧ Ext g H g1 H1 ∧ Reps W g1 H1 ds vs ∧ mk ds = some fs ∧
      ∀ g2 H2 cc od, RelH W C g2 vh1 H2 → RelS W g2 H2 sl σ → Ext g H g2 H2 → XRep W g2 H2 ⟨c, fs⟩ cc od → Q cc od H2) := by
  refine ⟨g, sl, vh, h, hs, ?_⟩
  unfold mExc at q
  cases r : α sl vh with
  | bad => rw [r] at q; exact q
  | exc x vh' => rw [r] at q; exact q
  | ok ds vh' =>
    rw [r] at q
    dsimp only at q
    cases em : mk ds with
    | none => rw [em] at q; exact q.elim
    | some fs => rw [em] at q; exact fun g1 H1 vs h1 s1 x1 r1 => ⟨g1, vh', ds, fs, h1, s1, x1, r1, em, q⟩
theorem dm_x1 (cz : Cz W Wx (k + 1) X) (T : XcT B newId initId bmB W.K (W.cls c)) (M : Meth W.K (W.cls c) "__init__" fI) (F1 : FnOk X.prog X.w W.K X.mg X.base (L2.CX X.prog X.w) k fI fd ["self", x1] (spX1 (W.cls c) f)) (hb : Binds W.K fd ["self", x1] [])
    (hg : Gl X x) (hm : X.mg x = some (.ref (W.cls c))) (ha : DA W Wx X (e :: es) α) (hdb : (x == ("__debug__" : Str)) = false := by decide) (he : starEach (e :: es) X.env = (false, eval e X.env) :: starEach es X.env := by rfl)
    (hpl : (backTo pos (starEach es X.env)).any (·.1) = false := by rfl) : DM W Wx X (.Call (.Name x p) (e :: es) [] pos) (mExc c (mk1 f) α) := fun C => by
  have cK := cz.K
  refine pmk_imp (pmk_xc (CX := L2.CX X.prog X.w) (by rw [cK]; exact T) (by rw [cK]; exact M.at_) (by rw [cK]; exact beq_iff_eq.mp M.fn) (by rw [cK]; exact F1) cz.rm (by rw [cK]; exact hb) .nil passL hg hm (ha C) hdb he hpl) fun σ H Q ⟨g, sl, vh, h, hs, q⟩ => ?_
  refine (dm_args h hs q).mono fun vs H1 ⟨g1, vh1, ds, fs, h1, s1, x1, r1, em, q1⟩ => ?_
  obtain ⟨d0, rfl, rfl⟩ : ∃ d0, ds = [d0] ∧ fs = [(f, d0)] := by
    match ds, em with
    | [d0], em => exact ⟨d0, rfl, (Option.some.inj em).symm⟩
  obtain ⟨v, r, rfl, rv, rr⟩ : ∃ v r, vs = v :: r ∧ Rep W g1 H1 d0 v ∧ Reps W g1 H1 [] r := by simpa only [Reps] using r1
  obtain rfl : r = [] := by simpa only [Reps] using rr
  refine ⟨by simp, fun a na => ?_⟩
  refine ⟨a, v, rfl, upd_same, fun d nd ne => ?_⟩
  have nd' : H1 d = none := by rw [upd_ne ne] at nd; exact nd
  refine ⟨rfl, d, [(f, v)], upd_same, by rw [upd_ne ne, upd_same], nd', ?_⟩
  have eH : upd (L2.del (upd (upd (upd H1 a (exo a (W.cls c) none)) d (exd d [(f, v)])) a (exo a (W.cls c) (some d))) a) d (.xd [(f, v)]) = upd H1 d (.xd [(f, v)]) := by
    funext b
    by_cases hd : b = d
    · rw [hd, upd_same, upd_same]
    · rw [upd_ne hd, upd_ne hd]
      by_cases hba : b = a
      · rw [hba, L2.del_same, na]
      · rw [L2.del_ne hba, upd_ne hba, upd_ne hd, upd_ne hba]
  rw [eH]
  have hx := Ext.new (u := .xd [(f, v)]) h1 nd'
  exact q1 (g1.add d) _ _ _ (h1.xd nd') (s1.mono (hx.trans (Ext.add _ _ _))) ((x1.trans hx).trans (Ext.add _ _ _)) (XRep.mk h1 nd' (by simp only [RepFs]; exact ⟨v, [], rfl, rv, rfl⟩))
theorem dm_x2 (cz : Cz W Wx (k + 1) X) (T : XcT B newId initId bmB W.K (W.cls c)) (M : Meth W.K (W.cls c) "__init__" fI) (F1 : FnOk X.prog X.w W.K X.mg X.base (L2.CX X.prog X.w) k fI fd ["self", x1, x2] (spX2 (W.cls c) f1 f2)) (hb : Binds W.K fd ["self", x1, x2] [])
    (hg : Gl X x) (hm : X.mg x = some (.ref (W.cls c))) (ha : DA W Wx X (e :: es) α) (hdb : (x == ("__debug__" : Str)) = false := by decide) (he : starEach (e :: es) X.env = (false, eval e X.env) :: starEach es X.env := by rfl)
    (hpl : (backTo pos (starEach es X.env)).any (·.1) = false := by rfl) : DM W Wx X (.Call (.Name x p) (e :: es) [] pos) (mExc c (mk2 f1 f2) α) := fun C => by
  have cK := cz.K
  refine pmk_imp (pmk_xc (CX := L2.CX X.prog X.w) (by rw [cK]; exact T) (by rw [cK]; exact M.at_) (by rw [cK]; exact beq_iff_eq.mp M.fn) (by rw [cK]; exact F1) cz.rm (by rw [cK]; exact hb) .nil passL hg hm (ha C) hdb he hpl) fun σ H Q ⟨g, sl, vh, h, hs, q⟩ => ?_
  refine (dm_args h hs q).mono fun vs H1 ⟨g1, vh1, ds, fs, h1, s1, x1, r1, em, q1⟩ => ?_
  obtain ⟨d0, d1, rfl, rfl⟩ : ∃ d0 d1, ds = [d0, d1] ∧ fs = [(f2, d1), (f1, d0)] := by
    match ds, em with
    | [d0, d1], em => exact ⟨d0, d1, rfl, (Option.some.inj em).symm⟩
  obtain ⟨v, r, rfl, rv, rr⟩ : ∃ v r, vs = v :: r ∧ Rep W g1 H1 d0 v ∧ Reps W g1 H1 [d1] r := by simpa only [Reps] using r1
  obtain ⟨v', r', rfl, rv', rr'⟩ : ∃ v' r', r = v' :: r' ∧ Rep W g1 H1 d1 v' ∧ Reps W g1 H1 [] r' := by simpa only [Reps] using rr
  obtain rfl : r' = [] := by simpa only [Reps] using rr'
  refine ⟨by simp, fun a na => ?_⟩
  refine ⟨a, v, v', rfl, upd_same, fun d nd ne => ?_⟩
  have nd' : H1 d = none := by rw [upd_ne ne] at nd; exact nd
  refine ⟨rfl, d, [(f2, v'), (f1, v)], by rw [upd_ne (Ne.symm ne), upd_same], upd_same, nd', ?_⟩
  have eH : upd (L2.del (upd (upd (upd (upd H1 a (exo a (W.cls c) none)) d (exd d [(f1, v)])) a (exo a (W.cls c) (some d))) d (exd d [(f2, v'), (f1, v)])) a) d (.xd [(f2, v'), (f1, v)]) = upd H1 d (.xd [(f2, v'), (f1, v)]) := by
    funext b
    by_cases hd : b = d
    · rw [hd, upd_same, upd_same]
    · rw [upd_ne hd, upd_ne hd]
      by_cases hba : b = a
      · rw [hba, L2.del_same, na]
      · rw [L2.del_ne hba, upd_ne hd, upd_ne hba, upd_ne hd, upd_ne hba]
  rw [eH]
  have hx := Ext.new (u := .xd [(f2, v'), (f1, v)]) h1 nd'
  exact q1 (g1.add d) _ _ _ (h1.xd nd') (s1.mono (hx.trans (Ext.add _ _ _))) ((x1.trans hx).trans (Ext.add _ _ _)) (XRep.mk h1 nd' (by simp only [RepFs]; exact ⟨v', _, rfl, rv', v, [], rfl, rv, rfl⟩))
/-- an own exception class without own __init__ -/
structure Xc0 (B newId initId : String) (bmB : List Value) (K : PySem.W.Frag) (C : Addr) : Prop where
  F : ExcBaseFacts B newId initId bmB
  q : PySem.W.excIn K C bmB newId = true
  kC : PySem.W.keepIn K (.ref C) = true
  exC : PySem.W.subIn K (.ref C) (.type "BaseException") = some true
  tyC : PySem.W.typeIn K (.ref C) = some (.type "type")
def x0B (bmB : List Value) (newId : String) (C : Addr) (K : PySem.W.Frag) : Bool := PySem.W.excIn K C bmB newId && (PySem.W.keepIn K (.ref C) && (decide (PySem.W.subIn K (.ref C) (.type "BaseException") = some true) && decide (PySem.W.typeIn K (.ref C) = some (.type "type"))))
theorem x0_of {K : PySem.W.Frag} {C : Addr} (F : ExcBaseFacts B newId initId bmB) (h : x0B bmB newId C K = true) : Xc0 B newId initId bmB K C := by
  obtain ⟨h1, h⟩ := Bool.and_eq_true_iff.mp h
  obtain ⟨h2, h⟩ := Bool.and_eq_true_iff.mp h
  obtain ⟨h3, h4⟩ := Bool.and_eq_true_iff.mp h
  exact ⟨F, h1, h2, of_decide_eq_true h3, of_decide_eq_true h4⟩
theorem pmk_own0 {C : Addr} (F : ExcBaseFacts B newId initId bmB) (q : PySem.W.excIn X.K C bmB newId = true) (gC : X.mg x = some (.ref C)) (kC : PySem.W.keepIn X.K (.ref C) = true) (r : Raises X (.ref C)) (hg : Gl X x)
    (hdb : (x == ("__debug__" : Str)) = false := by decide) : PMk X (.Call (.Name x p) [] [] pos) (fun σ H Q => Q (.ref C) none H) := by
  intro pins s σ H Q I h
  refine wpAny_Call_Name_kw (ld_glob I hg gC ?_ hdb)
  refine PySem.W.callWith_K0 I.kIn kC ?_
  show wpAny _ _ (call (.ref C) []) _ _ _
  obtain ⟨bm, N, nm, qn, bs, hdct, sn, sub, ab, col, dd, k0, k1, k2, k3, k5, mN, hC, hN, hni, T⟩ := exc_obj I.kIn q
  refine wpAny_call_exc_subT F T hC hN hni (fun h' e hm => ?_) (by simp)
  exact mk_of I hm r h (I.hok.gone hm.new)
theorem dm_x0 (cz : Cz W Wx k X) (T : Xc0 B newId initId bmB W.K (W.cls c)) (hg : Gl X x) (hm : X.mg x = some (.ref (W.cls c))) (hdb : (x == ("__debug__" : Str)) = false := by decide) : DM W Wx X (.Call (.Name x p) [] [] pos) (mExc c (mk0 0) aNil) := fun C => by
  have cK := cz.K
  refine pmk_imp (pmk_own0 T.F (by rw [cK]; exact T.q) hm (by rw [cK]; exact T.kC) (raises_own (by rw [cK]; exact T.exC) (by rw [cK]; exact T.tyC)) hg hdb) fun σ H Q ⟨g, sl, vh, h, hs, q⟩ => ?_
  exact q g H _ none h hs (Ext.refl g H) ⟨rfl, rfl⟩
theorem dm_xA (cz : Cz W Wx k X) (T : Xc0 B newId initId bmB W.K (W.cls c)) (hg : Gl X x) (hm : X.mg x = some (.ref (W.cls c))) (n : Nat) (ha : DA W Wx X (e :: es) α) (hdb : (x == ("__debug__" : Str)) = false := by decide) (he : starEach (e :: es) X.env = (false, eval e X.env) :: starEach es X.env := by rfl)
    (hpl : (backTo pos (starEach es X.env)).any (·.1) = false := by rfl) : DM W Wx X (.Call (.Name x p) (e :: es) [] pos) (mExc c (mk0 n) α) := fun C => by
  have cK := cz.K
  refine pmk_imp (pmk_ownA T.F (by rw [cK]; exact T.q) hm (by rw [cK]; exact T.kC) (raises_own (by rw [cK]; exact T.exC) (by rw [cK]; exact T.tyC)) hg (ha C) hdb he hpl) fun σ H Q ⟨g, sl, vh, h, hs, q⟩ => ?_
  refine (dm_args h hs q).mono fun vs H1 ⟨g1, vh1, ds, fs, h1, s1, x1, r1, em, q1⟩ => ?_
  unfold mk0 at em
  split at em
  · rename_i hh
    cases em
    refine ⟨by rw [← r1.length, hh.1, sizeLine_eq]; omega, q1 g1 H1 _ none h1 s1 x1 ⟨rfl, rfl⟩⟩
  · cases em
end
end
end PM

/-! PM49: try .. except C as e: ..; what a suite does with e. -/
namespace PM
open PySem PySem.Spec PyProof.Rows L2
noncomputable section
/-! ### several clauses, each with a name or without -/
/-- the ends of a suite whose name is the i-th slot: it goes -/
def endsN (i : Option Nat) (D : Ends) : Ends := match i with
  | none => D
  | some i => { nx := fun σ H => D.nx (σ.set i none) H, rt := D.rt, bk := fun σ H => D.bk (σ.set i none) H, ct := fun σ H => D.ct (σ.set i none) H }
def putN (i : Option Nat) (a : Addr) (σ : L2.St) : L2.St := match i with
  | none => σ
  | some i => σ.set i (some (.ref a))
def wHs (K : PySem.W.Frag) (Wout : WX) (D : Ends) : List (Value × Option Nat × (Addr → Value → Option Addr → TS)) → WX
  | [] => Wout
  | (c, i, ts) :: r => fun cls d σ H => ∃ b, PySem.W.exmOne K cls c = some b ∧ (b = true → ∀ a, H a = none → ts a cls d (endsN i D) (putN i a σ) H) ∧ (b = false → wHs K Wout D r cls d σ H)
inductive HdX (X : Cx) : List ExceptHandler → List (Value × Option Nat × (Addr → Value → Option Addr → TS)) → Prop
  | nil : HdX X [] []
  | as {x n : Str} {c : Value} {i : Nat} {ts : Addr → Value → Option Addr → TS} {b : Stmt} {bs : List Stmt} {np pos : Pos} {hds : List ExceptHandler} {l : List (Value × Option Nat × (Addr → Value → Option Addr → TS))} (hc : Names X x c) (hi : X.N[i]? = some n)
      (hln : X.env.kindOf n = some .local) (hsu : ∀ (a : Addr) (oe : Obj) (cls : Value) (d : Option Addr) (pn : List (Addr × Obj)), Zc cls d oe → (∃ vs, oe.data = .fields vs) → PSs (X.suite a ((a, oe) :: pn)) (b :: bs) (ts a cls d)) (r : HdX X hds l) :
      HdX X (.ExceptHandler (some (.Name x np)) (some n) (b :: bs) pos :: hds) ((c, some i, ts) :: l)
  | only {x : Str} {c : Value} {ts : Addr → Value → Option Addr → TS} {b : Stmt} {bs : List Stmt} {np pos : Pos} {hds : List ExceptHandler} {l : List (Value × Option Nat × (Addr → Value → Option Addr → TS))} (hc : Names X x c)
      (hsu : ∀ (a : Addr) (oe : Obj) (cls : Value) (d : Option Addr) (pn : List (Addr × Obj)), Zc cls d oe → (∃ vs, oe.data = .fields vs) → PSs (X.suite a ((a, oe) :: pn)) (b :: bs) (ts a cls d)) (r : HdX X hds l) :
      HdX X (.ExceptHandler (some (.Name x np)) none (b :: bs) pos :: hds) ((c, none, ts) :: l)
section
variable {X : Cx} {body : List Stmt} {hh : ExceptHandler} {hds : List ExceptHandler} {l : List (Value × Option Nat × (Addr → Value → Option Addr → TS))} {pos : Pos} {tb : WX → TS} {Wout : WX}
/-- what the landing of an exception gives: the clause's test, the suite's state -/
structure Lands (X : Cx) (pins : List (Addr × Obj)) (σ : L2.St) (H : Hp) (a : Addr) (cls : Value) (d : Option Addr) (s : Shared) : Prop where
  ok : X.Ok
  test : ∀ {x : Str} {np : Pos} {c : Value} {Q : Value → Shared → Prop} {E : Value → Shared → Prop}, Names X x c → Q c s → wpAny (model X.prog X.w) (X.A.mark (some (.ref a))) (eval (.Name x np) X.env) Q E s
  typ : PySem.W.Looks (model X.prog X.w) s.heap (typeOf (.ref a)) cls
  kin : X.K.In s.heap
  suite : ∀ {M : Model} {A : Around} {E : Value → Shared → Prop} {Q : Unit → Shared → Prop}, (∀ oe s', Zc cls d oe → (∃ vs, oe.data = .fields vs) → Inv (X.suite a ((a, oe) :: (X.pn ++ pins))) [] σ H s' → Q () s') → wpAny M A (setFlight (.ref a) none) Q E s
theorem go_hds {pins : List (Addr × Obj)} {σ : L2.St} {H : Hp} {a : Addr} {cls : Value} {d : Option Addr} {s : Shared} {D : Ends} (hN : X.N.Nodup) (L : Lands X pins σ H a cls d s) (na : H a = none)
    (out : Wout cls d σ H → wpAny (model X.prog X.w) X.A (handleBy (.ref a) X.env []) (SP X pins D) X.xe s) :
    ∀ {hs : List ExceptHandler} {l : List (Value × Option Nat × (Addr → Value → Option Addr → TS))}, HdX X hs l → wHs X.K Wout D l cls d σ H → wpAny (model X.prog X.w) X.A (handleBy (.ref a) X.env hs) (SP X pins D) X.xe s := by
  intro hs l hk
  induction hk with
  | nil => exact out
  | @as x n c i ts b bs np pos hds l hc hi hln hsu r ih =>
    rintro ⟨v, ev, yes, no⟩
    have T := PySem.W.exm_one (M := model X.prog X.w) L.kin L.typ ev
    refine wpAny_handleBy_cons (codeAny_handlers_test (L.test hc (T.here ?_))) (fun z => nomatch z)
    match v, yes, no with
    | false, _, no => exact ih (no rfl)
    | true, yes, _ =>
      refine codeAny_handlers_suite_as (L.suite fun oe s1 z1 z2 I1 => ?_)
      refine store_ok (X := X.suite a ((a, oe) :: (X.pn ++ pins))) (v := .ref a) I1 hN hi (show Loc X.env.scope n from .inl hln) rfl (fun s2 I2 => ?_) (.inr hln)
      refine wpAny_mono ((hsu a oe cls d _ z1 z2).run [] s2 _ H _ I2 (yes rfl a na)) (fun f s3 q => ?_) (fun _ _ z => nomatch z)
      have stop : ∀ {τ : L2.St} {G : Hp} {Q : Shared → Prop}, Inv (X.suite a ((a, oe) :: (X.pn ++ pins))) [] τ G s3 → (∀ s4, Inv X pins (τ.set i none) G s4 → Q s4) →
          wpAny (model X.prog X.w) X.A (do bindName X.env n .none; unbindBehindTheSuite X.env n pos) (fun _ s4 => Q s4) X.xe s3 := fun J k => gone_ok (J.unsuite L.ok) hN hi hln k
      match f, q with
      | .next, ⟨τ, G, J, q⟩ => exact stop J fun s4 J4 => ⟨_, _, J4, q⟩
      | .brk, ⟨τ, G, J, q⟩ => exact stop J fun s4 J4 => ⟨_, _, J4, q⟩
      | .cont, ⟨τ, G, J, q⟩ => exact stop J fun s4 J4 => ⟨_, _, J4, q⟩
      | .ret u, ⟨v, τ, G, J, rv, q⟩ => exact stop J fun s4 J4 => ⟨_, _, _, J4, rv, q⟩
  | @only x c ts b bs np pos hds l hc hsu r ih =>
    rintro ⟨v, ev, yes, no⟩
    have T := PySem.W.exm_one (M := model X.prog X.w) L.kin L.typ ev
    refine wpAny_handleBy_cons (codeAny_handlers_test (L.test hc (T.here ?_))) (fun z => nomatch z)
    match v, yes, no with
    | false, _, no => exact ih (no rfl)
    | true, yes, _ =>
      refine codeAny_handlers_suite (L.suite fun oe s1 z1 z2 I1 => ?_)
      refine wpAny_mono ((hsu a oe cls d _ z1 z2).run [] s1 _ H _ I1 (yes rfl a na)) (fun f s3 q => ?_) (fun _ _ z => nomatch z)
      match f, q with
      | .next, ⟨τ, G, J, q⟩ => exact ⟨_, _, J.unsuite L.ok, q⟩
      | .brk, ⟨τ, G, J, q⟩ => exact ⟨_, _, J.unsuite L.ok, q⟩
      | .cont, ⟨τ, G, J, q⟩ => exact ⟨_, _, J.unsuite L.ok, q⟩
      | .ret u, ⟨v, τ, G, J, rv, q⟩ => exact ⟨_, _, _, J.unsuite L.ok, rv, q⟩
theorem ps_try_hs (hs : X.stack = X.env :: X.outer) (hf : X.env.frame = some X.env.locals) (hN : X.N.Nodup) (tk : Takes X Wout)
    (hb : ∀ (Wx : WX) (pn : List (Addr × Obj)) (xe : Value → Shared → Prop), Takes (X.tr pn xe) Wx → PassesOwn (model X.prog X.w) X.A X.env xe → PSs (X.tr pn xe) body (tb Wx)) (hk : HdX X (hh :: hds) l) :
    PS X (.Try body (hh :: hds) [] [] pos) (fun D σ H => tb (wHs X.K Wout D l) D σ H) := by
  constructor
  intro pins s σ H D I q
  have ok := I.ok
  have frs1 : X.A.frames = some (X.env :: X.outer) := ok.frames.trans (congrArg some hs)
  let xe1 : Value → Shared → Prop := fun e s1 => wpAny (model X.prog X.w) X.A (noteFrame e X.env) (fun _ s2 => wpAny (model X.prog X.w) X.A (setFlight e none) (fun _ s3 => wpAny (model X.prog X.w) X.A (handleBy e X.env (hh :: hds)) (SP X pins D) X.xe s3) X.xe s2) X.xe s1
  have catch_ : Takes (X.tr (X.pn ++ pins) xe1) (wHs X.K Wout D l) := by
    rintro u s1 ⟨a, Bh, s0, pins1, τ, G, cls, d, rfl, J1, nb, up, sky, na, os, ag, w⟩
    have J : Inv X pins τ G s0 := J1.ofTry ok
    rw [show (X.tr (X.pn ++ pins) xe1).stack = X.env :: X.outer from hs] at sky
    refine Sky.land Zc.steady frs1 hf sky fun h1 f1 u1 => ?_
    have up1 := up.trans u1
    obtain ⟨o1, v1, e1, z1, d1⟩ := f1.there
    have off : ∀ {h : Heap} {o : Obj} {vs : Array Value}, h.FunFrames Bh (X.env :: X.outer) → h.get? a = some o → o.data = .fields vs → a ∉ frs (X.env :: X.outer) := by
      intro h o vs ff eo ed m
      obtain ⟨_, o2, e2, n2⟩ := ff.mem m
      cases eo.symm.trans e2
      exact n2 vs ed
    have n1 := off f1.2.2.1 e1 d1
    have nl : a ≠ X.env.locals := by
      rintro rfl
      exact n1 (List.mem_filterMap.mpr ⟨X.env, List.mem_cons_self, hf⟩)
    have nf : a ∉ X.fs := by
      intro m
      obtain ⟨e, me, q⟩ := List.mem_filterMap.mp m
      exact n1 (List.mem_filterMap.mpr ⟨e, List.mem_cons_of_mem _ me, q⟩)
    have K1 : Inv X pins τ G { s1 with heap := h1 } := J.landed nb f1.1 up1 os ag
    have S1 := K1.suite e1 d1 na nl nf
    have LL : Lands X pins τ G a cls d { s1 with heap := h1 } := by
      refine ⟨ok, fun {x np c Q E} hc hq => ?_, fun A Q E s k hq => wpAny_typeOf_ref (k _ _ e1) (by rw [z1.1]; exact hq), K1.kIn, fun {M A E Q} hq => ?_⟩
      · obtain ⟨g1, g2, g3⟩ := hc
        rcases g3 with g3 | ⟨g3, g4, g5⟩
        · exact ld_glob (X := X.suite a ((a, o1) :: (X.pn ++ pins))) S1 g1 g3 hq g2
        · exact ld_blt (X := X.suite a ((a, o1) :: (X.pn ++ pins))) S1 g1 g3 g4 hq g5 g2
      · refine HandSPX.lands_againZ f1 fun h2 f2 u2 => ?_
        have K2 : Inv X pins τ G { s1 with heap := h2 } := J.landed nb f2.1 (up1.trans u2) os ag
        obtain ⟨o2, v2, e2, z2, d2⟩ := f2.there
        exact hq o2 _ z2 ⟨v2, d2⟩ (K2.suite e2 d2 na nl nf)
    refine go_hds (Wout := Wout) hN LL na (fun w => wpAny_handleBy_nil ?_) hk w
    obtain ⟨_, _, _, o3, v3, t3, _, _, e3, _, d3, q3, _⟩ := id f1
    have last : wpAny (model X.prog X.w) X.A (setFlight (.ref a) X.env.frame) (fun _ s4 => wpAny (model X.prog X.w) X.A (throw (.ref a) : Sem Flow) (SP X pins D) X.xe s4) X.xe { s1 with heap := h1 } := by
      rw [hf]
      exact HandSPX.setFlight_upZ f1 fun h4 k4 u4 => wpAny_throw (tk _ _ ⟨a, Bh, s0, pins, τ, G, cls, d, rfl, J, nb, up1.trans u4, .inr (.inr (by rw [hs]; exact k4)), na, os, ag, w⟩)
    unfold PySem.passOn
    refine wpAny_bind (wpAny_field e3 d3 q3 ?_)
    rw [if_neg (by simp : ¬ ((Value.ref t3 == Value.none) = true))]
    first
      | exact wpAny_bind (wpAny_pure (wpAny_bind last))
      | exact wpAny_bind last
  refine wpAny_Try_except (wpAny_mono ((hb _ (X.pn ++ pins) xe1 catch_ PassesOwn.looking).run [] s σ H D (I.toTry _) q) (fun f s1 r => ?_) fun _ _ r => r)
  match f, r with
  | .next, ⟨τ, G, J, r⟩ => exact wpAny_execs_nil ⟨τ, G, J.ofTry ok, r⟩
  | .brk, ⟨τ, G, J, r⟩ => exact ⟨τ, G, J.ofTry ok, r⟩
  | .cont, ⟨τ, G, J, r⟩ => exact ⟨τ, G, J.ofTry ok, r⟩
  | .ret u, ⟨v, τ, G, J, rv, r⟩ => exact ⟨v, τ, G, J.ofTry ok, rv, r⟩
end
end
end PM

/-! PM50: try, by its denotation; what a suite does with its exception. -/
namespace PM
open PySem PySem.Spec PyProof.Rows L2
noncomputable section
open Classical in
/-- the same for any place of the exception -/
def allA (fs : List (Str × D)) (F : Addr → Option Addr → RS) : RS := if h : ∃ r, ∀ a od, (od = none → fs = []) → F a od = r then h.choose else .bad
theorem allA_eq {fs : List (Str × D)} {F : Addr → Option Addr → RS} {r : RS} (h : ∀ a od, (od = none → fs = []) → F a od = r) : allA fs F = r := by
  have e : ∃ r, ∀ a od, (od = none → fs = []) → F a od = r := ⟨r, h⟩
  unfold allA
  rw [dif_pos e]
  exact (e.choose_spec 0 (some 0) (fun z => nomatch z)).symm.trans (h 0 (some 0) (fun z => nomatch z))
theorem allA_spec {fs : List (Str × D)} {F : Addr → Option Addr → RS} (hb : allA fs F ≠ .bad) (a : Addr) (od : Option Addr) (h : od = none → fs = []) : F a od = allA fs F := by
  unfold allA at hb ⊢
  split
  · rename_i e
    exact e.choose_spec a od h
  · rename_i e
    rw [dif_neg e] at hb
    exact absurd rfl hb
@[simp] theorem allA_const (fs : List (Str × D)) (r : RS) : allA fs (fun _ _ => r) = r := allA_eq fun _ _ _ => rfl
def goneN (i : Option Nat) (sl : Sl) : Sl := match i with
  | none => sl
  | some i => sl.set i none
def outT (i : Option Nat) : RS → RS
  | .nx sl vh => .nx (goneN i sl) vh
  | .bk sl vh => .bk (goneN i sl) vh
  | .ct sl vh => .ct (goneN i sl) vh
  | .rt d vh => .rt d vh
  | _ => .bad
def putX (i : Option Nat) (d : D) (sl : Sl) : Sl := match i with
  | none => sl
  | some i => sl.set i (some d)
/-- a clause: the class, whether it takes, the name's slot, the suite -/
structure HF where
  c : Nat
  xm : Nat → Option Bool
  i : Option Nat
  ε : Addr → Option Addr → SF
def hRun : List HF → XV → Sl → VH → RS
  | [], x, sl, vh => .ex x sl vh
  | h :: r, x, sl, vh => match h.xm x.cls with
    | some true => if x.cls = h.c then allA x.fs (fun a od => outT h.i (h.ε a od (putX h.i (.exc a od h.c x.fs) sl) vh)) else .bad
    | some false => hRun r x sl vh
    | none => .bad
def sTry (δ : SF) (hs : List HF) : SF := fun sl vh => match δ sl vh with
  | .ex x sl' vh' => hRun hs x sl' vh'
  | r => r
/-- the context of a suite: e is the exception at a, its dict od, its class c -/
structure Csu (W : Wd) (X : Cx) (a : Addr) (od : Option Addr) (c : Nat) : Prop where
  K : X.K = W.K
  un : X.A.units + 100 < cLine
  gd : X.A.guards = some []
  nd : X.N.Nodup
  ex : ∃ (Y : Cx) (oe : Obj) (pn : List (Addr × Obj)), X = Y.suite a ((a, oe) :: pn) ∧ Zc (.ref (W.cls c)) od oe ∧ ∃ vs, oe.data = .fields vs
abbrev WN : WX := fun _ _ _ _ => False
section
variable {W : Wd} {C : Con} {Wx : WX} {X : Cx} {g g0 : Gh} {H H0 : Hp} {σ : L2.St} {sl : Sl} {vh : VH} {k : Nat}
theorem RelS.gone (h : RelS W g H sl σ) (i : Nat) : RelS W g H (sl.set i none) (σ.set i none) := by
  refine ⟨by simpa using h.1, fun j d e => ?_⟩
  by_cases hj : i = j
  · subst hj
    by_cases hl : i < sl.length
    · rw [List.getElem?_set_self hl] at e; cases e
    · rw [List.getElem?_eq_none (by simpa using hl)] at e; cases e
  · rw [List.getElem?_set_ne hj] at e
    obtain ⟨v, a, b⟩ := h.2 j d e
    exact ⟨v, by rw [List.getElem?_set_ne hj]; exact a, b⟩
theorem pss_pre {st : List Stmt} {p : Prop} {t : TS} (h : p → PSs X st t) : PSs X st (fun D σ H => p ∧ t D σ H) := ⟨fun pins s σ H D I q => (h q.1).run pins s σ H D I q.2⟩
/-- the suite's reading, for the clause's wish -/
def tsOf (W : Wd) (C : Con) (c : Nat) (ε : Addr → Option Addr → SF) (a : Addr) (cls : Value) (od : Option Addr) : TS := fun En σ H => cls = .ref (W.cls c) ∧ TDS W C WN (ε a od) En σ H
inductive HdD (W : Wd) (X : Cx) : List ExceptHandler → List HF → Prop
  | nil : HdD W X [] []
  | as {x n : Str} {c i : Nat} {xm : Nat → Option Bool} {ε : Addr → Option Addr → SF} {b : Stmt} {bs : List Stmt} {np pos : Pos} {hds : List ExceptHandler} {l : List HF} (hc : Names X x (.ref (W.cls c))) (hi : X.N[i]? = some n) (hln : X.env.kindOf n = some .local)
      (hx : ∀ c' v, xm c' = some v → PySem.W.exmOne X.K (.ref (W.cls c')) (.ref (W.cls c)) = some v)
      (hsu : ∀ (a : Addr) (oe : Obj) (od : Option Addr) (pn : List (Addr × Obj)), Csu W (X.suite a ((a, oe) :: pn)) a od c → DSs W WN (X.suite a ((a, oe) :: pn)) (b :: bs) (ε a od)) (r : HdD W X hds l) :
      HdD W X (.ExceptHandler (some (.Name x np)) (some n) (b :: bs) pos :: hds) (⟨c, xm, some i, ε⟩ :: l)
  | only {x : Str} {c : Nat} {xm : Nat → Option Bool} {ε : Addr → Option Addr → SF} {b : Stmt} {bs : List Stmt} {np pos : Pos} {hds : List ExceptHandler} {l : List HF} (hc : Names X x (.ref (W.cls c)))
      (hx : ∀ c' v, xm c' = some v → PySem.W.exmOne X.K (.ref (W.cls c')) (.ref (W.cls c)) = some v)
      (hsu : ∀ (a : Addr) (oe : Obj) (od : Option Addr) (pn : List (Addr × Obj)), Csu W (X.suite a ((a, oe) :: pn)) a od c → DSs W WN (X.suite a ((a, oe) :: pn)) (b :: bs) (ε a od)) (r : HdD W X hds l) :
      HdD W X (.ExceptHandler (some (.Name x np)) none (b :: bs) pos :: hds) (⟨c, xm, none, ε⟩ :: l)
def hdL (W : Wd) (C : Con) (l : List HF) : List (Value × Option Nat × (Addr → Value → Option Addr → TS)) := l.map fun h => (.ref (W.cls h.c), h.i, tsOf W C h.c h.ε)
theorem units_mark {A : Around} {v : Option Value} : (A.mark v).units = A.units := rfl
theorem guards_mark {A : Around} {v : Option Value} : (A.mark v).guards = A.guards := rfl
theorem csu_of (cz : Cz W Wx k X) {a : Addr} {oe : Obj} {od : Option Addr} {pn : List (Addr × Obj)} {c : Nat} {cls : Value} (z : Zc cls od oe) (hf : ∃ vs, oe.data = .fields vs) (e : cls = .ref (W.cls c)) : Csu W (X.suite a ((a, oe) :: pn)) a od c := by
  subst e
  exact ⟨cz.K, by have := cz.rm.un; show (X.A.mark _).units + 100 < _; rw [units_mark]; omega, by show (X.A.mark _).guards = _; rw [guards_mark]; exact cz.gd, cz.nd, X, oe, pn, rfl, z, hf⟩
theorem HdD.hdx (cz : Cz W Wx k X) {hds : List ExceptHandler} {l : List HF} (h : HdD W X hds l) (C : Con) : HdX X hds (hdL W C l) := by
  induction h with
  | nil => exact .nil
  | as hc hi hln hx hsu r ih => exact .as hc hi hln (fun a oe cls d pn z hf => pss_pre fun e => hsu a oe d pn (csu_of cz z hf e) C) ih
  | only hc hx hsu r ih => exact .only hc (fun a oe cls d pn z hf => pss_pre fun e => hsu a oe d pn (csu_of cz z hf e) C) ih
theorem ends_out {i : Option Nat} {r : RS} {En : Ends} (q : PostS W C Wx g H (outT i r) En) : PostS W C WN g H r (endsN i En) := by
  cases i with
  | none =>
    cases r with
    | bad => exact q
    | ex x sl vh => exact q.elim
    | nx sl vh => exact q
    | bk sl vh => exact q
    | ct sl vh => exact q
    | rt d vh => exact q
  | some i =>
    cases r with
    | bad => exact q
    | ex x sl vh => exact q.elim
    | nx sl vh => exact fun g1 H1 σ1 a b c => q g1 H1 _ a (b.gone i) c
    | bk sl vh => exact fun g1 H1 σ1 a b c => q g1 H1 _ a (b.gone i) c
    | ct sl vh => exact fun g1 H1 σ1 a b c => q g1 H1 _ a (b.gone i) c
    | rt d vh => exact q
theorem XRep.exc {x : XV} {cv : Value} {od : Option Addr} (r : XRep W g H x cv od) (a : Addr) (c : Nat) : Rep W g H (.exc a od c x.fs) (.ref a) := by
  obtain ⟨_, r⟩ := r
  simp only [Rep]
  refine ⟨trivial, fun e => ?_, fun d e => ?_⟩
  · subst e; exact r
  · subst e; exact r
theorem HdD.wish (cz : Cz W Wx k X) {hds : List ExceptHandler} {l : List HF} (hd : HdD W X hds l) {En : Ends} {x : XV} {cv : Value} {od : Option Addr} (h : RelH W C g vh H) (hs : RelS W g H sl σ) (r : XRep W g H x cv od) (q : PostS W C Wx g H (hRun l x sl vh) En) :
    wHs X.K Wx En (hdL W C l) cv od σ H := by
  have ecv : cv = .ref (W.cls x.cls) := r.1
  have ofs : od = none → x.fs = [] := by
    obtain ⟨_, r⟩ := r
    intro e; subst e; exact r
  induction hd with
  | nil => exact q g H σ cv od h hs (Ext.refl g H) r
  | @as y n c i xm ε b bs np pos hds l hc hi hln hx hsu _ ih =>
    simp only [hRun] at q
    cases em : xm x.cls with
    | none => rw [em] at q; exact q.elim
    | some v =>
      rw [em] at q
      cases v with
      | false => exact ⟨false, by rw [ecv]; exact hx _ _ em, fun z => (nomatch z), fun _ => ih q⟩
      | true =>
        dsimp only at q
        split at q
        · rename_i ec
          have nb : allA x.fs (fun a od => outT (some i) (ε a od (putX (some i) (.exc a od c x.fs) sl) vh)) ≠ .bad := fun z => by rw [z] at q; exact q
          refine ⟨true, by rw [ecv]; exact hx _ _ em, fun _ a na => ⟨ecv.trans (by rw [ec]), ?_⟩, fun z => (nomatch z)⟩
          rw [← allA_spec nb a od ofs] at q
          exact ⟨g, _, vh, h, hs.set (r.exc a c), ends_out q⟩
        · exact q.elim
  | @only y c xm ε b bs np pos hds l hc hx hsu _ ih =>
    simp only [hRun] at q
    cases em : xm x.cls with
    | none => rw [em] at q; exact q.elim
    | some v =>
      rw [em] at q
      cases v with
      | false => exact ⟨false, by rw [ecv]; exact hx _ _ em, fun z => (nomatch z), fun _ => ih q⟩
      | true =>
        dsimp only at q
        split at q
        · rename_i ec
          have nb : allA x.fs (fun a od => outT none (ε a od (putX none (.exc a od c x.fs) sl) vh)) ≠ .bad := fun z => by rw [z] at q; exact q
          refine ⟨true, by rw [ecv]; exact hx _ _ em, fun _ a na => ⟨ecv.trans (by rw [ec]), ?_⟩, fun z => (nomatch z)⟩
          rw [← allA_spec nb a od ofs] at q
          exact ⟨g, _, vh, h, hs, ends_out q⟩
        · exact q.elim
theorem ds_try {δ : SF} {hs : List HF} {body : List Stmt} {hh : ExceptHandler} {hds : List ExceptHandler} {pos : Pos} (cz : Cz W Wx k X) (hst : X.stack = X.env :: X.outer) (hf : X.env.frame = some X.env.locals)
    (hb : ∀ (Wy : WX) (pn : List (Addr × Obj)) (xe : Value → Shared → Prop), Cz W Wy k (X.tr pn xe) → DSs W Wy (X.tr pn xe) body δ) (hd : HdD W X (hh :: hds) hs) : DS W Wx X (.Try body (hh :: hds) [] [] pos) (sTry δ hs) := fun C => by
  refine ps_imp (ps_try_hs (tb := fun Wy => TDS W C Wy δ) hst hf cz.nd cz.tk (fun Wy pn xe t o => hb Wy pn xe ⟨cz.K, cz.calm, t, cz.rm, cz.gd, o, cz.nd⟩ C) (hd.hdx cz C)) fun En σ H ⟨g, sl, vh, h, hs', q⟩ => ?_
  refine ⟨g, sl, vh, h, hs', ?_⟩
  unfold sTry at q
  cases r : δ sl vh with
  | bad => rw [r] at q; exact q
  | nx sl' vh' => rw [r] at q; exact q
  | bk sl' vh' => rw [r] at q; exact q
  | ct sl' vh' => rw [r] at q; exact q
  | rt d vh' => rw [r] at q; exact q
  | ex x sl' vh' =>
    rw [r] at q
    exact fun g1 H1 σ1 c od a b d e => hd.wish cz a b e (q.at d)
end

/-! ### e.f, isinstance(e, ..) in a suite -/
def pXf (a : Addr) (od : Option Addr) (c : Nat) (f : Str) : D → Option EV
  | .exc a' od' c' fs => if a' = a ∧ od' = od ∧ c' = c then (fget fs f).map EV.v else none
  | _ => none
/-- isinstance(e, ..) -/
def pXis (a : Addr) (od : Option Addr) (c : Nat) (b : Bool) : D → Option EV
  | .exc a' od' c' fs => if a' = a ∧ od' = od ∧ c' = c then some (.v (.bl b)) else none
  | _ => none
@[simp] theorem vw_exc {vh : VH} {a : Addr} {od : Option Addr} {c : Nat} {fs : List (Str × D)} : view vh (.exc a od c fs) = .exc a od c fs := rfl
@[simp] theorem pXf_exc (a : Addr) (od : Option Addr) (c : Nat) (f : Str) (fs : List (Str × D)) : pXf a od c f (.exc a od c fs) = (fget fs f).map EV.v := by simp [pXf]
@[simp] theorem pXis_exc (a : Addr) (od : Option Addr) (c : Nat) (b : Bool) (fs : List (Str × D)) : pXis a od c b (.exc a od c fs) = some (.v (.bl b)) := by simp [pXis]
section
variable {W : Wd} {C : Con} {Wx : WX} {X : Cx} {g g0 : Gh} {H H0 : Hp} {σ : L2.St} {sl : Sl} {vh : VH} {k : Nat} {a : Addr} {od : Option Addr} {c : Nat} {φ : EF} {o : Expr} {pos p0 p1 : Pos} {n nm : Str}
theorem RepW.exc {a' : Addr} {od' : Option Addr} {c' : Nat} {fs : List (Str × D)} {v : V} (r : RepW W g H (.exc a' od' c' fs) v) : v = .ref a' ∧ (od' = none → fs = []) ∧ ∀ d, od' = some d → ∃ gs, g.F d ∧ H d = some (.xd gs) ∧ RepFs W g H fs gs := by
  rcases r with r | ⟨o, a, e, _⟩
  · simpa only [Rep] using r
  · cases o <;> cases e
theorem de_xf (cs : Csu W X a od c) (T : XfC W.K (W.cls c)) (hno : PySem.W.findIn W.K (.ref (W.cls c)) n = some none) (ha : DE W Wx X o φ) (hb : attributeBase o n X.env (eval o X.env) = eval o X.env := by rfl) :
    DE W Wx X (.Attribute o n pos) (e1 (pXf a od c n) φ) := by
  obtain ⟨Y, oe, pn, e, hz, hf⟩ := cs.ex
  have cK := cs.K
  refine de_1 (r := fun x H Q => tXf a (.ref (W.cls c)) od (W.cls c) n (fun σ H Q => Q x H) [] H Q) ha ?_ fun ta h => ?_
  · intro C g H vh dx x Q h rx q s
    cases dx with
    | exc a' od' c' fs =>
      simp only [pXf] at s q
      split at s
      · rename_i hh
        obtain ⟨rfl, rfl, rfl⟩ := hh
        rw [if_pos ⟨rfl, rfl, rfl⟩] at q
        obtain ⟨rfl, r1, r2⟩ := rx.exc
        cases ef : fget fs n with
        | none => rw [ef] at s; cases s
        | some d =>
          rw [ef] at q
          cases od' with
          | none => rw [r1 rfl] at ef; cases ef
          | some dd =>
            obtain ⟨gs, f1, f2, f3⟩ := r2 dd rfl
            obtain ⟨v, l, rv⟩ := f3.get ef
            exact ⟨rfl, rfl, dd, gs, v, rfl, f2, l, q _ rfl g H v h (Ext.refl g H) rv⟩
      · cases s
    | _ => cases s
  · subst e
    exact pe_imp (pe_xf (by rw [show Y.K = W.K from cK]; exact T) (by rw [show Y.K = W.K from cK]; exact hno) hz hf h hb) fun σ H Q q => q
/-- what isinstance(e, ..) asks of e's class -/
def rXis (W : Wd) (a : Addr) (od : Option Addr) (c : Nat) : List V → Hp → VK → Prop := fun xs H Q => ∃ (cv : V) (u : Value) (b : Bool), xs = [.ref a, cv] ∧ (∃ dd, ∀ d, od = some d → H d = some (.xd dd)) ∧ ((ClsV cv u ∧ PySem.W.kitOne W.K (.ref (W.cls c)) u = some b) ∨
    ∃ (tp : Addr) (vs : List V) (us : List Value), cv = .ref tp ∧ H tp = some (.tup vs) ∧ Paired ClsV vs us ∧ PySem.W.kitAny W.K (.ref (W.cls c)) us = some b) ∧ Q (.bl b) H
theorem call_xis (cs : Csu W X a od c) (E : ExcC W.K (W.cls c)) : CallR X (.builtin "isinstance") (rXis W a od c) := by
  obtain ⟨Y, oe, pn, e, hz, hf⟩ := cs.ex
  have cK := cs.K
  subst e
  intro pins s σ H xs us Q I r h
  obtain ⟨cv, u, b, rfl, ⟨dd, hdd⟩, q2, q⟩ := h
  obtain ⟨hget, _⟩ := I.pin (a, oe) (List.mem_append_left _ List.mem_cons_self)
  have kin : W.K.In s.heap := by rw [← cK]; exact I.kIn
  have J : ∃ od2, PySem.W.InstAt s.heap a oe (W.cls c) od2 := by
    obtain ⟨vs, hv⟩ := hf
    cases od with
    | none => exact ⟨none, hget, hz.1, by unfold PySem.W.notCls; rw [hv] <;> rfl, by rw [hz.2]; trivial⟩
    | some d =>
      obtain ⟨mA, hns, _⟩ := (show ObjOk _ _ H s.heap d (.xd dd) from I.hok d _ (hdd d rfl))
      obtain ⟨o, es, ep, ho, _⟩ := hns
      exact ⟨some o, hget, hz.1, by unfold PySem.W.notCls; rw [hv] <;> rfl, by rw [hz.2]; exact ho⟩
  obtain ⟨od2, J⟩ := J
  have Z := PySem.W.kitx_exc (K := W.K) (x := a) (C := W.cls c) (ox := oe) (od := od2) (gt := none) (by obtain ⟨cd, hc, _⟩ := PySem.W.any_some E.hd; rw [hc]; rfl) E.hg E.hk E.hs E.ha E.hn E.ht E.hm
  obtain ⟨u1, u2, rfl, r1, r2⟩ := vals2 r
  cases (show u1 = Value.ref a from r1)
  rcases q2 with ⟨hc, ek⟩ | ⟨tp, vs, ws, rfl, hT, hp, ek⟩
  · have := hc.eq r2
    subst this
    exact PySem.W.kia_one Z kin J ek (fun z => nomatch z) fun tk => ⟨.bl b, H, I.tok tk, rfl, q⟩
  · cases (show u2 = Value.ref tp from r2)
    obtain ⟨_, its, rv, o, h1, h2, n, h3⟩ := (show ObjOk _ _ H s.heap tp (.tup vs) from I.hok tp _ hT)
    have e3 := ClsV.all hp rv
    subst e3
    obtain ⟨oc, odd, dt, sl⟩ := o
    simp only at h2 h3
    subst h2 h3
    exact PySem.W.kia_tup Z kin J h1 ek (fun z => nomatch z) fun tk => ⟨.bl b, H, I.tok tk, rfl, q⟩
/-- names of classes, own ones and built-in ones -/
inductive ClsEs (X : Cx) : List Expr → List V → List Value → Prop
  | nil : ClsEs X [] [] []
  | own {x : Str} {p : Pos} {A : Addr} {es : List Expr} {vs : List V} {us : List Value} (hg : Gl X x) (hm : X.mg x = some (.ref A)) (hd : (x == ("__debug__" : Str)) = false) (r : ClsEs X es vs us) (hs : starEach (.Name x p :: es) X.env = (false, eval (.Name x p) X.env) :: starEach es X.env) :
      ClsEs X (.Name x p :: es) (.ref A :: vs) (.ref A :: us)
  | bltn {x : Str} {p : Pos} {T : String} {es : List Expr} {vs : List V} {us : List Value} (hg : Gl X x) (hm : X.mg x = none) (hv : bootBuiltins x = some (.type T)) (hn : x ≠ "__name__") (hd : (x == ("__debug__" : Str)) = false) (r : ClsEs X es vs us)
      (hs : starEach (.Name x p :: es) X.env = (false, eval (.Name x p) X.env) :: starEach es X.env) : ClsEs X (.Name x p :: es) (.ty T :: vs) (.type T :: us)
theorem ClsEs.pa {es : List Expr} {vs : List V} {us : List Value} (h : ClsEs X es vs us) : PA X es (fun σ H Q => Q vs H) ∧ Paired ClsV vs us := by
  induction h with
  | nil => exact ⟨pa_imp pa_nil fun σ H Q q => q, .nil⟩
  | own hg hm hd r hs ih => exact ⟨pa_imp (pa_cons (pe_glob (v := .ref _) hg hm rfl hd) ih.1 hs) fun σ H Q q => q, .cons (.own _) ih.2⟩
  | bltn hg hm hv hn hd r hs ih => exact ⟨pa_imp (pa_cons (pe_bltn (v := .ty _) hg hm hv rfl hn hd) ih.1 hs) fun σ H Q q => q, .cons (.ty _) ih.2⟩
theorem xis_dict {a' : Addr} {od' : Option Addr} {c' : Nat} {fs : List (Str × D)} {v : V} (r : RepW W g H (.exc a' od' c' fs) v) : v = .ref a' ∧ ∃ dd, ∀ d, od' = some d → H d = some (.xd dd) := by
  obtain ⟨e, _, r2⟩ := r.exc
  refine ⟨e, ?_⟩
  cases od' with
  | none => exact ⟨[], fun d z => nomatch z⟩
  | some d =>
    obtain ⟨gs, _, h, _⟩ := r2 d rfl
    exact ⟨gs, fun d' z => by cases z; exact h⟩
theorem de_xis {b : Bool} {x : Str} {v : V} {u : Value} (cs : Csu W X a od c) (E : ExcC W.K (W.cls c)) (hg : Gl X "isinstance") (hm : X.mg "isinstance" = none) (hc : ClsEs X [.Name x p1] [v] [u]) (ek : PySem.W.kitOne W.K (.ref (W.cls c)) u = some b) (ha : DE W Wx X o φ)
    (he : starEach (o :: [.Name x p1]) X.env = (false, eval o X.env) :: starEach [.Name x p1] X.env := by rfl) : DE W Wx X (.Call (.Name "isinstance" p0) [o, .Name x p1] [] pos) (e1 (pXis a od c b) φ) := by
  obtain ⟨hpa, hpr⟩ := hc.pa
  have hcv : ClsV v u := by cases hpr; assumption
  refine de_1 (r := fun y H Q => rXis W a od c [y, v] H Q) ha ?_ fun ta h => pe_imp (pe_callB (call_xis cs E) hg hm (by rfl) (pa_cons h hpa he) (by decide) (by decide) he (by rfl)) fun σ H Q q => q
  intro C g H vh dx y Q h rx q s
  cases dx with
  | exc a' od' c' fs =>
    simp only [pXis] at s q
    split at s
    · rename_i hh
      obtain ⟨rfl, rfl, rfl⟩ := hh
      rw [if_pos ⟨rfl, rfl, rfl⟩] at q
      obtain ⟨e1, e2⟩ := xis_dict rx
      exact ⟨v, u, b, by rw [e1], e2, .inl ⟨hcv, ek⟩, q _ rfl g H _ h (Ext.refl g H) (by simp only [RepE, Rep])⟩
    · cases s
  | _ => cases s
theorem de_xisT {b : Bool} {es : List Expr} {kc : Nat} {vs : List V} {us : List Value} (cs : Csu W X a od c) (E : ExcC W.K (W.cls c)) (hg : Gl X "isinstance") (hm : X.mg "isinstance" = none) (hc : ClsEs X es vs us) (hl : vs.length ≤ sizeLine) (ek : PySem.W.kitAny W.K (.ref (W.cls c)) us = some b)
    (ha : DE W Wx X o φ) (he : starEach (o :: [.Tuple es kc p1]) X.env = (false, eval o X.env) :: starEach [.Tuple es kc p1] X.env := by rfl) (he2 : starEach [.Tuple es kc p1] X.env = (false, eval (.Tuple es kc p1) X.env) :: starEach [] X.env := by rfl) :
    DE W Wx X (.Call (.Name "isinstance" p0) [o, .Tuple es kc p1] [] pos) (e1 (pXis a od c b) φ) := by
  obtain ⟨hpa, hpr⟩ := hc.pa
  refine de_1 (r := fun y H Q => vs.length ≤ sizeLine ∧ ∀ p, H p = none → rXis W a od c [y, .ref p] (upd H p (.tup vs)) Q) ha ?_ fun ta h => pe_imp (pe_callB (call_xis cs E) hg hm (by rfl) (pa_cons h (pa_cons (pe_tup hpa) pa_nil he2) he) (by decide) (by decide) he (by rfl)) fun σ H Q q => q
  intro C g H vh dx y Q h rx q s
  refine ⟨hl, fun p np => ?_⟩
  cases dx with
  | exc a' od' c' fs =>
    simp only [pXis] at s q
    split at s
    · rename_i hh
      obtain ⟨rfl, rfl, rfl⟩ := hh
      rw [if_pos ⟨rfl, rfl, rfl⟩] at q
      obtain ⟨e1, dd, e2⟩ := xis_dict rx
      exact ⟨.ref p, .none, b, by rw [e1], ⟨dd, fun d z => by rw [upd_ne (ne_of_none (e2 d z) np)]; exact e2 d z⟩, .inr ⟨p, vs, us, rfl, upd_same, hpr, ek⟩, q _ rfl g _ _ (h.new np) (Ext.new h np) (by simp only [RepE, Rep])⟩
    · cases s
  | _ => cases s
end
end
end PM

/-! PM51: ==, repr where an exception is handled; checks of exception classes. -/
namespace PM
open PySem PySem.Spec PyProof.Rows L2
noncomputable section
section
variable {W : Wd} {C : Con} {Wx : WX} {X : Cx} {g g0 : Gh} {H H0 : Hp} {σ : L2.St} {sl : Sl} {vh : VH} {φ : EF} {a : Expr} {pos p0 : Pos}
theorem c_eqU (hK : X.K = W.K) (hu : X.A.units + 100 < cLine) : CmpOk W X .Eq opEq := ⟨_, op_eq.or (op_eqD (by omega)), by
  intro C g H vh dx dy x y Q h rx ry q s
  unfold opEq at s q
  cases e : eqD dx dy with
  | none => rw [e] at s; cases s
  | some b =>
    rw [e] at q
    have q' : Q (.bl b) H := q _ rfl g H _ h (Ext.refl g H) (by simp [RepE, Rep])
    rcases eqD_some e with ⟨u, v, e1, e2, e3, rfl⟩ | e
    · rw [rx.sc e1, ry.sc e2]
      exact .inl ⟨e3, q'⟩
    · obtain ⟨p, p', e1, e2, s1, s2, rfl⟩ := eqDeep_some e
      rw [hK]
      exact .inr ⟨p, p', rx.dp e1, ry.dp e2, s1, s2, q'⟩⟩
theorem de_reprU (hK : X.K = W.K) (hu : X.A.units + 100 < cLine) (hgd : X.A.guards = some []) (hg : Gl X "repr") (hm : X.mg "repr" = none) (ha : DE W Wx X a φ) (he : starEach (a :: []) X.env = (false, eval a X.env) :: starEach [] X.env := by rfl) :
    DE W Wx X (.Call (.Name "repr" p0) [a] [] pos) (e1 bRepr φ) := de_b1 (call_reprX (by omega) hgd) (p_repr hK) hg hm ha (he := he)
end
/-- the classes' answers to a clause: all of n .. m are exceptions, none under another one -/
def xmT (n m c : Nat) : Nat → Option Bool := fun c' => if n ≤ c' ∧ c' < m then some (c' == c) else none
theorem xm_of {K : PySem.W.Frag} {cls : Nat → Addr} {n m c : Nat} (h : ∀ c', n ≤ c' → c' < m → PySem.W.exmOne K (.ref (cls c')) (.ref (cls c)) = some (c' == c)) : ∀ c' v, xmT n m c c' = some v → PySem.W.exmOne K (.ref (cls c')) (.ref (cls c)) = some v := by
  intro c' v e
  unfold xmT at e
  split at e
  · rename_i hh
    rw [← e]
    exact h c' hh.1 hh.2
  · cases e
@[simp] theorem xmT_self {n m c : Nat} (h : n ≤ c ∧ c < m) : xmT n m c c = some true := by simp [xmT, h]
def eccB (C : Addr) (K : PySem.W.Frag) : Bool := decide (PySem.W.findIn K (.ref C) "__getattribute__" = some (some (.builtin "BaseException.__getattribute__"))) && (decide (PySem.W.findIn K (.ref C) "__getattr__" = some none) && (decide (PySem.W.subIn K (.ref C) (.type "BaseException") = some true) &&
  (PySem.W.hasDictIn K C && (decide (PySem.W.findIn K (.ref C) "__class__" = some (some (.builtin "object.__class__"))) && (decide (PySem.W.specialIn K (.builtin "object.__class__") "__get__" = some (some (.builtin "getset_descriptor.__get__"))) &&
  (decide (PySem.W.takesIn K (.builtin "object.__class__") = some true) && decide (PySem.W.mroIn K C (.type "object") = some true)))))))
theorem ecc_of {K : PySem.W.Frag} {C : Addr} (h : eccB C K = true) : ExcC K C := by
  obtain ⟨h1, h⟩ := Bool.and_eq_true_iff.mp h
  obtain ⟨h2, h⟩ := Bool.and_eq_true_iff.mp h
  obtain ⟨h3, h⟩ := Bool.and_eq_true_iff.mp h
  obtain ⟨h4, h⟩ := Bool.and_eq_true_iff.mp h
  obtain ⟨h5, h⟩ := Bool.and_eq_true_iff.mp h
  obtain ⟨h6, h⟩ := Bool.and_eq_true_iff.mp h
  obtain ⟨h7, h8⟩ := Bool.and_eq_true_iff.mp h
  exact ⟨of_decide_eq_true h1, of_decide_eq_true h2, of_decide_eq_true h3, h4, of_decide_eq_true h5, of_decide_eq_true h6, of_decide_eq_true h7, of_decide_eq_true h8⟩
def kitB1 (C : PySem.W.Frag → Value) (u : PySem.W.Frag → Value) (b : Bool) (K : PySem.W.Frag) : Bool := decide (PySem.W.kitOne K (C K) (u K) = some b)
theorem kit1_of {C u : PySem.W.Frag → Value} {b : Bool} {K : PySem.W.Frag} (h : kitB1 C u b K = true) : PySem.W.kitOne K (C K) (u K) = some b := of_decide_eq_true h
def kitBA (C : PySem.W.Frag → Value) (u : PySem.W.Frag → List Value) (b : Bool) (K : PySem.W.Frag) : Bool := decide (PySem.W.kitAny K (C K) (u K) = some b)
theorem kitA_of {C : PySem.W.Frag → Value} {u : PySem.W.Frag → List Value} {b : Bool} {K : PySem.W.Frag} (h : kitBA C u b K = true) : PySem.W.kitAny K (C K) (u K) = some b := of_decide_eq_true h
theorem exm_ok {K : PySem.W.Frag} {x y : Str} {b : Bool} (h : (He.Fa.exm x y b).ok K = true) : PySem.W.exmOne K (.ref (He.ga K x)) (.ref (He.ga K y)) = some b := of_decide_eq_true h
theorem noat_at {K : PySem.W.Frag} {x f : Str} (h : (He.Fa.noat x f).ok K = true) : PySem.W.findIn K (.ref (He.ga K x)) f = some none := He.eqO_ok h
end
end PM

/-! PM52: sum, pop, x += e, enumerate of lists and tuples. -/
namespace PM
open PySem L2
noncomputable section
/-! ### sum of whole numbers -/
def intsD : List D → Option (List Int)
  | [] => some []
  | .int i :: r => (intsD r).map (i :: ·)
  | _ => none
def bSum : D → Option EV
  | .lst xs => (intsD xs).map fun ns => .v (.int ns.sum)
  | .scr ns => some (.v (.int ns.sum))
  | _ => none
section
variable {W : Wd} {C : Con} {Wx : WX} {X : Cx} {k : Nat} {g g0 : Gh} {H H0 : Hp} {σ : L2.St} {sl : Sl} {vh : VH} {φ ψ χ : EF} {α : AF} {e a b o : Expr} {p0 pos apos cpos : Pos}
theorem reps_intsD : ∀ {xs : List D} {vs : List V} {ns : List Int}, Reps W g H xs vs → intsD xs = some ns → vs = ns.map V.int
  | [], vs, ns, r, e => by simp only [Reps] at r; subst r; cases e; rfl
  | x :: xs, vs, ns, r, e => by
    simp only [Reps] at r
    obtain ⟨v, s, rfl, h1, h2⟩ := r
    cases x with
    | int i =>
      simp only [intsD] at e
      obtain ⟨ms, e1, rfl⟩ := Option.map_eq_some_iff.mp e
      simp only [Rep] at h1
      rw [h1, reps_intsD h2 e1]
      rfl
    | _ => cases e
theorem p_sum (hK : X.K = W.K) : Prim1 W X (fun x H Q => rSum X.K [x] H Q) bSum := by
  intro C g H vh dx x Q h rx q s
  cases dx with
  | lst xs =>
    simp only [bSum] at s q
    cases e : intsD xs with
    | none => rw [e] at s; cases s
    | some ns =>
      rw [e] at q
      obtain ⟨a, vs, rfl, h1, r1⟩ := rx.lst
      have := reps_intsD r1 e
      subst this
      exact ⟨a, ns, rfl, SqL.of h1, q _ rfl g H _ h (Ext.refl g H) (by simp only [RepE, Rep])⟩
  | scr ns =>
    obtain ⟨a, rfl, h1⟩ := rx.scr
    exact ⟨a, ns, rfl, by rw [hK]; exact h1, q _ rfl g H _ h (Ext.refl g H) (by simp only [RepE, Rep])⟩
  | _ => cases s
theorem de_sum (hK : X.K = W.K) (hc : X.calm = true) (hg : Gl X "sum") (hm : X.mg "sum" = none) (ha : DE W Wx X a φ) (he : starEach (a :: []) X.env = (false, eval a X.env) :: starEach [] X.env := by rfl) : DE W Wx X (.Call (.Name "sum" p0) [a] [] pos) (e1 bSum φ) :=
  de_b1 (cr_sum hc) (p_sum hK) hg hm ha (he := he)

/-! ### pop -/
def mPop : MP := fun d ds vh => match d, ds with
  | .ref n, [] => (match vh[n]? with
    | some (.lst xs) => match xs[xs.length - 1]? with
      | some y => some (.v y, vh.set n (.lst xs.dropLast))
      | none => none
    | _ => none)
  | _, _ => none
def mPopAt : MP := fun d ds vh => match d, ds with
  | .ref n, [.int i] => (match vh[n]? with
    | some (.lst xs) => if -(2 ^ 63) ≤ i ∧ i < 2 ^ 63 then (match seqIndex? i xs.length with
      | some k => match xs[k]? with
        | some y => some (.v y, vh.set n (.lst (xs.eraseIdx k)))
        | none => none
      | none => none) else none
    | _ => none)
  | _, _ => none
theorem Reps.dropLast {xs : List D} {vs : List V} (r : Reps W g H xs vs) : Reps W g H xs.dropLast vs.dropLast := by
  rw [List.dropLast_eq_take, List.dropLast_eq_take, r.length]
  exact r.take _
theorem Reps.erase : ∀ {xs : List D} {vs : List V} (k : Nat), Reps W g H xs vs → Reps W g H (xs.eraseIdx k) (vs.eraseIdx k)
  | [], vs, k, r => by simp only [Reps] at r; subst r; simp [Reps]
  | x :: xs, vs, 0, r => by
    simp only [Reps] at r
    obtain ⟨v, s, rfl, h1, h2⟩ := r
    simpa using h2
  | x :: xs, vs, k + 1, r => by
    simp only [Reps] at r
    obtain ⟨v, s, rfl, h1, h2⟩ := r
    simp only [List.eraseIdx_cons_succ, Reps]
    exact ⟨v, _, rfl, h1, Reps.erase k h2⟩
theorem pm_pop : PrimM W X rPop mPop := by
  intro C g H vh d ds x xs Q h rx rs q s
  unfold mPop at s q
  cases d with
  | ref n =>
    cases ds with
    | nil =>
      simp only [Reps] at rs
      subst rs
      simp only [Rep] at rx
      obtain ⟨hn, rfl⟩ := rx
      dsimp only at s q
      cases en : vh[n]? with
      | none => rw [en] at s; cases s
      | some o =>
        rw [en] at s q
        cases o with
        | lst zs =>
          dsimp only at s q
          cases ey : zs[zs.length - 1]? with
          | none => rw [ey] at s; cases s
          | some y =>
            rw [ey] at q
            obtain ⟨vs, h1, r1⟩ := h.vh n _ en
            obtain ⟨v, hv, rv⟩ := r1.get ey
            have xw := Ext.write (u := .lst vs.dropLast) h hn
            refine ⟨_, vs, v, rfl, rfl, h1, by rw [← r1.length]; exact hv, ?_⟩
            exact q _ _ rfl g _ _ (h.write hn ⟨_, upd_same, Reps.mono xw _ _ r1.dropLast⟩) xw (Rep.mono xw _ _ rv)
        | _ => cases s
    | cons _ _ => cases s
  | _ => cases s
theorem pm_popAt : PrimM W X rPopAt mPopAt := by
  intro C g H vh d ds x xs Q h rx rs q s
  unfold mPopAt at s q
  cases d with
  | ref n =>
    rcases ds with _ | ⟨y, _ | ⟨y2, ds⟩⟩
    · cases s
    · cases y with
      | int i =>
        simp only [Reps] at rs
        obtain ⟨v, _, rfl, ry, rfl⟩ := rs
        simp only [Rep] at ry
        subst ry
        simp only [Rep] at rx
        obtain ⟨hn, rfl⟩ := rx
        dsimp only at s q
        cases en : vh[n]? with
        | none => rw [en] at s; cases s
        | some o =>
          rw [en] at s q
          cases o with
          | lst zs =>
            dsimp only at s q
            split at s
            · rename_i hi
              rw [if_pos hi] at q
              cases ek : seqIndex? i zs.length with
              | none => rw [ek] at s; cases s
              | some k =>
                rw [ek] at s q
                dsimp only at s q
                cases ey : zs[k]? with
                | none => rw [ey] at s; cases s
                | some y =>
                  rw [ey] at q
                  obtain ⟨vs, h1, r1⟩ := h.vh n _ en
                  obtain ⟨v, hv, rv⟩ := r1.get ey
                  have xw := Ext.write (u := .lst (vs.eraseIdx k)) h hn
                  refine ⟨_, vs, i, k, v, rfl, rfl, h1, hi.1, hi.2, by rw [← r1.length]; exact ek, hv, ?_⟩
                  exact q _ _ rfl g _ _ (h.write hn ⟨_, upd_same, Reps.mono xw _ _ (r1.erase k)⟩) xw (Rep.mono xw _ _ rv)
            · cases s
          | _ => cases s
      | _ => cases s
    · cases y <;> cases s
  | _ => cases s
theorem de_pop (hK : X.K = W.K) (ho : DE W Wx X o φ) (hbase : attributeBase o "pop" X.env (eval o X.env) = eval o X.env := by rfl) (hline : (apos.endLine == cpos.line) = true := by rfl) :
    DE W Wx X (.Call (.Attribute o "pop" apos) [] [] cpos) (eM "list" mPop φ aNil) := de_bm0 hK PySem.F.plainAttrs_list PySem.F.slot_list_pop PySem.F.type_list_pop mt_pop pm_pop ho hbase hline
theorem de_popAt (hK : X.K = W.K) (ho : DE W Wx X o φ) (ha : DA W Wx X [a] α)
    (hbase : attributeBase o "pop" X.env (eval o X.env) = eval o X.env := by rfl)
    (hfew : ((backTo cpos (starEach (a :: []) X.env)).all (fun x => !x.1) && (backToKw cpos (keywordEach [] X.env)).all (fun x => x.1.isSome)
      && decide ((a :: []).length + ([] : List Keyword).length + (if ([] : List Keyword).isEmpty then 0 else 1) < 30)) = true := by rfl)
    (hline : (apos.endLine == cpos.line) = true := by rfl) (hs : starEach (a :: []) X.env = (false, eval a X.env) :: starEach [] X.env := by rfl) : DE W Wx X (.Call (.Attribute o "pop" apos) [a] [] cpos) (eM "list" mPopAt φ α) :=
  de_bm hK PySem.F.plainAttrs_list PySem.F.slot_list_pop PySem.F.type_list_pop mt_popAt pm_popAt ho ha hbase hfew hline hs
end
end
end PM

/-! PM53: enumerate of lists and tuples; x += e. -/
namespace PM
open PySem PySem.Spec L2
noncomputable section
/-! ### enumerate of a tuple -/
set_option maxHeartbeats 1000000 in
theorem enum_new1 {v : Value} {o : Obj} {P : Heap → Prop} (B : Begins v o P) : Meets (Builtin.«enumerate.__new__» ⟨[.type "enumerate", v], []⟩) (fun _ R s => P s.heap ∧
      R (.ok (.ret (.ref (s.heap.push o).objs.size))) { s with heap := (s.heap.push o).push { cls := .type "enumerate", data := .fields #[.none, .bool false, .ref s.heap.objs.size, rawInt 0, .none, .none] } }) :=
  .of_wp fun prog w A R s ⟨hP, hR⟩ => by
    obtain ⟨hp, gs, dr, tk, os⟩ := s
    have sub1 := sub_enumerate
    have it1 : ∀ {A' : Around} {E : Value → Shared → Prop} {Q : Value → Shared → Prop}, Q (.ref hp.objs.size) ⟨hp.push o, gs, dr, tk, os⟩ → wpAny (model prog w) A' (pyIter v) Q E ⟨hp, gs, dr, tk, os⟩ := fun q => B.iter prog w _ _ ⟨hp, gs, dr, tk, os⟩ _ hP q
    wp_walk using it1
    refine wpAny_stack_any fun _ => wpAny_pure ?_
    split
    · rename_i c _ _ _ _ _
      cases (c == Value.type "enumerate") <;> (wp_walk using it1) <;> exact ⟨_, rfl, hR⟩
    · wp_walk using it1
      exact ⟨_, rfl, hR⟩
theorem call_enum1 {prog : Program} {w : World} {A : Around} {E : Value → Shared → Prop} {s : Shared} {v : Value} {o : Obj} {P : Heap → Prop} {Q : Value → Shared → Prop} (B : Begins v o P) (h1 : P s.heap)
    (h : ∀ h', IsEnum h' (s.heap.objs.size + 1) s.heap.objs.size 0 .none → h'.get? s.heap.objs.size = some o → h'.objs.size = s.heap.objs.size + 2 → (∀ b u, s.heap.get? b = some u → h'.get? b = some u) → Q (.ref (s.heap.objs.size + 1)) { s with heap := h' }) :
    wpAny (model prog w) A (call (.type "enumerate") [v]) Q E s := by
  refine callType_new F.called_enumerate (by decide) (F.typeCall_enumerate_1 _) (F.newCall_enumerate_1 _) (fun y => F.args_object_init_2 y _) F.entry_enumerate_new (enum_new1 B) ⟨h1, ?_⟩
  have sz : (s.heap.push o).objs.size = s.heap.objs.size + 1 := Heap.size_push ..
  show _ ∧ _
  rw [sz]
  have g1 : IsEnum ((s.heap.push o).push { cls := .type "enumerate", data := .fields #[.none, .bool false, .ref s.heap.objs.size, rawInt 0, .none, .none] }) (s.heap.objs.size + 1) s.heap.objs.size 0 .none := by
    rw [← sz]
    exact Heap.get?_push_size _ rfl
  exact ⟨⟨_, g1, rfl⟩, h _ g1 (Heap.get?_push_of_some _ (Heap.get?_push_size _ B.free)) (by rw [Heap.size_push, sz]) fun b u x => Heap.get?_push_of_some _ (Heap.get?_push_of_some _ x)⟩
/-- the tuple at a, each item in a new pair with its number -/
def IteT (K : PySem.W.Frag) (a : Addr) : It :=
  ⟨fun i H => ∃ (xs : List V) (x : V), SqT K H a xs ∧ xs[i]? = some x, fun i H v H' => ∃ T x, v = .ref T ∧ H T = none ∧ H' = upd H T (.tup [.int (i : Nat), x]) ∧ ∀ xs, SqT K H a xs → xs[i]? = some x, fun i H => ∃ xs : List V, SqT K H a xs ∧ xs.length ≤ i⟩
theorem turn_enumT {P : Program} {w : World} {K : PySem.W.Frag} {elts : List Expr} {kk : Nat} {tpos : Pos} (a e it : Addr) :
    Turn P w K (.Tuple elts kk tpos) (IteT K a) [e, it] e (fun i h => (∃ old, IsEnum h e it ((i : Nat) : Int) old) ∧ h.IsTupleIter it a i ∧ e ≠ it ∧ e ≠ a ∧ a ≠ it) where
  mem := List.mem_cons_self ..
  obj := by
    rintro i h ⟨⟨old, e1⟩, ⟨o, o1, _, o2⟩, _⟩ b hb
    rcases List.mem_cons.mp hb with rfl | hb
    · exact ⟨_, e1, fun v z => nomatch z⟩
    · rcases List.mem_cons.mp hb with rfl | hb
      · exact ⟨o, o1, fun v z => by rw [o2] at z; cases z⟩
      · cases hb
  keep := by
    rintro i h h' ⟨⟨old, e1⟩, t1, n1⟩ k
    exact ⟨⟨old, k e (by simp) _ e1⟩, t1.at fun o z => k it (by simp) o z, n1⟩
  item := by
    rintro X rfl rfl rfl hc i pins s σ H E I hf ⟨⟨old, e1⟩, t1, n1, n2, n3⟩ ⟨xs, x, sq, hx⟩
    obtain ⟨its, rv, tu, _⟩ := I.tuple sq
    obtain ⟨u, hu, ru⟩ := rv.get hx
    have DD := Draws.tuple (prog := X.prog) (w := X.w) (A := X.A.in1) (I.ok.hd hc) it a n3 its.toArray
    have hlt : i < its.toArray.size := by
      have := (List.getElem?_eq_some_iff.mp hu).1
      simpa using this
    have el : e < s.heap.objs.size := Heap.lt_size e1
    have il : it < s.heap.objs.size := by
      obtain ⟨_, z, _⟩ := t1
      exact Heap.lt_size z
    refine wpAny_pyNext_enum_itemC DD e1 ⟨t1, tu⟩ hlt n1 (by simp [n1, n2]) fun y h1 tk hy e2 t2 hT hsz kp => ?_
    obtain rfl : y = u := by
      have hy' : its[i]? = some y := by simpa using hy
      rw [hu] at hy'
      exact (Option.some.inj hy').symm
    refine ⟨_, rfl, wpAny_letOwnedTupleGo_enum (s := { s with heap := h1, toks := tk + 1 }) e2 fun h2 e3 sb => ?_⟩
    have hT2 : h2.get? s.heap.objs.size = some { cls := .type "tuple", data := .seq #[.int i tk, y] } := (sb.2 _ (Nat.ne_of_gt el)).trans hT
    have ob : ObjOk X.prog X.w (upd H s.heap.objs.size (.tup [.int (i : Nat), x])) h2 s.heap.objs.size (.tup [.int (i : Nat), x]) := by
      refine ⟨?_, [.int i tk, y], .cons ⟨_, rfl⟩ (.cons ru .nil), _, hT2, rfl, _, rfl⟩
      show 2 ≤ sizeLine
      decide
    have J : Inv X pins σ (upd H s.heap.objs.size (.tup [.int (i : Nat), x])) { s with heap := h2, toks := tk + 1 } :=
      I.turnedNew (ch := [e, it]) (fun b o nb z => (sb.2 b fun q => nb (by simp [q])).trans (kp b o (fun q => nb (by simp [q])) (fun q => nb (by simp [q])) z)) hf (Nat.le_refl _) ob
    refine ⟨.ref s.heap.objs.size, _, J, rfl, ⟨_, x, rfl, I.hok.fresh (Nat.le_refl _), rfl, fun ys sy => by rw [I.tuple_inj sy sq]; exact hx⟩, ⟨⟨y, ?_⟩, t2.1.at fun o z => (sb.2 it n1.symm).trans z, n1, n2, n3⟩, fun b hb => ?_⟩
    · rw [show ((i + 1 : Nat) : Int) = (i : Int) + 1 by omega]
      exact e3
    · have bl : b < s.heap.objs.size := by
        rcases List.mem_cons.mp hb with rfl | hb
        · exact el
        · rcases List.mem_cons.mp hb with rfl | hb
          · exact il
          · cases hb
      rw [upd_ne (Nat.ne_of_lt bl)]
      exact (hf b hb).1
  done := by
    rintro X rfl rfl rfl hc i pins s σ H E I hf ⟨⟨old, e1⟩, t1, n1, n2, n3⟩ ⟨xs, sq, hx⟩
    obtain ⟨its, rv, tu, _⟩ := I.tuple sq
    obtain ⟨f0, f1, f2, f3, f4, f5⟩ := hf it (by simp)
    have hn : its.toArray.size ≤ i := by
      have := rv.length
      simp only [List.size_toArray]
      omega
    have DD : Draws X.prog X.w X.A.in1 it [it, a] 0 (fun _ _ => False) (fun _ h => h.IsTupleIter it a i ∧ h.IsTuple a its.toArray) := by
      have D0 := Draws.tuple (prog := X.prog) (w := X.w) (A := X.A.in1) (I.ok.hd hc) it a n3 its.toArray
      exact ⟨fun j h st => D0.live i h st, fun j h h' st k => D0.frame i h h' st k, fun j s Q E hj => absurd hj (Nat.not_lt_zero j), fun s Q E st hE => wpAny_nextOf_tuple_end (I.ok.hd hc) st.1 st.2 (by simpa using hn) hE⟩
    exact wpAny_pyNext_enum_endD DD e1 ⟨t1, tu⟩ fun h1 eb => ⟨rfl, I.turned (t' := s.toks) (fun b o hb z => eb b o hb z) f0 f1 f3 f4 f5⟩
  self := fun A i s Q E st h => wpAny_pyIter_enum st.1.choose_spec h
/-- enumerate(e), e a list or a tuple -/
def iEnumA (K : PySem.W.Frag) (ta : TA) : TI := fun σ H R => ta σ H fun vs H1 => ∃ a xs, vs = [.ref a] ∧ ((SqL K H1 a xs ∧ R (Ite K a) H1) ∨ (SqT K H1 a xs ∧ R (IteT K a) H1))
theorem pi_enumA {X : Cx} {e : Expr} {ta : TA} {p pos tpos : Pos} {elts : List Expr} {kk : Nat} (hg : Gl X "enumerate") (hm : X.mg "enumerate" = none) (ha : PA X [e] ta) (hs : starEach [e] X.env = [(false, eval e X.env)] := by rfl) :
    PI X (.Tuple elts kk tpos) (.Call (.Name "enumerate" p) [e] [] pos) (iEnumA X.K ta) := by
  constructor
  intro pins s σ H R I h
  refine PyProof.Rows.Call_ (ld_blt I hg hm PyProof.Rows.boot_enumerate (PyProof.Rows.callWith_type1 (thn (ha.run pos pins s σ H _ I h) fun us s1 hh => ?_) hs rfl))
  obtain ⟨vs, H1, I1, rv, a, xs, rfl, hq⟩ := hh
  match us, rv with
  | [_], .cons r .nil =>
    cases r
    have fresh : ∀ b, b ∈ [s1.heap.objs.size + 1, s1.heap.objs.size] → s1.heap.objs.size ≤ b := by
      intro b hb
      rcases List.mem_cons.mp hb with rfl | hb
      · exact Nat.le_succ _
      · rw [List.mem_singleton.mp hb]
        exact Nat.le_refl _
    rcases hq with ⟨sq, q⟩ | ⟨sq, q⟩
    · obtain ⟨its, _, li, _⟩ := I1.list sq
      refine call_enum1 (begins_list a its.toArray) li.isList fun h1 e1 o1 sz kp => wpAny_pyIter_enum e1 ?_
      refine ⟨s1.heap.objs.size + 1, [s1.heap.objs.size + 1, s1.heap.objs.size], _, _, H1, rfl, I1.kept (t' := s1.toks) kp, turn_enum a (s1.heap.objs.size + 1) s1.heap.objs.size, ⟨⟨.none, e1⟩, ⟨_, o1, rfl, rfl⟩, Nat.succ_ne_self _⟩, fun b hb => ?_, q⟩
      exact I1.fpOk (fresh b hb) (I1.hok.fresh (fresh b hb))
    · obtain ⟨its, _, li, _⟩ := I1.tuple sq
      have la : a < s1.heap.objs.size := by
        obtain ⟨_, z, _⟩ := li
        exact Heap.lt_size z
      refine call_enum1 (begins_tuple a its.toArray) li fun h1 e1 o1 sz kp => wpAny_pyIter_enum e1 ?_
      refine ⟨s1.heap.objs.size + 1, [s1.heap.objs.size + 1, s1.heap.objs.size], _, _, H1, rfl, I1.kept (t' := s1.toks) kp, turn_enumT a (s1.heap.objs.size + 1) s1.heap.objs.size, ⟨⟨.none, e1⟩, ⟨_, o1, rfl, rfl⟩, Nat.succ_ne_self _, ?_, ?_⟩, fun b hb => ?_, q⟩
      · exact Nat.ne_of_gt (Nat.lt_succ_of_lt la)
      · exact Nat.ne_of_lt la
      · exact I1.fpOk (fresh b hb) (I1.hok.fresh (fresh b hb))
/-! ### by denotations -/
def enu (xs : List D) : List D := xs.mapIdx fun i x => D.tup [.int (i : Nat), x]
theorem enu_get (xs : List D) (i : Nat) : (enu xs)[i]? = (xs[i]?).map fun x => D.tup [.int (i : Nat), x] := by
  unfold enu
  rw [List.getElem?_mapIdx]
@[simp] theorem enu_len (xs : List D) : (enu xs).length = xs.length := by simp [enu]
def enumIV (vh : VH) (d : D) : Option IV := match d with
  | .tup xs => some ⟨enu xs, none⟩
  | d => (zlOf vh d).map fun iv => ⟨enu iv.items, iv.gd⟩
def iEnumD (α : AF) : IF := fun sl vh => match α sl vh with
  | .ok [d] vh' => (match enumIV vh' d with
    | some iv => .ok iv vh'
    | none => .bad)
  | .ok _ _ => .bad
  | .exc x vh' => .exc x vh'
  | .bad => .bad
section
variable {W : Wd} {C : Con} {Wx : WX} {X : Cx} {k : Nat} {g g0 g1 : Gh} {H H0 H1 : Hp} {σ : L2.St} {sl : Sl} {vh : VH} {α : AF} {a b tg e : Expr} {φ : EF}
theorem yi_enumL {K : PySem.W.Frag} {p : Addr} {xs : List D} {gd : Option (Nat × O)} (h1 : StyL W K p xs gd g1 H1) : YI W (Ite K p) (enu xs) gd g1 H1 := by
  intro C i g vh H h x hg
  obtain ⟨vs, s1, r1⟩ := h1 C g vh H h x hg
  refine ⟨fun hi => ⟨vs, s1, by rw [enu_len, r1.length] at hi; exact hi⟩, fun d hd => ?_⟩
  rw [enu_get] at hd
  obtain ⟨d1, e1, rfl⟩ := Option.map_eq_some_iff.mp hd
  obtain ⟨v, hv, rv⟩ := r1.get e1
  refine ⟨⟨vs, v, s1, hv⟩, ?_⟩
  rintro z H' ⟨T, x1, rfl, nT, rfl, q1⟩
  have e3 := q1 vs s1
  rw [hv] at e3
  cases e3
  obtain ⟨a1, b1, c1⟩ := new_tup (xs := [.int (i : Nat), d1]) h nT (Reps.cons (show Rep W g H (.int (i : Nat)) (.int (i : Nat)) by simp only [Rep]) (Reps.one rv))
  exact ⟨_, a1, b1, c1⟩
theorem yi_enumT {K : PySem.W.Frag} {p : Addr} {xs : List D} (h1 : StyT W K p xs g1 H1) : YI W (IteT K p) (enu xs) none g1 H1 := by
  intro C i g vh H h x hg
  obtain ⟨vs, s1, r1⟩ := h1 C g vh H h x
  refine ⟨fun hi => ⟨vs, s1, by rw [enu_len, r1.length] at hi; exact hi⟩, fun d hd => ?_⟩
  rw [enu_get] at hd
  obtain ⟨d1, e1, rfl⟩ := Option.map_eq_some_iff.mp hd
  obtain ⟨v, hv, rv⟩ := r1.get e1
  refine ⟨⟨vs, v, s1, hv⟩, ?_⟩
  rintro z H' ⟨T, x1, rfl, nT, rfl, q1⟩
  have e3 := q1 vs s1
  rw [hv] at e3
  cases e3
  obtain ⟨a1, b1, c1⟩ := new_tup (xs := [.int (i : Nat), d1]) h nT (Reps.cons (show Rep W g H (.int (i : Nat)) (.int (i : Nat)) by simp only [Rep]) (Reps.one rv))
  exact ⟨_, a1, b1, c1⟩
theorem enum_iv {iv : IV} {d : D} {v : V} (h : RelH W C g1 vh H1) (r : Rep W g1 H1 d v) (q : enumIV vh d = some iv) :
    ∃ a xs, v = V.ref a ∧ ((SqL W.K H1 a xs ∧ YI W (Ite W.K a) iv.items iv.gd g1 H1) ∨ (SqT W.K H1 a xs ∧ YI W (IteT W.K a) iv.items iv.gd g1 H1)) := by
  unfold enumIV at q
  split at q
  · cases q
    obtain ⟨p, vs, rfl, s1, t1⟩ := sty_tup r
    exact ⟨p, vs, rfl, .inr ⟨s1, yi_enumT t1⟩⟩
  · obtain ⟨i1, e1, rfl⟩ := Option.map_eq_some_iff.mp q
    obtain ⟨p, vs, rfl, s1, t1⟩ := sty_lst h r e1
    exact ⟨p, vs, rfl, .inl ⟨s1, yi_enumL t1⟩⟩
theorem di_enum {elts : List Expr} {kk : Nat} {tpos p pos : Pos} (hK : X.K = W.K) (hg : Gl X "enumerate") (hm : X.mg "enumerate" = none) (ha : DA W Wx X [a] α) (hs : starEach [a] X.env = [(false, eval a X.env)] := by rfl) :
    DI W Wx X (.Tuple elts kk tpos) (.Call (.Name "enumerate" p) [a] [] pos) (iEnumD α) := fun C =>
  pi_imp (pi_enumA hg hm (ha C) hs) fun σ H Q ⟨g, sl, vh, h, hs, q⟩ => by
    refine ⟨g, sl, vh, h, hs, ?_⟩
    unfold iEnumD at q
    cases r : α sl vh with
    | bad => rw [r] at q; exact q
    | exc x vh' => rw [r] at q; exact q
    | ok ds vh' =>
      rw [r] at q
      rcases ds with _ | ⟨d, _ | ⟨d2, ds⟩⟩
      · exact q.elim
      · intro g1 H1 v1 h1 s1 x1 r1
        simp only [Reps] at r1
        obtain ⟨v, _, rfl, rv, rfl⟩ := r1
        dsimp only at q
        cases ei : enumIV vh' d with
        | none => rw [ei] at q; exact q.elim
        | some iv =>
          rw [ei] at q
          obtain ⟨p, xs, rfl, hz⟩ := enum_iv h1 rv ei
          refine ⟨p, xs, rfl, ?_⟩
          rw [hK]
          rcases hz with ⟨z1, z3⟩ | ⟨z1, z3⟩
          · exact .inl ⟨z1, q g1 H1 _ h1 s1 x1 z3⟩
          · exact .inr ⟨z1, q g1 H1 _ h1 s1 x1 z3⟩
      · exact q.elim

/-! ### x += e of whole numbers -/
def sAugI (f : Int → Int → Int) (i : Nat) (φ : EF) : SF := fun sl vh => match sl[i]? with
  | some (some (.int x)) => (match φ sl vh with
    | .ok ev vh' => (match view vh' ev.d with
      | .int y => .nx (sl.set i (some (.int (f x y)))) vh'
      | _ => .bad)
    | .exc x vh' => .ex x sl vh'
    | .bad => .bad)
  | _ => .bad
theorem ds_augI {i : Nat} {x : Str} {pos pos' : Pos} {op : Operator} {f : Int → Int → Int} (hN : X.N.Nodup) (hi : X.N[i]? = some x) (hx : Loc X.env.scope x) (ho : PIp X op (ipI f)) (he : DE W Wx X e φ)
    (hf : X.fn x = true ∨ X.env.scope.names.lookup x = some .local := by first | exact .inl rfl | exact .inr rfl | assumption) : DS W Wx X (.AugAssign (.Name x pos') op e pos) (sAugI f i φ) := fun C =>
  ps_imp (ps_aug hN hi hx (he C) ho hf) fun En σ H ⟨g, sl, vh, h, hs, q⟩ => by
    unfold sAugI at q
    cases ex : sl[i]? with
    | none => rw [ex] at q; exact q.elim
    | some od =>
      rw [ex] at q
      match od, ex, q with
      | none, _, q => exact q.elim
      | some d, ex, q =>
        obtain ⟨v, e1, rv⟩ := hs.2 i d ex
        cases d with
        | int a =>
          dsimp only at q
          simp only [Rep] at rv
          subst rv
          refine ⟨_, e1, g, sl, vh, h, hs, ?_⟩
          cases r : φ sl vh with
          | bad => rw [r] at q; exact q
          | exc x vh' => rw [r] at q; exact fun g1 H1 c od a b d e => q g1 H1 σ c od a b d e
          | ok ev vh' =>
            rw [r] at q
            intro g1 H1 v1 h1 s1 x1 r1
            obtain ⟨g2, h2, x2, r2⟩ := r1.freeze h1
            have rw1 := h2.view r2
            dsimp only at q
            cases ev1 : view vh' ev.d with
            | int b =>
              rw [ev1] at q rw1
              exact ⟨a, b, rfl, rw1.int, q g2 H1 _ h2 ((s1.mono x2).set (by simp only [Rep])) (x1.trans x2)⟩
            | _ => rw [ev1] at q; exact q.elim
        | _ => exact q.elim
end
end
end PM

/-! PM54: {k: v for t in it if c}. -/
namespace PM
open PySem L2
noncomputable section
noncomputable def dcLoop (gd : Option (Nat × O)) (γ : GF) (τ : TF) (κ φ : EF) (sl : Sl) : List D → List (D × D) → VH → R (List (D × D))
  | [], acc, vh => if gdB gd vh = true then .ok acc vh else .bad
  | d :: ds, acc, vh => if gdB gd vh = true then (match γ d sl vh with
    | none => .bad
    | some (sl', vh1) => match τ sl' vh1 with
      | .ok true vh2 => (match κ sl' vh2 with
        | .ok kv vh3 => (match φ sl' vh3 with
          | .ok e vh4 => (match keyD kv.d with
            | some _ => if acc.length < lim then dcLoop gd γ τ κ φ sl ds (dput acc kv.d e.d) vh4 else .bad
            | none => .bad)
          | _ => .bad)
        | _ => .bad)
      | .ok false vh2 => dcLoop gd γ τ κ φ sl ds acc vh2
      | _ => .bad) else .bad
def eDc (ι : IF) (γ : GF) (τ : TF) (κ φ : EF) (vs : List Nat) : EF := fun sl vh => match ι sl vh with
  | .ok iv vh1 => (match dcLoop iv.gd γ τ κ φ (wipeS sl vs) iv.items [] vh1 with
    | .ok acc vh2 => .ok (.f (.dct acc)) vh2
    | _ => .bad)
  | .exc x vh' => .exc x vh'
  | .bad => .bad
section
variable {W : Wd} {C : Con} {Wx : WX} {X : Cx} {k : Nat} {g g0 : Gh} {H H0 : Hp} {σ : L2.St} {sl : Sl} {vh : VH} {φ ψ χ κ : EF} {δ ε : SF} {τ : TF} {pos : Pos} {e a b tg : Expr} {st : Stmt} {rest : List Stmt}
theorem RepKV.nilE : RepKV W g H [] [] := by simp only [RepKV]
theorem RepKV.lenKV : ∀ {kvs : List (D × D)} {ws : List (Key × V)}, RepKV W g H kvs ws → kvs.length = ws.length
  | [], ws, r => by simp only [RepKV] at r; subst r; rfl
  | (k, d) :: kvs, ws, r => by
    simp only [RepKV] at r
    obtain ⟨k', v, s, rfl, _, _, h⟩ := r
    simp [RepKV.lenKV h]
theorem dc_imp {ι : IF} {γ : GF} {ix vs : List Nat} {Q : VK} (hix : ∀ i ∈ ix, i ∈ vs) (h : RelH W C g vh H) (hs : RelS W g H sl σ) (q : PostE W C Wx g H σ sl (eDc ι γ τ κ φ vs sl vh) Q) :
    tDc (TDI W C Wx ι) (TDG W γ ix) (fun σ H Q => ∃ C, TDT W C WF τ σ H Q) (fun σ H Q => ∃ C, TDE W C WF κ σ H Q) (fun σ H Q => ∃ C, TDE W C WF φ σ H Q) vs σ H Q := by
  refine ⟨g, sl, vh, h, hs, ?_⟩
  unfold eDc at q
  cases r : ι sl vh with
  | bad => rw [r] at q; exact q
  | exc x vh' => rw [r] at q; exact q
  | ok iv vh1 =>
    rw [r] at q
    intro g1 H1 J h1 s1 x1 y1 D hD
    dsimp only at q
    obtain ⟨f1, f2, f3⟩ := h1.free hD
    have q : PostE W C Wx g H σ sl (match dcLoop iv.gd γ τ κ φ (wipeS sl vs) iv.items [] vh1 with | .ok acc vh2 => .ok (.f (.dct acc)) vh2 | _ => .bad) Q := q
    have p1 : Pend C g1 D := ⟨f1, f2, f3⟩
    refine ⟨fun i m H2 => m = iv.items.length - i ∧ i ≤ iv.items.length ∧ ∃ g2 vh2 acc vals, RelH W C g2 vh2 H2 ∧ Pend C g2 D ∧ Ext g1 H1 g2 H2 ∧ H2 D = some (.dK vals) ∧ RepKV W g2 H2 acc vals ∧
        PostE W C Wx g H σ sl (match dcLoop iv.gd γ τ κ φ (wipeS sl vs) (iv.items.drop i) acc vh2 with | .ok acc vh2 => .ok (.f (.dct acc)) vh2 | _ => .bad) Q,
      ⟨_, rfl, Nat.zero_le _, g1, vh1, [], [], h1.pend p1 (nx_none hD), p1, Ext.upd f1 (nx_none hD), upd_same, RepKV.nilE, by rw [List.drop_zero]; exact q⟩, ?_⟩
    rintro i m H2 ⟨rfl, hi, g2, vh2, acc, vals, h2, p2, x2, e2, r2, q2⟩
    by_cases hlt : i < iv.items.length
    · rw [List.drop_eq_getElem_cons hlt] at q2
      unfold dcLoop at q2
      by_cases hgd : gdB iv.gd vh2 = true
      · rw [if_pos hgd] at q2
        have hk := h2.keep p2 (by rw [e2]; exact fun z => by cases z)
        obtain ⟨_, yy⟩ := y1 _ i g2 vh2 H2 hk x2 hgd
        obtain ⟨go, yy⟩ := yy _ (List.getElem?_eq_getElem hlt)
        refine .inr ⟨go, fun H2 => ∃ g2 vh2 acc vals, RelH W C g2 vh2 H2 ∧ Pend C g2 D ∧ Ext g1 H1 g2 H2 ∧ H2 D = some (.dK vals) ∧ RepKV W g2 H2 acc vals ∧
          PostE W C Wx g H σ sl (match dcLoop iv.gd γ τ κ φ (wipeS sl vs) (iv.items.drop (i + 1)) acc vh2 with | .ok acc vh2 => .ok (.f (.dct acc)) vh2 | _ => .bad) Q,
          fun H' n => ⟨_, by omega, rfl, hlt, n⟩, fun x H3 hy => ?_⟩
        obtain ⟨g3, h3, x3, r3⟩ := yy x H3 hy
        have s3 : RelS W g3 H3 (wipeS sl vs) (wipe σ vs) := RelS.mono (x2.trans x3) (s1.wipe vs)
        refine ⟨_, g3, wipeS sl vs, vh2, _, h3, s3, r3, ?_⟩
        cases eg : γ iv.items[i] (wipeS sl vs) vh2 with
        | none => rw [eg] at q2; exact q2.elim
        | some p =>
          obtain ⟨sl4, vh4⟩ := p
          rw [eg] at q2
          dsimp only at q2
          intro g4 H4 σ4 h4 s4 x4 w4
          have w4' : wipe σ4 vs = wipe σ vs := by
            rw [w4 vs hix]
            have idem : ∀ (us ws : List Nat), (∀ i ∈ us, i ∈ ws) → wipe (wipe σ us) ws = wipe σ ws := fun us => by
              induction us with
              | nil => intro ws _; rfl
              | cons u us ih =>
                intro ws hw
                show wipe ((wipe σ us).set u none) ws = _
                rw [wipe_set (hw u (List.mem_cons_self ..)), ih ws fun i hi => hw i (List.mem_cons_of_mem _ hi)]
            exact idem vs vs fun i hi => hi
          refine ⟨w4', _, g4, sl4, vh4, h4, s4, ?_⟩
          cases et : τ sl4 vh4 with
          | bad => rw [et] at q2; exact q2.elim
          | exc x vh' => rw [et] at q2; exact q2.elim
          | ok bb vh5 =>
            rw [et] at q2
            intro g5 H5 h5 s5 x5
            have xx := ((x2.trans x3).trans x4).trans x5
            have xy := (x3.trans x4).trans x5
            cases bb with
            | false =>
              rw [if_neg Bool.false_ne_true]
              obtain ⟨h6, p6, e6⟩ := h2.unkeep p2 h5
              exact ⟨g5, vh5, acc, vals, h6, p6, xx, e6.trans e2, RepKV.mono xy _ _ r2, q2⟩
            | true =>
              rw [if_pos rfl]
              refine ⟨_, g5, sl4, vh5, h5, s5, ?_⟩
              dsimp only at q2
              cases ek : κ sl4 vh5 with
              | bad => rw [ek] at q2; exact q2.elim
              | exc x vh' => rw [ek] at q2; exact q2.elim
              | ok kv vh6 =>
                rw [ek] at q2
                dsimp only at q2
                intro g6 H6 v6 h6 s6 x6 r6
                obtain ⟨g7, h7, x7, r7⟩ := r6.freeze h6
                refine ⟨_, g7, sl4, vh6, h7, RelS.mono (x6.trans x7) s5, ?_⟩
                cases ee : φ sl4 vh6 with
                | bad => rw [ee] at q2; exact q2.elim
                | exc x vh' => rw [ee] at q2; exact q2.elim
                | ok ev vh8 =>
                  rw [ee] at q2
                  dsimp only at q2
                  cases eky : keyD kv.d with
                  | none => rw [eky] at q2; exact q2.elim
                  | some ky =>
                    rw [eky] at q2
                    dsimp only at q2
                    by_cases hlim : acc.length < lim
                    · rw [if_pos hlim] at q2
                      intro g8 H8 v8 h8 s8 x8 r8
                      obtain ⟨g9, h9, x9, r9⟩ := r8.freeze h8
                      obtain ⟨ha, pa, ea⟩ := h2.unkeep p2 h9
                      have xz := ((xy.trans (x6.trans x7)).trans (x8.trans x9))
                      have xu := Ext.upd (H := H8) (u := .dK (putK vals ky v8)) pa.nf (nx_dK (ea.trans e2))
                      have ev6 : v6 = kV ky := by
                        have r7' := Rep.mono (x8.trans x9) _ _ r7
                        cases hd : kv.d with
                        | int i => rw [hd] at eky r7'; cases eky; simp only [Rep] at r7'; exact r7'
                        | str i => rw [hd] at eky r7'; cases eky; simp only [Rep] at r7'; exact r7'
                        | _ => rw [hd] at eky; cases eky
                      refine ⟨vals, ky, ev6, ea.trans e2, by rw [← r2.lenKV, ← lim_eq]; exact hlim, g9, vh8, dput acc kv.d ev.d, putK vals ky v8, ha.pend pa (nx_dK (ea.trans e2)), pa, (x2.trans xz).trans xu, upd_same, ?_, q2⟩
                      exact RepKV.mono xu _ _ (RepKV.put eky r9 (RepKV.mono xz _ _ r2))
                    · rw [if_neg hlim] at q2; exact q2.elim
      · rw [if_neg hgd] at q2; exact q2.elim
    · have ei : iv.items.length ≤ i := Nat.le_of_not_lt hlt
      rw [List.drop_eq_nil_of_le ei] at q2
      unfold dcLoop at q2
      by_cases hgd : gdB iv.gd vh2 = true
      · rw [if_pos hgd] at q2
        refine .inl ⟨(y1 C i g2 vh2 H2 h2 x2 hgd).1 ei, ?_⟩
        exact q2 g2 H2 (.ref D) h2 (RelS.mono x2 s1) (x1.trans x2) ⟨D, rfl, ⟨vals, e2, r2⟩, p2.nf, p2.np, p2.nfr⟩
      · rw [if_neg hgd] at q2; exact q2.elim
variable {kx elt iter : Expr} {ifs : List Expr} {scope : Scope} {ι : IF} {γ : GF} {ix : List Nat}
theorem de_dc (own : List (Str × Nat)) (cz : Cz W Wx k X) (hi : DI W Wx X tg iter ι) (ok : blkC X.N X.env.scope scope own = true)
    (hg : ∀ (s : Shared) (H : Hp) (C : Addr) (cl : List (Str × Addr)) (fp : List Addr), Cz W WF k (X.blk s H scope (compEnvC scope cl C X.env) fp) → DG W (X.blk s H scope (compEnvC scope cl C X.env) fp) tg γ ix)
    (ht : ∀ (s : Shared) (H : Hp) (C : Addr) (cl : List (Str × Addr)) (fp : List Addr), Cz W WF k (X.blk s H scope (compEnvC scope cl C X.env) fp) → DTs W WF (X.blk s H scope (compEnvC scope cl C X.env) fp) ifs τ)
    (hk : ∀ (s : Shared) (H : Hp) (C : Addr) (cl : List (Str × Addr)) (fp : List Addr), Cz W WF k (X.blk s H scope (compEnvC scope cl C X.env) fp) → DE W WF (X.blk s H scope (compEnvC scope cl C X.env) fp) kx κ)
    (he : ∀ (s : Shared) (H : Hp) (C : Addr) (cl : List (Str × Addr)) (fp : List Addr), Cz W WF k (X.blk s H scope (compEnvC scope cl C X.env) fp) → DE W WF (X.blk s H scope (compEnvC scope cl C X.env) fp) elt φ)
    (hix : ∀ i ∈ ix, i ∈ own.map (·.2) := by decide) (hs : ∀ x, foldedSetIterable iter X.env x = pure x := by intro _; rfl) :
    DE W Wx X (.DictComp kx elt [⟨tg, iter, ifs, 0⟩] scope pos) (eDc ι γ τ κ φ (own.map (·.2))) := fun C =>
  pe_imp (pe_dc cz.calm cz.nd (hi C) (blkOk_by ok) (fun s H C cl fp => hg s H C cl fp (cz.blk ..)) (fun s H C cl fp => ⟨fun pins s' σ H Q I ⟨C', q⟩ => ((ht s _ C cl fp (cz.blk ..)) C').run pins s' σ H Q I q⟩)
    (fun s H C cl fp => ⟨fun pins s' σ H Q I ⟨C', q⟩ => ((hk s _ C cl fp (cz.blk ..)) C').run pins s' σ H Q I q⟩)
    (fun s H C cl fp => ⟨fun pins s' σ H Q I ⟨C', q⟩ => ((he s _ C cl fp (cz.blk ..)) C').run pins s' σ H Q I q⟩) hs) fun σ H Q ⟨g, sl, vh, h, hs, q⟩ => dc_imp hix h hs q
end
end
end PM

/-! PM55: the greatest of a list, with and without a default; defs that stand in a module's tuple, called by a local name. -/
namespace PM
open PySem L2
noncomputable section
/-- the greatest of n and ns -/
def topI (n : Int) (ns : List Int) : Int := ns.foldl max n
theorem topI_mem : ∀ (ns : List Int) (n : Int), topI n ns ∈ n :: ns
  | [], n => List.mem_cons_self ..
  | m :: ns, n => by
    have h := topI_mem ns (max n m)
    show topI (max n m) ns ∈ _
    rcases List.mem_cons.mp h with e | e
    · rw [e]
      rcases Int.le_total n m with z | z
      · rw [Int.max_eq_right z]; exact List.mem_cons_of_mem _ (List.mem_cons_self ..)
      · rw [Int.max_eq_left z]; exact List.mem_cons_self ..
    · exact List.mem_cons_of_mem _ (List.mem_cons_of_mem _ e)
theorem topI_ge : ∀ (ns : List Int) (n y : Int), y ∈ n :: ns → y ≤ topI n ns
  | [], n, y, h => by
    rcases List.mem_cons.mp h with e | e
    · subst e; exact Int.le_refl _
    · cases e
  | m :: ns, n, y, h => by
    show y ≤ topI (max n m) ns
    rcases List.mem_cons.mp h with e | e
    · subst e; exact Int.le_trans (Int.le_max_left _ _) (topI_ge ns _ _ (List.mem_cons_self ..))
    rcases List.mem_cons.mp e with e | e
    · subst e; exact Int.le_trans (Int.le_max_right _ _) (topI_ge ns _ _ (List.mem_cons_self ..))
    · exact topI_ge ns _ _ (List.mem_cons_of_mem _ e)
def bMaxL : D → Option EV
  | .lst xs => match intsD xs with
    | some (n :: ns) => some (.v (.int (topI n ns)))
    | _ => none
  | _ => none
def bMaxDf : D → D → Option EV
  | .lst xs, .int d => match intsD xs with
    | some (n :: ns) => some (.v (.int (topI n ns)))
    | some [] => some (.v (.int d))
    | none => none
  | _, _ => none
/-- max(xs, default=d), whole numbers -/
def rMaxDf (K : PySem.W.Frag) : List V → List V → Hp → VK → Prop := fun vs zs H Q => ∃ (a : Addr) (ns : List Int) (d : Int), vs = [V.ref a] ∧ zs = [V.int d] ∧ SqL K H a (ns.map V.int) ∧ Q (.int (match ns with | [] => d | n :: ns => topI n ns)) H
section
variable {W : Wd} {C : Con} {Wx : WX} {X : Cx} {k : Nat} {g g0 : Gh} {H H0 : Hp} {σ : L2.St} {sl : Sl} {vh : VH} {φ ψ χ : EF} {α : AF} {e a b o : Expr} {p0 pos apos cpos kpos : Pos}
theorem p_maxL (hK : X.K = W.K) : Prim1 W X (fun x H Q => rMax X.K [x] H Q) bMaxL := by
  intro C g H vh dx x Q h rx q s
  cases dx with
  | lst xs =>
    simp only [bMaxL] at s q
    cases e : intsD xs with
    | none => rw [e] at s; cases s
    | some ns =>
      rw [e] at q s
      cases ns with
      | nil => cases s
      | cons n ns =>
        obtain ⟨a, vs, rfl, h1, r1⟩ := rx.lst
        have := reps_intsD r1 e
        subst this
        refine ⟨a, n :: ns, rfl, SqL.of h1, Nat.succ_pos _, fun m hm hy => ?_⟩
        have em : m = topI n ns := Int.le_antisymm (topI_ge ns n m hm) (hy _ (topI_mem ns n))
        rw [em]
        exact q _ rfl g H _ h (Ext.refl g H) (by simp only [RepE, Rep])
  | _ => cases s
theorem de_maxL (hK : X.K = W.K) (hc : X.calm = true) (hg : Gl X "max") (hm : X.mg "max" = none) (ha : DE W Wx X a φ) (he : starEach (a :: []) X.env = (false, eval a X.env) :: starEach [] X.env := by rfl) : DE W Wx X (.Call (.Name "max" p0) [a] [] pos) (e1 bMaxL φ) :=
  de_b1 (cr_max hc) (p_maxL hK) hg hm ha (he := he)
theorem reads_ints {h : Heap} : ∀ {its : List Value} {ns : List Int}, PyProof.Rows.IntsAre its ns → ∃ as, ReadsAll h its (ns.map PyData.int) as
  | [], [], _ => ⟨_, .nil⟩
  | u :: us, n :: ns, hi => by
    obtain ⟨as, r⟩ := reads_ints (h := h) (its := us) (ns := ns) (by cases hi; assumption)
    have : ∃ t, u = .int n t := by cases hi; exact ⟨_, rfl⟩
    obtain ⟨t, rfl⟩ := this
    exact ⟨_, .cons (.int _ _) r⟩
theorem cr_maxDf (hc : X.calm = true) (hu : X.A.units + 100 < cLine) : CallRK X (.builtin "max") [Str.ofString "default"] (rMaxDf X.K) := by
  intro pins s σ H vs zs us ws Q I r rz h
  obtain ⟨a, ns, d, rfl, rfl, hs, q⟩ := h
  obtain rfl := Vals.ref1 r
  obtain ⟨w1, rfl, t, rfl⟩ := vals1 rz
  obtain ⟨its, rv, hl, _⟩ := I.list hs
  obtain ⟨as, ra⟩ := reads_ints (h := s.heap) rv.ints
  refine PySem.W.max_list_datum_default (α := Int) (xs := ns) (I.ok.hd hc) hl.isList ⟨as, ra⟩ (by show X.A.units + 1 + 0 < cLine; omega) (fun e h' tk hk => ?_) fun y ys i v h' tk e hi hd hk => ?_
  · subst e
    exact ⟨.int d, H, I.kept hk, ⟨_, rfl⟩, q⟩
  · subst e
    have ev : ∃ t, v = .int (topI y ys) t := by
      have em : PySem.W.maxOf y ys = topI y ys := by
        unfold PySem.W.maxOf topI
        congr 1
        funext p z
        show (if decide (p < z) = true then z else p) = max p z
        rw [Int.max_def]
        by_cases hz : p < z
        · simp [hz, Int.le_of_lt hz]
        · by_cases hz2 : p ≤ z
          · have : p = z := by omega
            subst this
            simp
          · simp [hz, hz2]
      rw [em] at hd
      obtain ⟨as, hd⟩ := hd
      cases hd
      exact ⟨_, rfl⟩
    obtain ⟨t, rfl⟩ := ev
    exact ⟨.int _, H, I.kept hk, ⟨_, rfl⟩, q⟩
theorem p_maxDf (hK : X.K = W.K) : Prim2 W X (fun x y H Q => rMaxDf X.K [x] [y] H Q) bMaxDf := by
  intro C g H vh dx dy x y Q h rx ry q s
  cases dx with
  | lst xs =>
    cases dy with
    | int d =>
      simp only [bMaxDf] at s q
      cases e : intsD xs with
      | none => rw [e] at s; cases s
      | some ns =>
        rw [e] at q s
        obtain ⟨a, vs, rfl, h1, r1⟩ := rx.lst
        have := reps_intsD r1 e
        subst this
        obtain rfl := ry.int
        refine ⟨a, ns, d, rfl, rfl, SqL.of h1, ?_⟩
        cases ns with
        | nil => exact q _ rfl g H _ h (Ext.refl g H) (by simp only [RepE, Rep])
        | cons n ns => exact q _ rfl g H _ h (Ext.refl g H) (by simp only [RepE, Rep])
    | _ => cases s
  | _ => cases s
theorem de_maxDf (hK : X.K = W.K) (hc : X.calm = true) (hu : X.A.units + 100 < cLine) (hg : Gl X "max") (hm : X.mg "max" = none) (ha : DE W Wx X a φ) (hb : DE W Wx X b ψ)
    (he : backTo pos (starEach [a] X.env) = (false, eval a X.env) :: backTo pos (starEach [] X.env) := by rfl) (he' : starEach [a] X.env = (false, eval a X.env) :: starEach [] X.env := by rfl) (hpl : (backTo pos (starEach [a] X.env)).any (·.1) = false := by rfl) :
    DE W Wx X (.Call (.Name "max" p0) [a] [⟨some "default", b, kpos⟩] pos) (e2 bMaxDf φ ψ) :=
  de_2 ha hb (p_maxDf hK) fun ta tb h h' => pe_imp (pe_callBK (cr_maxDf hc hu) hg hm rfl (pa_cons h pa_nil he') (pk_cons h' pk_nil) (he := he) (hpl := hpl)) fun σ H Q q => q
end

/-! ### defs within a module's tuple -/
mutual
def valW (W : Wd) : D → Value → Bool
  | .non, .none => true
  | .bl b, .bool c => b == c
  | .int i, .int j _ => decide (i = j)
  | .str x, .str y _ => decide (x = y)
  | .fn i, .ref a => decide (a = W.fn i)
  | .tup ds, .ref a => (match W.K.lookup a with
    | some ⟨.type c, _, .seq its _, _⟩ => decide (c = "tuple") && (decide (its.size ≤ 16777216) && valsW W ds its.toList)
    | _ => false)
  | _, _ => false
def valsW (W : Wd) : List D → List Value → Bool
  | [], [] => true
  | d :: ds, u :: us => valW W d u && valsW W ds us
  | _, _ => false
end
mutual
theorem valW_ok {W : Wd} : ∀ {d : D} {u : Value}, valW W d u = true → ∃ v, RelV v u ∧ ∀ (g : Gh) (H : Hp), Rep W g H d v
  | .non, u, h => by
    cases u <;> try (simp [valW] at h; done)
    exact ⟨.non, rfl, fun g H => by simp only [Rep]⟩
  | .bl b, u, h => by
    cases u <;> try (simp [valW] at h; done)
    simp only [valW, beq_iff_eq] at h
    subst h
    exact ⟨.bl b, rfl, fun g H => by simp only [Rep]⟩
  | .int i, u, h => by
    cases u <;> try (simp [valW] at h; done)
    simp only [valW, decide_eq_true_eq] at h
    subst h
    exact ⟨.int i, ⟨_, rfl⟩, fun g H => by simp only [Rep]⟩
  | .str i, u, h => by
    cases u <;> try (simp [valW] at h; done)
    simp only [valW, decide_eq_true_eq] at h
    subst h
    exact ⟨.str i, ⟨_, rfl⟩, fun g H => by simp only [Rep]⟩
  | .fn i, u, h => by
    cases u <;> try (simp [valW] at h; done)
    simp only [valW, decide_eq_true_eq] at h
    subst h
    exact ⟨.ref _, rfl, fun g H => by simp only [Rep]⟩
  | .tup ds, u, h => by
    cases u <;> try (simp [valW] at h; done)
    rename_i a
    simp only [valW] at h
    cases q : W.K.lookup a with
    | none => rw [q] at h; cases h
    | some o =>
      rw [q] at h
      obtain ⟨oc, od, dt, osl⟩ := o
      cases oc with
      | type c =>
        cases dt with
        | seq its n =>
          dsimp only at h
          simp only [Bool.and_eq_true, decide_eq_true_eq] at h
          obtain ⟨h1, h2, h3⟩ := h
          obtain ⟨vs, rv, rr⟩ := valsW_ok h3
          refine ⟨.ref a, rfl, fun g H => ?_⟩
          simp only [Rep]
          exact ⟨a, vs, rfl, .inr (.inr ⟨_, its, n, q, congrArg Value.type h1, rfl, by rw [← lim_eq, lim_val]; exact h2, rv⟩), rr g H⟩
        | _ => cases h
      | _ => cases dt <;> cases h
  | .lst _, u, h => by cases u <;> simp [valW] at h
  | .dct _, u, h => by cases u <;> simp [valW] at h
  | .st _, u, h => by cases u <;> simp [valW] at h
  | .ins _ _, u, h => by cases u <;> simp [valW] at h
  | .ref _, u, h => by cases u <;> simp [valW] at h
  | .cls _, u, h => by cases u <;> simp [valW] at h
  | .ty _, u, h => by cases u <;> simp [valW] at h
  | .scr _, u, h => by cases u <;> simp [valW] at h
  | .exc .., u, h => by cases u <;> simp [valW] at h
theorem valsW_ok {W : Wd} : ∀ {ds : List D} {us : List Value}, valsW W ds us = true → ∃ vs, Vals vs us ∧ ∀ (g : Gh) (H : Hp), Reps W g H ds vs
  | [], us, h => by
    cases us with
    | nil => exact ⟨[], .nil, fun g H => Reps.nil⟩
    | cons _ _ => simp [valsW] at h
  | d :: ds, us, h => by
    cases us with
    | nil => simp [valsW] at h
    | cons u us =>
      simp only [valsW, Bool.and_eq_true] at h
      obtain ⟨v, r1, q1⟩ := valW_ok h.1
      obtain ⟨vs, r2, q2⟩ := valsW_ok h.2
      exact ⟨v :: vs, .cons r1 r2, fun g H => Reps.cons (q1 g H) (q2 g H)⟩
end
/-- what a name of the module stands for, defs among it -/
def GlW (W : Wd) (mg : Str → Option Value) (x : Str) (d : D) : Prop := ∃ u v, mg x = some u ∧ RelV v u ∧ ∀ (g : Gh) (H : Hp), Rep W g H d v
def glW (W : Wd) (x : Str) (d : D) : Bool := match PySem.W.nsIn W.K mainGlobals x with
  | some (some u) => valW W d u
  | _ => false
theorem glW_of {W : Wd} {h : Heap} {mg : Str → Option Value} {x : Str} {d : D} (X : W.K.In h) (G : h.Ns mainGlobals mg) (c : glW W x d = true) : GlW W mg x d := by
  unfold glW at c
  cases q : PySem.W.nsIn W.K mainGlobals x with
  | none => rw [q] at c; cases c
  | some o =>
    cases o with
    | none => rw [q] at c; cases c
    | some u =>
      rw [q] at c
      obtain ⟨v, r, rr⟩ := valW_ok c
      exact ⟨u, v, PySem.W.mg_of X G q, r, rr⟩
theorem de_glw {W : Wd} {Wx : WX} {X : Cx} {x : Str} {p : Pos} {d : D} (hg : Gl X x) (c : GlW W X.mg x d) (hd : (x == ("__debug__" : Str)) = false := by decide) : DE W Wx X (.Name x p) (eCon d) := by
  obtain ⟨u, v, e, r, rr⟩ := c
  exact de_con (pe_glob hg e r hd) fun g H => rr g H
/-! ### a local name that holds a def -/
/-- which defs such a name may hold, and what each does -/
def dCallF (i : Nat) (T : Nat → Option Den) (α : AF) : EF := fun sl vh => match sl[i]? with
  | some (some (.fn j)) => (match T j with
    | some Φ => dCall id Φ α sl vh
    | none => .bad)
  | _ => .bad
/-- one def of such a table -/
structure FnAt (W : Wd) (P : PySem.Program) (w : World) (mg : Str → Option Value) (base : Heap) (k np : Nat) (f : Addr) (Φ : Den) : Prop where
  ex : ∃ (fd : FuncData) (ps : List Str), PFn W P w mg base k f fd ps Φ ∧ Pat W fd ps np [] id ∧ PySem.W.keepIn W.K (.ref f) = true
section
variable {W : Wd} {C : Con} {Wx : WX} {X : Cx} {k np : Nat} {g g0 : Gh} {H H0 : Hp} {σ : L2.St} {sl : Sl} {vh : VH} {φ ψ χ : EF} {α : AF} {p pos : Pos} {x : Str} {e : Expr} {es : List Expr} {T : Nat → Option Den}
theorem de_callF (i : Nat) (cz : Cz W Wx k X) (A : ∀ j Φ, T j = some Φ → FnAt W X.prog X.w X.mg X.base k np (W.fn j) Φ)
    (ha : DA W Wx X (e :: es) α) (hal : ∀ sl vh ds vh', α sl vh = .ok ds vh' → ds.length = np) (hN : X.N[i]? = some x := by rfl) (hv : Vis X.env.scope x := by first | exact Or.inl rfl | exact Or.inr (Or.inl rfl) | exact Or.inr (Or.inr rfl))
    (hdb : (x == ("__debug__" : Str)) = false := by decide) (hcd : (x == ("__classdict__" : Str)) = false := by decide)
    (he : starEach (e :: es) X.env = (false, eval e X.env) :: starEach es X.env := by rfl) (hpl : (backTo pos (starEach es X.env)).any (·.1) = false := by rfl) : DE W Wx X (.Call (.Name x p) (e :: es) [] pos) (dCallF i T α) := fun C => by
  refine ⟨fun pins s σ H Q I ⟨g, sl, vh, h, hs, q⟩ => ?_⟩
  unfold dCallF at q
  cases e1 : sl[i]? with
  | none => rw [e1] at q; exact q.elim
  | some od =>
    rw [e1] at q
    cases od with
    | none => exact q.elim
    | some d =>
      cases d with
      | fn j =>
        dsimp only at q
        cases e2 : T j with
        | none => rw [e2] at q; exact q.elim
        | some Φ =>
          rw [e2] at q
          dsimp only at q
          obtain ⟨fd, ps, F, pt, hk⟩ := (A j Φ e2).ex
          obtain ⟨v, hv1, rv⟩ := hs.2 i _ e1
          simp only [Rep] at rv
          subst rv
          refine wpAny_Call_Name_kw (thn ((pe_var (pos := p) hN hv hdb hcd).run pins s σ H (fun v H1 => v = .ref (W.fn j) ∧ H1 = H) I ⟨_, hv1, rfl, rfl⟩) fun u s1 ⟨v, H1, I1, r1, q1⟩ => ?_)
          obtain ⟨rfl, rfl⟩ := q1
          cases r1
          have hk' : PySem.W.keepIn X.K (.ref (W.fn j)) = true := by rw [cz.K]; exact hk
          have T : TDA W C Wx α σ H1 (fun v1 H2 => ∃ g1 vh1 d1, RelH W C g1 vh1 H2 ∧ RelS W g1 H2 sl σ ∧ Ext g H1 g1 H2 ∧ Reps W g1 H2 d1 v1 ∧ d1.length = np ∧ PostE W C Wx g H1 σ sl (match Φ (id d1) vh1 with | .ok d vh' => .ok (.v d) vh' | .exc x vh' => .exc x vh' | .bad => .bad) Q) := by
            refine ⟨g, sl, vh, h, hs, ?_⟩
            unfold dCall ab at q
            cases r : α sl vh with
            | bad => rw [r] at q; exact q
            | exc x vh1 => rw [r] at q; exact q
            | ok ds vh1 => rw [r] at q; exact fun g1 H2 v1 h1 s1 x1 r1 => ⟨g1, vh1, ds, h1, s1, x1, r1, hal _ _ _ _ r, q⟩
          refine PySem.W.callWith_K (h₀ := X.base) I1.ok.mod.kin hk' (thn ((ha C).run pos pins s1 σ H1 _ I1 T) fun us s2 ⟨vs, H2, I2, rv, g1, vh1, d1, h1, s1', x1, r1, l1, q1⟩ => ⟨I2.kIn, ?_⟩) he hpl
          have lu : us.length = np := by rw [← rv.length, ← r1.length]; exact l1
          exact run_pfn (ws := []) (ks := []) cz F pt I2 h1 s1' x1 lu rfl r1 (by rw [List.append_nil]; exact rv) q1
      | _ => exact q.elim
end
end
end PM

/-! PM56: for c in a text; rows that reckon the denotations of PM52 .. PM55. -/
namespace PM
open PySem L2
noncomputable section
def iStrD (φ : EF) : IF := fun sl vh => match φ sl vh with
  | .ok (.v (.str x)) vh' => .ok ⟨x.cps.toList.map fun c => D.str ⟨#[c]⟩, none⟩ vh'
  | .ok _ _ => .bad
  | .exc x vh' => .exc x vh'
  | .bad => .bad
section
variable {W : Wd} {C : Con} {Wx : WX} {X : Cx} {k : Nat} {g g0 g1 : Gh} {H H0 H1 : Hp} {σ : L2.St} {sl : Sl} {vh : VH} {α : AF} {a b tg e : Expr} {φ : EF}
theorem yi_str {x : Str} : YI W (Its x) (x.cps.toList.map fun c => D.str ⟨#[c]⟩) none g1 H1 := by
  intro C i g vh H h x1 hg
  refine ⟨fun hi => by rw [List.length_map] at hi; simpa [Its] using hi, fun d hd => ?_⟩
  rw [List.getElem?_map] at hd
  obtain ⟨c, e1, rfl⟩ := Option.map_eq_some_iff.mp hd
  have e2 : x.cps[i]? = some c := by rw [← Array.getElem?_toList]; exact e1
  refine ⟨(Array.getElem?_eq_some_iff.mp e2).1, ?_⟩
  rintro z H' ⟨rfl, c', e3, rfl⟩
  rw [e2] at e3
  cases e3
  exact ⟨g, h, Ext.refl g _, by simp only [Rep]⟩
theorem di_str (he : DE W Wx X e φ) : DI W Wx X tg e (iStrD φ) := fun C =>
  pi_imp (pi_str (he C)) fun σ H Q ⟨g, sl, vh, h, hs, q⟩ => by
    refine ⟨g, sl, vh, h, hs, ?_⟩
    unfold iStrD at q
    cases r : φ sl vh with
    | bad => rw [r] at q; exact q.elim
    | exc x vh' => rw [r] at q; exact q
    | ok ev vh' =>
      rw [r] at q
      cases ev with
      | f o => exact q.elim
      | v d =>
        cases d with
        | str x =>
          intro g1 H1 v1 h1 s1 x1 r1
          simp only [RepE, Rep] at r1
          subst r1
          exact ⟨x, rfl, q g1 H1 _ h1 s1 x1 yi_str⟩
        | _ => exact q.elim
variable {β : AF} {γ : GF} {τ : TF} {κ ψ : EF} {ι : IF}
@[simp] theorem x_augI {f : Int → Int → Int} {i : Nat} : sAugI f i φ sl vh = (match sl[i]? with
  | some (some (.int x)) => (match φ sl vh with
    | .ok ev vh' => (match view vh' ev.d with
      | .int y => .nx (sl.set i (some (.int (f x y)))) vh'
      | _ => .bad)
    | .exc x vh' => .ex x sl vh'
    | .bad => .bad)
  | _ => .bad) := rfl
@[simp] theorem x_iStr : iStrD φ sl vh = (match φ sl vh with
  | .ok (.v (.str x)) vh' => .ok ⟨x.cps.toList.map fun c => D.str ⟨#[c]⟩, none⟩ vh'
  | .ok _ _ => .bad
  | .exc x vh' => .exc x vh'
  | .bad => .bad) := rfl
@[simp] theorem x_enum : iEnumD α sl vh = (match α sl vh with
  | .ok [d] vh' => (match enumIV vh' d with
    | some iv => .ok iv vh'
    | none => .bad)
  | .ok _ _ => .bad
  | .exc x vh' => .exc x vh'
  | .bad => .bad) := rfl
@[simp] theorem enum_tup {xs : List D} : enumIV vh (.tup xs) = some ⟨enu xs, none⟩ := rfl
@[simp] theorem enum_lst {xs : List D} : enumIV vh (.lst xs) = some ⟨enu xs, none⟩ := rfl
@[simp] theorem x_eDc {vs : List Nat} : eDc ι γ τ κ φ vs sl vh = (match ι sl vh with
  | .ok iv vh1 => (match dcLoop iv.gd γ τ κ φ (wipeS sl vs) iv.items [] vh1 with
    | .ok acc vh2 => .ok (.f (.dct acc)) vh2
    | _ => .bad)
  | .exc x vh' => .exc x vh'
  | .bad => .bad) := rfl
@[simp] theorem x_callF {i : Nat} {T : Nat → Option Den} : dCallF i T α sl vh = (match sl[i]? with
  | some (some (.fn j)) => (match T j with
    | some Φ => dCall id Φ α sl vh
    | none => .bad)
  | _ => .bad) := rfl
@[simp] theorem intsD_map (ns : List Int) : intsD (ns.map D.int) = some ns := by
  induction ns with
  | nil => rfl
  | cons n ns ih => simp [intsD, ih]
@[simp] theorem b_sum (ns : List Int) : bSum (.lst (ns.map D.int)) = some (.v (.int ns.sum)) := by simp [bSum]
theorem enu_nil : enu [] = [] := rfl
end
/-! ### what a step of a proof keeps: all objects of vh0 but those of S stand in vh as they were -/
def Sm (S : List Nat) (vh0 vh : VH) : Prop := vh0.length ≤ vh.length ∧ ∀ k, k < vh0.length → k ∉ S → vh[k]? = vh0[k]?
section
variable {S T : List Nat} {vh0 vh vh1 vh2 l : VH} {i n : Nat} {o : O}
theorem Sm.refl (S : List Nat) (vh : VH) : Sm S vh vh := ⟨Nat.le_refl _, fun _ _ _ => rfl⟩
theorem Sm.trans (a : Sm S vh0 vh1) (b : Sm S vh1 vh2) : Sm S vh0 vh2 := ⟨Nat.le_trans a.1 b.1, fun k hk hs => (b.2 k (Nat.lt_of_lt_of_le hk a.1) hs).trans (a.2 k hk hs)⟩
theorem Sm.app (a : Sm S vh0 vh) (l : VH) : Sm S vh0 (vh ++ l) := ⟨by rw [List.length_append]; exact Nat.le_trans a.1 (Nat.le_add_right ..), fun k hk hs => by rw [List.getElem?_append_left (Nat.lt_of_lt_of_le hk a.1)]; exact a.2 k hk hs⟩
theorem Sm.new (S : List Nat) (vh l : VH) : Sm S vh (vh ++ l) := (Sm.refl S vh).app l
theorem Sm.set (a : Sm S vh0 vh) (hi : i ∈ S ∨ vh0.length ≤ i) : Sm S vh0 (vh.set i o) := ⟨by rw [List.length_set]; exact a.1, fun k hk hs => by
  have : i ≠ k := by
    rintro rfl
    rcases hi with h | h
    · exact hs h
    · omega
  rw [List.getElem?_set_ne this]; exact a.2 k hk hs⟩
theorem Sm.at (a : Sm S vh0 vh) (e : vh0[n]? = some o) (hn : n ∉ S) : vh[n]? = some o := by
  rw [a.2 n (List.getElem?_eq_some_iff.mp e).1 hn, e]
theorem Sm.sub (a : Sm S vh0 vh) (h : ∀ k ∈ S, k ∈ T ∨ vh0.length ≤ k) : Sm T vh0 vh := ⟨a.1, fun k hk hs => a.2 k hk fun z => (h k z).elim (fun y => hs y) fun y => by omega⟩
theorem Sm.at0 (a : Sm [] vh0 vh) (e : vh0[n]? = some o) : vh[n]? = some o := a.at e (by simp)
theorem Sm.any (a : Sm [] vh0 vh) (S : List Nat) : Sm S vh0 vh := a.sub (by simp)
theorem at_app (e : vh[n]? = some o) (l : VH) : (vh ++ l)[n]? = some o := by
  rw [List.getElem?_append_left (List.getElem?_eq_some_iff.mp e).1, e]
theorem at_new (vh : VH) (o : O) (l : VH) : (vh ++ o :: l)[vh.length]? = some o := by simp
theorem at_set (e : n < vh.length) (o : O) : (vh.set n o)[n]? = some o := by simp [e]
theorem lt_of (e : vh[n]? = some o) : n < vh.length := (List.getElem?_eq_some_iff.mp e).1
/-- a list, as it stands or by value -/
def IsL (vh : VH) (d : D) (xs : List D) : Prop := view vh d = .lst xs
theorem IsL.keep {d : D} {xs : List D} (h : IsL vh0 d xs) (a : Sm [] vh0 vh) : IsL vh d xs := by
  unfold IsL at *
  cases d with
  | ref n =>
    cases e : vh0[n]? with
    | none => simp [view, e] at h
    | some o => rw [vw_ref e] at h; rw [vw_ref (a.at0 e)]; exact h
  | _ => simpa [view] using h
theorem IsL.ref {xs : List D} (e : vh[n]? = some (.lst xs)) : IsL vh (.ref n) xs := vw_ref e
theorem IsL.val (xs : List D) : IsL vh (.lst xs) xs := rfl
end
/-! ### a tuple, a list against nothing -/
theorem Cps.ne_nil {k : Nat} {ds : List D} (h : Cps k ds) (hk : k < 64) : opNe (.tup ds) (.tup []) = some (.v (.bl (!ds.isEmpty))) := by
  obtain ⟨ps, e, c, b⟩ := h
  have s : SeqAt.shaped (.tuple ps) = true := by simp [SeqAt.shaped, PyData.canLay0, c, PyData.depth]; omega
  have s0 : SeqAt.shaped (.tuple []) = true := by decide
  have q : PyData.eqv (.tuple ps) (.tuple []) = ds.isEmpty := by
    cases ds with
    | nil => simp only [toPys, Option.some.injEq] at e; subst e; rfl
    | cons d ds =>
      cases ps with
      | nil => simp only [toPys] at e; split at e <;> simp at e
      | cons p ps => rfl
  simp [opNe, eqD, scV, eqDeep, toPy, e, toPys, s, s0, q]
theorem Cps.ne_nilL {k : Nat} {ds : List D} (h : Cps k ds) (hk : k < 64) : opNe (.lst ds) (.lst []) = some (.v (.bl (!ds.isEmpty))) := by
  obtain ⟨ps, e, c, b⟩ := h
  have s : SeqAt.shaped (.list ps) = true := by simp [SeqAt.shaped, PyData.canLay0, c, PyData.depth]; omega
  have s0 : SeqAt.shaped (.list []) = true := by decide
  have q : PyData.eqv (.list ps) (.list []) = ds.isEmpty := by
    cases ds with
    | nil => simp only [toPys, Option.some.injEq] at e; subst e; rfl
    | cons d ds =>
      cases ps with
      | nil => simp only [toPys] at e; split at e <;> simp at e
      | cons p ps => rfl
  simp [opNe, eqD, scV, eqDeep, toPy, e, toPys, s, s0, q]
end
end PM

/-! PM57: a tuple backwards, t[::-1]. -/
namespace HT
open PySem PySem.Spec PyProof.Rows
section
variable {prog : Program} {w : World} {A : Around} {E : Value → Shared → Prop} {s : Shared}
theorem applied_rev {sl : Addr} {vt : Value} {n : Nat} {Q : Int × Int × Nat → Shared → Prop} (hs : s.heap.IsSliceOf sl .none .none vt) (pt : IsPart vt (some (-1))) (h : Q ((n : Int) - 1, -1, n) s) :
    wpAny (model prog w) A (Builtin.Slice.sliceApplied (.ref sl) (pure (n : Int))) Q E s := by
  obtain ⟨ob, h1, h2, h3⟩ := id hs
  unfold Builtin.Slice.sliceApplied Builtin.Slice.sliceFields
  refine wpAny_bind (wpAny_bind (wpAny_field h1 h3 (x := Value.none) rfl (wpAny_bind (wpAny_field h1 h3 (x := Value.none) rfl (wpAny_bind (wpAny_field h1 h3 (x := vt) rfl (wpAny_pure ?_)))))))
  refine wpAny_bind (slicePart_ pt ?_)
  show wpAny _ _ (if ((-1 : Int) == 0) = true then _ else _) _ _ s
  rw [if_neg (by decide)]
  refine wpAny_bind (slicePart_none (wpAny_bind (slicePart_none (wpAny_bind (wpAny_pure ?_)))))
  have e : Builtin.Slice.sliceAdjust none none (-1) (n : Int) = ((n : Int) - 1, -1) := by
    simp [Builtin.Slice.sliceAdjust]
  have e2 : Builtin.Slice.slicePlaces ((n : Int) - 1) (-1) (-1) = n := by
    simp [Builtin.Slice.slicePlaces]
    omega
  show wpAny _ _ (match Builtin.Slice.sliceAdjust none none (-1) (n : Int) with | (lo, hi) => pure (lo, (-1 : Int), Builtin.Slice.slicePlaces lo hi (-1))) _ _ s
  rw [e]
  show wpAny _ _ (pure ((n : Int) - 1, (-1 : Int), Builtin.Slice.slicePlaces ((n : Int) - 1) (-1) (-1))) _ _ s
  rw [e2]
  exact wpAny_pure h
theorem fm_congr {α β : Type} {f g : α → Option β} : ∀ {l : List α}, (∀ x ∈ l, f x = g x) → l.filterMap f = l.filterMap g
  | [], _ => rfl
  | x :: l, h => by rw [List.filterMap_cons, List.filterMap_cons, h x (List.mem_cons_self ..), fm_congr fun y hy => h y (List.mem_cons_of_mem _ hy)]
theorem back_all (xs : Array Value) : ((List.range xs.size).filterMap fun (k : Nat) => xs[((xs.size : Int) - 1 + (k : Int) * -1).toNat]?) = xs.toList.reverse := by
  have e : ((List.range xs.size).filterMap fun (k : Nat) => xs[((xs.size : Int) - 1 + (k : Int) * -1).toNat]?) = ((List.range xs.size).map fun k => xs.size - 1 - k).filterMap (xs[·]?) := by
    rw [List.filterMap_map]
    refine fm_congr fun k hk => ?_
    have := List.mem_range.mp hk
    have z : ((xs.size : Int) - 1 + (k : Int) * -1).toNat = xs.size - 1 - k := by omega
    show xs[((xs.size : Int) - 1 + (k : Int) * -1).toNat]? = xs[xs.size - 1 - k]?
    rw [z]
  rw [e, PySem.W.krv_range, List.filterMap_reverse, PySem.W.krv_all]
theorem getItem_tuple_back {t sl : Addr} {its : Array Value} {vt : Value} {Q : Value → Shared → Prop} (ht : IsTup s.heap t its) (hs : s.heap.IsSliceOf sl .none .none vt) (pt : IsPart vt (some (-1)))
    (h : Q (.ref s.heap.objs.size) { s with heap := s.heap.push { cls := .type "tuple", data := .seq its.toList.reverse.toArray } }) (hz : its.size ≤ sizeLine) : wpAny (model prog w) A (getItem (.ref t) (.ref sl)) Q E s := by
  have fits : sizeOk (.seq its.toList.reverse.toArray) := by
    show its.toList.reverse.toArray.size ≤ sizeLine
    simpa using hz
  obtain ⟨ob, h1, h2, h3⟩ := id hs
  have ty : s.TypeIs (.ref sl) "slice" := ⟨ob, h1, h2⟩
  unfold getItem
  try with_reducible refine wpAny_holding ?_
  first | refine wpAny_bind (wpAny_pure ?_) | skip
  refine wpAny_bind (wpAny_sequenceKey ht.typeIs (by decide) ?_)
  refine wpAny_bind (wpAny_callSpecial?_slot (name := Str.ofString "__getitem__") ht.typeIs slot_tuple_getitem (wpAny_call_entry slot_tuple_getitem ht.typeIs entry_tuple_getitem ?_ (args_tuple_getitem _ _)))
  show wpAny _ _ (Builtin.Tuple.tupleItemsOf (.ref t) >>= _) _ _ s
  refine wpAny_bind (tupleItemsOf_ ht (wpAny_bind (wpAny_typeOf ty ?_)))
  rw [if_pos (by decide)]
  refine wpAny_bind (applied_rev hs pt ?_)
  have hno : ¬ ((((its.size : Int) - 1) == 0 && (-1 : Int) == 1 && its.size == its.size) = true) := by simp
  show wpAny _ _ (if ((((its.size : Int) - 1) == 0 && (-1 : Int) == 1 && its.size == its.size) = true) then _ else _) _ _ s
  rw [if_neg hno, back_all]
  first
    | exact wpAny_bind (m := Builtin.Tuple.tupleExact _) (wpAny_newObj_type (wpAny_pure ⟨_, rfl, wpAny_pure h⟩) fits)
    | exact wpAny_bind (m := Builtin.Tuple.tupleExact _) (wpAny_newObj_type (wpAny_bind (wpAny_pure (wpAny_pure ⟨_, rfl, wpAny_pure h⟩))) fits)
    | exact wpAny_bind (wpAny_bind (m := Builtin.Tuple.tupleExact _) (wpAny_newObj_type (wpAny_pure (wpAny_pure ⟨_, rfl, wpAny_pure h⟩)) fits))
    | exact wpAny_bind (wpAny_bind (m := Builtin.Tuple.tupleExact _) (wpAny_newObj_type (wpAny_pure ⟨_, rfl, wpAny_pure h⟩) fits))
end
end HT
namespace PM
open PySem L2
noncomputable section
def tRevT (K : PySem.W.Frag) (te : TE) (ts : TO) : TE := fun σ H Q => te σ H fun x H1 => ts σ H1 fun st H2 => ∃ a xs, x = .ref a ∧ SqT K H2 a xs ∧ st = some (-1) ∧ ∀ p, H2 p = none → Q (.ref p) (upd H2 p (.tup xs.reverse))
theorem Vals.rev {vs : List V} {us : List Value} (r : Vals vs us) : Vals vs.reverse us.reverse := by
  induction r with
  | nil => exact .nil
  | cons a b ih =>
    rw [List.reverse_cons, List.reverse_cons]
    exact ih.append (.cons a .nil)
def eRevT (φ : EF) (θ : OFn) : EF := eb φ fun d => ob θ fun st _ vh => lift (match view vh d, st with | .tup xs, some (-1) => some (.v (.tup xs.reverse)) | _, _ => none) vh
section
variable {W : Wd} {C : Con} {Wx : WX} {X : Cx} {k : Nat} {g g0 : Gh} {H H0 : Hp} {σ : L2.St} {sl : Sl} {vh : VH} {φ : EF} {θ : OFn} {e : Expr} {pos p3 : Pos} {st : Option Expr}
open PySem.Spec PyProof.Rows in
theorem pe_revT {te : TE} {ts : TO} (he : PE X e te) (hs : PO X st ts)
    (hsub : ∀ v sl, subscripted (.Slice none none st p3) false v sl = operate [v, sl] (getItem v sl) := by intro _ _; with_unfolding_all rfl) : PE X (.Subscript e (.Slice none none st p3) pos) (tRevT X.K te ts) := by
  refine ⟨fun pins s σ H Q I h => ?_⟩
  refine Subscript_ (thn (he.run pins s σ H _ I h) fun v s1 ⟨x, H1, I1, r1, q1⟩ => ?_)
  refine wpAny_Slice ?_
  rw [evalPart_none]
  refine wpAny_pure (wpAny_pure ?_)
  refine thn (hs.run pins s1 σ H1 _ I1 q1) fun vt s2 ⟨t, H2, I2, pt, a, xs, ex, hx, ht, q⟩ => ?_
  subst ex ht
  cases r1
  have I3 : Inv X pins σ H2 { s2 with heap := s2.heap.push { cls := .type "slice", data := .fields #[Value.none, Value.none, vt] } } := I2.kept (t' := s2.toks) fun b ob q => Heap.get?_push_of_some _ q
  obtain ⟨its, r, tu, hz⟩ := I3.tuple hx
  show wpAny (model X.prog X.w) X.A (subscriptTail e (.Slice none none st p3) (.ref a) (.ref s2.heap.objs.size)) (EP X pins σ Q) X.xe { s2 with heap := s2.heap.push { cls := .type "slice", data := .fields #[Value.none, Value.none, vt] } }
  refine tail_any (ops := [.ref a, .ref s2.heap.objs.size]) tu.typeIs slot_tuple_getitem.lookup ?_ (hsub _ _)
  refine HT.getItem_tuple_back tu (Heap.IsSliceOf.new _ Value.none Value.none vt) pt ?_ (by rw [List.size_toArray, ← r.length]; exact hz)
  have rv : Vals xs.reverse its.reverse := Vals.rev r
  refine ⟨.ref _, _, I3.laid (t' := s2.toks) (o := .tup xs.reverse) (fun b ob q => Heap.get?_push_of_some _ q) (Nat.le_refl _) ?_, rfl, q _ (I3.hok.fresh (Nat.le_refl _))⟩
  exact ⟨by rw [List.length_reverse]; exact hz, _, rv, IsTup.new _ _⟩
theorem de_revT (hK : X.K = W.K) (ha : DE W Wx X e φ) (hs : DO W Wx X st θ)
    (hsub : ∀ v sl, subscripted (.Slice none none st p3) false v sl = operate [v, sl] (getItem v sl) := by intro _ _; with_unfolding_all rfl) : DE W Wx X (.Subscript e (.Slice none none st p3) pos) (eRevT φ θ) := fun C =>
  pe_imp (pe_revT (ha C) (hs C) hsub) fun σ H Q ⟨g, sl, vh, h, hs, q⟩ =>
  (TDE.bind h hs (Ext.refl g H) q).mono fun v1 H1 ⟨g2, vh2, d1, i2, s2, x2, x2', p2, q2⟩ =>
  (TDO.bind i2 s2 x2 q2).mono fun st H5 ⟨g5, vh5, i5, s5, x5, x5', q5⟩ => by
    have rx := i5.view (Rep.mono x5' _ _ p2)
    cases ev : view vh5 d1 with
    | tup xs =>
      rw [ev] at rx q5
      obtain ⟨a, vs, rfl, h1, r1⟩ := rx.tup
      match st, q5 with
      | some (Int.negSucc 0), q5 =>
        refine ⟨a, vs, rfl, by rw [hK]; exact h1, rfl, fun p np => ?_⟩
        have rp : Reps W g5 H5 xs.reverse vs.reverse := by
          have gen : ∀ {xs : List D} {vs : List V}, Reps W g5 H5 xs vs → Reps W g5 H5 xs.reverse vs.reverse := fun {xs} => by
            induction xs with
            | nil => intro vs r; simp only [Reps] at r; subst r; exact Reps.nil
            | cons x xs ih =>
              intro vs r
              simp only [Reps] at r
              obtain ⟨v, ws, rfl, a, b⟩ := r
              rw [List.reverse_cons, List.reverse_cons]
              exact (ih b).append (Reps.one a)
          exact gen r1
        obtain ⟨a1, b1, c1⟩ := new_tup i5 np rp
        exact q5 _ _ _ a1 (s5.mono b1) (x5.trans b1) c1
      | none, q5 => exact q5.elim
      | some (Int.ofNat _), q5 => exact q5.elim
      | some (Int.negSucc (_ + 1)), q5 => exact q5.elim
    | _ => rw [ev] at q5; exact q5.elim
@[simp] theorem x_revT : eRevT φ θ sl vh = (match φ sl vh with
  | .ok x vh1 => (match θ sl vh1 with
    | .ok st vh2 => lift (match view vh2 x.d, st with | .tup xs, some (-1) => some (.v (.tup xs.reverse)) | _, _ => none) vh2
    | .exc x vh' => .exc x vh'
    | .bad => .bad)
  | .exc x vh' => .exc x vh'
  | .bad => .bad) := rfl
end
end
end PM

/-! PM58: a Hook whose addresses are handed in. -/
namespace PM
open PySem L2
def obL (as : List Addr) (fa : List He.Fa) (fn : List He.DefD) (ts : List He.Tab) (ex : PySem.W.Frag → Bool) (g : Addr → Option Obj) : He.AlX :=
  (He.obsT fa fn ts (He.frT g as), ex (He.frT g as))
theorem obL_says {as : List Addr} {fa : List He.Fa} {fn : List He.DefD} {ts : List He.Tab} {ex : PySem.W.Frag → Bool} {w : World} {h : Heap}
    (e : obL as fa fn ts ex h.get? = He.valX fn ts w) : He.SaysX fa fn ts [] ex w h (He.frT h.get? as) :=
  ⟨(Prod.mk.inj e).1, (Prod.mk.inj e).2, fun _ q => (List.not_mem_nil q).elim, fun _ q => (List.not_mem_nil q).elim, fun _ q => (List.not_mem_nil q).elim⟩
def hookL (as : List Addr) (fa : List He.Fa) (fn : List He.DefD) (ts : List He.Tab) (ex : PySem.W.Frag → Bool) : PySem.W.Hook :=
  ⟨He.AlX, fun s => obL as fa fn ts ex s.heap.get?, He.valX fn ts, fun w h => ∃ K : PySem.W.Frag, K.In h ∧ He.SaysX fa fn ts [] ex w h K,
   fun _ _ e => ⟨_, He.frT_in, obL_says e⟩, (He.hookX 0 fa fn ts [] ex).keeps⟩
theorem obL_eq {as : List Addr} {fa : List He.Fa} {fn : List He.DefD} {ts : List He.Tab} {ex : PySem.W.Frag → Bool} {g : Addr → Option Obj} {s : Shared}
    (h : ∀ a, g a = s.heap.get? a) : obL as fa fn ts ex g = (hookL as fa fn ts ex).obs s := by
  cases funext h
  rfl
open PyProof.Rows PySem.Calls PySem.W in
/-- the run's equation in two -/
theorem run2 {r : PySem.W.OpenRow} {q : Program} {H : PySem.W.Hook} {ob : PySem.W.SharedT → H.α} {M : Nat} {loose : List Str} {w : World}
    (a : ∀ os : OsState, (HandSHeadRun.endF (HandSHeadRun.stepQ (HandSHeadRun.denQ HandSHeadRun.tabQ) r.prog w) M r.prog w os).map (fun s => (HandSHeadRun.looksF r.prog (boot_heap w.params) s.abs, HandSHeadRun.seenQ q loose (importedModules r.prog.main.body) (fun s => PySem.W.xlAt q [] s && PySem.W.recOk r.toRowW.records s) s.abs)) = some (true, PySem.W.openGood q loose))
    (b : ∀ os : OsState, (HandSHeadRun.endF (HandSHeadRun.stepQ (HandSHeadRun.denQ HandSHeadRun.tabQ) r.prog w) M r.prog w os).map ob = some (H.val w)) : HandSHeadRun.RunEq r q H ob M loose w := fun os => by
  have a := a os
  have b := b os
  cases e : HandSHeadRun.endF (HandSHeadRun.stepQ (HandSHeadRun.denQ HandSHeadRun.tabQ) r.prog w) M r.prog w os with
  | none => rw [e] at b; cases b
  | some s =>
    rw [e] at a b
    simp only [Option.map_some, Option.some.injEq, Prod.mk.injEq] at a b ⊢
    exact ⟨a.1, a.2, b⟩
end PM

/-! PM59: a lambda handed to a def that calls it. -/
namespace PM
open PySem PySem.Spec PyProof.Rows L2
section
variable {X : Cx} {pins : List (Addr × Obj)} {σ : L2.St} {H H1 : Hp} {s : Shared}
theorem ne_nn {H : Hp} {a b : Addr} {u : HO} (e : H a = some u) (n : H b = none) : a ≠ b := fun z => by rw [z, n] at e; cases e
/-- what the new function is -/
abbrev lamO (X : Cx) (q : Str) (params : Arguments) (body : Expr) (scope : Scope) (pm ct : Value) (c' : Addr) : Obj := PySem.W.kla_obj "<lambda>" q params body scope (cloFrom X.env.cells scope.names []) pm c' ct
/-- the heap behind a lambda's making: as it was, or the table grown by a new code object -/
def Grown (H H1 : Hp) (P c' : Addr) (q : Str) : Prop := H1 = H ∨ ∃ ps', H c' = none ∧ H1 = upd (upd H P (.tbl ps')) c' (LamX.CodeO c' q)
theorem lam_makeP {c P : Addr} {params : Arguments} {body : Expr} {scope : Scope} {pos : Pos} {E Q : Value → Shared → Prop}
    (I : Inv X pins σ H s) (TB : LamX.TabB X.base X.mg c P) (hc : X.env.code = .ref c) (hT : LamX.TabS H P (X.env.qual ++ "<lambda>"))
    (hdef : defaultsOf params X.env = ([], [])) (hfree : ∀ y ∈ scope.names, y.2 = .free → ∃ c, X.env.cells.lookup y.1 = some c)
    (next : ∀ (f c' : Addr) (pm ct : Value) (H1 : Hp) (s' : Shared), Inv X pins σ H1 s' → Grown H H1 P c' (X.env.qual ++ "<lambda>") → LamX.TabS H1 P (X.env.qual ++ "<lambda>") →
      s'.heap.get? f = some (lamO X (X.env.qual ++ "<lambda>") params body scope pm ct c') → H1 f = none → (f ≠ X.env.locals ∧ f ∉ X.fs ∧ f ∉ frs X.stack) → H1 c' = some (LamX.CodeO c' (X.env.qual ++ "<lambda>")) → Q (.ref f) s') :
    wpAny (model X.prog X.w) X.A (eval (.Lambda params body scope pos) X.env) Q E s := by
  obtain ⟨ps, tP, tri, cod⟩ := hT
  have atP : s.heap.get? P = some { cls := .none, data := .fields ps } := I.hok P _ tP
  have out : ∀ {f : Addr}, s.heap.objs.size ≤ f → f ≠ X.env.locals ∧ f ∉ X.fs ∧ f ∉ frs X.stack := by
    intro f hf
    have nl : f ≠ X.env.locals := fun z => absurd I.lt (by rw [← z]; exact Nat.not_lt.mpr hf)
    have nf := I.nofs hf
    refine ⟨nl, nf, fun z => ?_⟩
    rcases List.mem_cons.mp (I.stkSub _ z) with e | e
    · exact nl e
    · exact nf e
  refine PySem.W.kla_eval hdef ?_
  cases am : codeAmong pos ps.toList with
  | some cv =>
    obtain ⟨c', rfl, hco⟩ := cod pos cv am
    refine PySem.W.kla_makeFunctionHit (mg := X.mg) (c := c) (P := P) (ps := ps) (closure_ok hfree) I.ok.glob
      (I.mod.glob.keeps I.bk) hc (TB.code.keeps I.bk) atP tri am (TB.bm.keeps I.bk) ?_
    intro ct h' tk ext le
    exact next _ c' _ ct H _ (I.kept (t' := tk) fun b o e => Heap.get?_push_of_some _ (ext b o e)) (.inl rfl) ⟨ps, tP, tri, cod⟩ (Heap.get?_push_size _ rfl) (I.hok.fresh le) (out le) hco
  | none =>
    refine PySem.W.kla_makeFunction (mg := X.mg) (c := c) (P := P) (ps := ps) (closure_ok hfree) I.ok.glob
      (I.mod.glob.keeps I.bk) hc (TB.code.keeps I.bk) atP tri am TB.gP (TB.bm.keeps I.bk) ?_
    intro c' ct h' tk ext ge lt rec tb
    obtain ⟨c2, oc, vs, t, ec, hoc, hd, hv⟩ := rec
    cases ec
    have n1 : H c' = none := I.hok.fresh ge
    have le : s.heap.objs.size ≤ h'.objs.size := by omega
    have nP : P ≠ c' := ne_nn tP n1
    have I1 := LamX.inv_table (more := #[rawInt pos.line, rawInt pos.col, .ref c']) (t' := tk)
      (h' := h'.push (lamO X (X.env.qual ++ "<lambda>") params body scope ((X.mg "__name__").getD .none) ct c')) I tP
      (fun b o hb e => Heap.get?_push_of_some _ (ext b o hb e)) (Heap.get?_push_of_some _ tb) ge ⟨oc, vs, t, Heap.get?_push_of_some _ hoc, hd, hv⟩
    refine next _ c' _ ct _ _ I1 (.inr ⟨_, n1, rfl⟩) ?_ (Heap.get?_push_size _ rfl) ?_ (out le) upd_same
    · refine ⟨_, by rw [upd_ne nP, upd_same], ?_, ?_⟩
      · rw [Array.toList_append]
        exact PySem.TriplesOk_snoc _ _ _ _ tri
      · intro p' cv hcv
        rw [Array.toList_append] at hcv
        rcases LamX.among_app _ tri hcv with z | z
        · obtain ⟨c0, e1, e2⟩ := cod p' cv z
          have a1 : c0 ≠ c' := ne_nn e2 n1
          have a2 : c0 ≠ P := fun z => by
            rw [z, tP] at e2
            exact LamX.codeO_ne ps (Option.some.inj e2).symm
          exact ⟨c0, e1, by rw [upd_ne a1, upd_ne a2]; exact e2⟩
        · exact ⟨c', z, upd_same⟩
    · have a1 : h'.objs.size ≠ c' := Nat.ne_of_gt lt
      have a2 : h'.objs.size ≠ P := fun z => absurd (Heap.lt_size atP) (by rw [← z]; exact Nat.not_lt.mpr le)
      rw [upd_ne a1, upd_ne a2]
      exact I.hok.fresh le
end
section
variable {W : Wd} {C : Con} {g : Gh} {vh : VH} {H H1 : Hp} {P c' : Addr} {q : Str} {t : Nat}
theorem RelH.grown (h : RelH W C g vh H) (ht : vh[t]? = some (.tbl P q)) (e : Grown H H1 P c' q) (T : LamX.TabS H1 P q) : RelH W C g vh H1 ∧ Ext g H g H1 := by
  rcases e with rfl | ⟨ps', n1, rfl⟩
  · exact ⟨h, Ext.refl _ _⟩
  · obtain ⟨eP, ps, tP, _⟩ := h.vh t _ ht
    have hi : t < g.n := by rw [← h.len]; exact (List.getElem?_eq_some_iff.mp ht).1
    have nP : P ≠ c' := ne_nn tP n1
    have sw : upd (upd H P (.tbl ps')) c' (LamX.CodeO c' q) = upd (upd H c' (LamX.CodeO c' q)) P (.tbl ps') := by
      funext b
      by_cases b1 : b = c'
      · subst b1
        rw [upd_same, upd_ne (Ne.symm nP), upd_same]
      · by_cases b2 : b = P
        · subst b2
          rw [upd_ne b1, upd_same, upd_same]
        · rw [upd_ne b1, upd_ne b2, upd_ne b2, upd_ne b1]
    rw [sw] at T ⊢
    have h1 := h.new (u := LamX.CodeO c' q) n1
    have x1 := Ext.new (u := LamX.CodeO c' q) h n1
    rw [← eP] at T ⊢
    have h2 := h1.write (u := .tbl ps') (o := .tbl P q) hi ⟨eP, by rw [eP] at T ⊢; exact T⟩
    have x2 := Ext.write (u := .tbl ps') h1 hi
    have es : vh.set t (.tbl P q) = vh := by
      apply List.ext_getElem?
      intro j
      by_cases hj : t = j
      · subst hj
        rw [List.getElem?_set_self (by rw [h.len]; exact hi), ht]
      · rw [List.getElem?_set_ne hj]
    rw [es] at h2
    exact ⟨h2, x1.trans x2⟩
end
/-! ### the lambda called, in the def that got it -/
/-- its body's context, called in Z (the def's) at s1 -/
abbrev lamC (X : Cx) (Ez : Env) (s1 : Shared) (HZ : Hp) (E : XK) (scope : Scope) (f c' : Addr) : Cx := LamX.lamCx X (X.A.deeper Ez) (Ez :: X.stack) s1 HZ E scope f c'
section
variable {W : Wd} {X : Cx} {k : Nat}
theorem cz_lam {A : Around} {outer : List Env} {s : Shared} {H : Hp} {E : XK} {scope : Scope} {f c' : Addr} (hK : X.K = W.K) (hr : Room k (A.deeper (LamX.lamEnv X scope s.heap.objs.size f c'))) (hg : A.guards = some []) (nd : X.N.Nodup) :
    Cz W (WxE E) k (LamX.lamCx X A outer s H E scope f c') := ⟨hK, rfl, takes_of rfl rfl rfl rfl, hr, hg, passes_of rfl, nd⟩
end
open Classical in
/-- x(), x the i-th slot: it must be the lambda L, whose body's reading is ψ -/
noncomputable def eAct (i : Nat) (L : D) (ψ : VH → R EV) : EF := fun sl vh => if sl[i]? = some (some L) then (match ψ vh with
  | .ok e vh' => .ok (.v e.d) vh'
  | .exc x vh' => .exc x vh'
  | .bad => .bad) else .bad
theorem x_act {i : Nat} {L : D} {ψ : VH → R EV} {sl : Sl} {vh : VH} (h : sl[i]? = some (some L)) : eAct i L ψ sl vh = match ψ vh with
  | .ok e vh' => .ok (.v e.d) vh'
  | .exc x vh' => .exc x vh'
  | .bad => .bad := if_pos h
/-- in each try suite of the def whose context is Z: a() reads as e -/
def Act (W : Wd) (k : Nat) (Z : Cx) (a : Str) (e : EF) : Prop := ∀ (Wx : WX) (pn : List (Addr × Obj)) (xe : Value → Shared → Prop) (p1 p2 : Pos), Cz W Wx k (Z.tr pn xe) → DE W Wx (Z.tr pn xe) (.Call (.Name a p1) [] [] p2) e
section
variable {W : Wd} {X : Cx} {k i : Nat} {pins : List (Addr × Obj)} {σ : L2.St} {H : Hp} {s : Shared} {slX : Sl} {g0 : Gh} {φ : EF}
theorem act_of {Ng : List Str} {qg a : Str} {sg : Scope} {fg f c' : Addr} {cdg pm ct : Value} {params : Arguments} {body : Expr} {scope : Scope} {E0 : XK} {CXg : CXT} {K0 : PySem.W.Frag} (hK0 : X.K = K0)
    (hK : X.K = W.K) (gd : X.A.guards = some []) (nd : X.N.Nodup)
    (I : Inv X pins σ H s) (S : LamX.LamS X.env.scope scope) (hf : s.heap.get? f = some (lamO X (X.env.qual ++ "<lambda>") params body scope pm ct c')) (hfn : H f = none) (hfr : f ∉ frs X.stack) (hco : H c' = some (LamX.CodeO c' (X.env.qual ++ "<lambda>")))
    (hbind : bindArgs (PySem.W.kla_fn "<lambda>" (X.env.qual ++ "<lambda>") params body scope (cloFrom X.env.cells scope.names []) pm (.ref c') ct) ⟨[], []⟩ = pure [])
    (hsl : RelS W g0 H slX σ)
    (hbody : ∀ (A : Around) (outer : List Env) (s1 : Shared) (HZ : Hp) (E : XK), Cz W (WxE E) k (LamX.lamCx X A outer s1 HZ E scope f c') → DE W (WxE E) (LamX.lamCx X A outer s1 HZ E scope f c') body φ)
    (hN : Ng[i]? = some a) (hv : Vis sg a) (hd : (a == ("__debug__" : Str)) = false) (hcd : (a == ("__classdict__" : Str)) = false) :
    Act W (k + 1) (cxOf CXg X.prog X.w K0 X.mg X.base Ng qg sg fg cdg X.A X.stack s H E0) a (eAct i (.lam f g0 H) (fun vh => φ slX vh)) := by
  subst hK0
  intro Wx pn xe p1 p2 cz C
  refine ⟨fun pinsZ sZ σZ HZ Q IZ t => ?_⟩
  obtain ⟨g, sl, vh, h, hs, q⟩ := t
  unfold eAct at q
  by_cases hL : sl[i]? = some (some (.lam f g0 H))
  · rw [if_pos hL] at q
    dsimp only at q
    obtain ⟨v, hσ, rv⟩ := hs.2 i _ hL
    simp only [Rep] at rv
    obtain ⟨rfl, x0⟩ := rv
    have hc' : HZ c' = some (LamX.CodeO c' (X.env.qual ++ "<lambda>")) := x0.ex _ _ hco
    have r0 : RelS W g HZ slX σ := hsl.mono x0
    refine wpAny_Call_Name_kw (thn ((pe_var (pos := p1) (i := i) hN hv hd hcd).run pinsZ sZ σZ HZ (fun v H1 => v = .ref f ∧ H1 = HZ) IZ ⟨.ref f, hσ, rfl, rfl⟩) fun u s1 => ?_)
    rintro ⟨v, H1, I1, ru, ev, eH⟩
    subst ev eH
    obtain rfl : u = Value.ref f := ru
    have here := I1.base.keep f _ hf hfn hfr (fun z => nomatch (show f ∈ ([] : List Addr) from z))
    refine PySem.W.callWith_F0 ⟨_, _, _, _, here⟩ ?_
    obtain ⟨⟨oc, vs, tt, hoc, hdc, hvc⟩, _, _⟩ := I1.hok c' _ hc'
    have rm : Room (k + 1) (X.A.deeper (envOfC qg sg s.heap.objs.size fg cdg)) := cz.rm
    let E1 : XK := fun c od H' => Wx c od σZ H'
    have un : Un (frs X.stack) [] H H1 s.heap s1.heap := I1.base
    have run : codeAny (model X.prog X.w) (X.A.deeper (envOfC qg sg s.heap.objs.size fg cdg)) (.call (.ref f) ⟨[], []⟩)
        (CR (L2.CX X.prog X.w) (envOfC qg sg s.heap.objs.size fg cdg :: X.stack) X.prog X.w H1 s1 Q E1) s1 := by
      refine PySem.W.kla_callFunE rm.depth here rfl S.co S.gen rfl ⟨c', oc, vs, tt, rfl, hoc, hdc, hvc⟩ ?_
      rw [hbind]
      refine wpAny_pure (wpAny_newFunctionEnv (fun y hy => (S.own y hy).2) (fun y hy => absurd hy (by simp)) (fun h₁ hns hsb => ⟨I1.nolimit.fresh _ hsb, ?_⟩) S.kind)
      have kp : ∀ b o, s1.heap.get? b = some o → h₁.get? b = some o := fun b o e => hsb.extBut b o (Nat.ne_of_lt (Heap.lt_size e)) (Heap.get?_push_of_some _ e)
      have J := LamX.lam_start2 (E := E1) (f := f) (c' := c') (tk := s1.toks + ([] : List (Str × Value)).length) I S I1.env0 rm.hd un hns kp
      have czb := cz_lam (W := W) (X := X) (k := k) (A := X.A.deeper (envOfC qg sg s.heap.objs.size fg cdg)) (outer := envOfC qg sg s.heap.objs.size fg cdg :: X.stack) (s := s1) (H := H1) (E := E1) (scope := scope) (f := f) (c' := c') hK (rm.deeper _) gd nd
      refine PySem.W.kla_codeExpr (wpAny_mono ((hbody _ _ s1 H1 E1 czb (callC H1 g)).run [] _ _ H1 Q J ⟨g, slX, vh, h.call, r0, ?_⟩) (fun u s' hq => ?_) fun e s' hq => hq)
      · cases e : φ slX vh with
        | bad => rw [e] at q; exact q.elim
        | ok ev vh' =>
          rw [e] at q
          intro g1 H2 v1 i1 _ x1 p1
          obtain ⟨g2, i2, x2, p2⟩ := p1.freeze i1
          exact q g2 H2 v1 (h.back i2) ((hs.mono x1).mono x2) (x1.trans x2) p2
        | exc x vh' =>
          rw [e] at q
          exact fun g1 H2 c od i1 _ x1 p1 => q g1 H2 c od (h.back i1) (hs.mono x1) x1 p1
      · obtain ⟨w', H', J', rw', qq⟩ := hq
        exact ⟨w', H', J'.os, J'.bare, J'.base, J'.hok, rw', qq⟩
    refine wpAny_call (codeAny_mono run fun r s' hq => ?_)
    cases r with
    | error e => exact passAt cz.tk σZ pinsZ H1 s1 e s' I1 hq
    | ok fl =>
      cases fl with
      | ret u => exact I1.after hq
      | next => exact hq.elim
      | brk => exact hq.elim
      | cont => exact hq.elim
  · rw [if_neg hL] at q
    exact q.elim
end
/-! ### the def that gets the lambda -/
/-- a def's promise, called there and then -/
structure PFnA (W : Wd) (P : Program) (w : World) (mg : Str → Option Value) (base : Heap) (k : Nat) (f : Addr) (fd : FuncData) (ps : List Str) (Φ : Den) (A : Around) (outer : List Env) (s : Shared) (H : Hp) : Prop where
  run : ∀ (args : Args) (us : List Value) (vs : List V) (Q : VK) (E : XK), Room k A → A.guards = some [] → Env0 P w W.K mg base A outer s H → BindsTo s fd args (ps.zip us) → Vals vs us → spD W ps.length Φ vs H Q E →
    codeAny (model P w) A (.call (.ref f) args) (CR (CX P w) outer P w H s Q E) s
/-- its code object -/
def CodeAt (K : PySem.W.Frag) (f : Addr) (cd : Value) : Prop := ∃ oc od fd osl, K.lookup f = some ⟨oc, od, .func fd, osl⟩ ∧ fd.code = cd
theorem PFnA.mk' {W : Wd} {P : Program} {w : World} {mg : Str → Option Value} {base : Heap} {x qual : Str} {st : Stmt} {f : Addr} {fd : FuncData} {N ps : List Str} {k : Nat} {δ : SF} {A : Around} {outer : List Env} {s : Shared} {H : Hp}
    (F : Txt W.K x qual st f fd) (S : FnScope N ps (defScope st))
    (body : ∀ (cdv : Value) (E : XK), CodeAt W.K f cdv → Cz W (WxE E) k (cxOf (CX P w) P w W.K mg base N qual (defScope st) f cdv A outer s H E) →
      DSs W (WxE E) (cxOf (CX P w) P w W.K mg base N qual (defScope st) f cdv A outer s H E) (defBody st) δ) :
    PFnA W P w mg base (k + 1) f fd ps (runD N.length δ) A outer s H := by
  obtain ⟨oc, od, dV, kV, doc, pm, an, cdv, ct, osl, rfl, lk, hcd⟩ := F.ex
  constructor
  intro args us vs Q E hr hg e0 hb r ⟨g, ds, vh, h, rd, hl, q⟩
  have hlen : vs.length = ps.length := by rw [← rd.length]; exact hl
  have hpl : ps.length ≤ N.length := by
    have := congrArg List.length S.pre
    rw [List.length_take] at this
    omega
  have stay : ∀ b o, base.get? b = some o → s.heap.get? b = some o := fun b o e => (e0.bs b o e).1
  have hK : W.K.In s.heap := e0.mod.kin.keeps stay
  have hlim : s.heap.NoLimit := e0.mod.nolimit.keeps stay
  have kinds : ∀ y ∈ ps.zip us, (defScope st).names.lookup y.1 = some .local ∨
      ((defScope st).names.lookup y.1 = some .cell ∧ ((cellsFrom (s.heap.objs.size + 1) (defScope st).names []).lookup y.1).isSome = true) := by
    rintro ⟨n, v⟩ hy
    rcases S.par n (List.of_mem_zip hy).1 with z | z
    · exact .inl z
    · exact .inr ⟨z, PySem.W.cellsFrom_some _ _ _ (.inl z)⟩
  refine codeAny_call_function hr.depth (hK _ _ lk) rfl S.co S.gen rfl (PySem.W.codeRec_of hK hcd) (hb _ _ _ _ ?_)
  refine wpAny_newFunctionEnv_cells S.kind kinds fun env he s1 x => ?_
  subst he
  refine ⟨hlim.keeps x.toInCall.keep, codeAny_func ?_⟩
  have cz := cz_of (W := W) (P := P) (w := w) (mg := mg) (base := base) (qual := qual) (f := f) (cd := cdv) (outer := outer) (s := s) (H := H) (E := E) S (hr.deeper _) hg
  have I := inv_start (CX := CX P w) (E := E) (P := P) (K := W.K) (mg := mg) (qual := qual) (f := f) (cd := cdv) S hr.hd e0 hlen r x
  have B := body cdv E ⟨_, _, _, _, lk, rfl⟩ cz (callC H g)
  have q2 : PostS W (callC H g) (WxE E) g H (δ (slots N.length ds) vh) { nx := fun _ H' => Q .non H', rt := Q } := by
    unfold runD outD at q
    cases e : δ (slots N.length ds) vh with
    | bad => rw [e] at q; exact q
    | nx sl vh' => rw [e] at q; exact fun g1 H1 σ1 h1 s1 x1 => q g1 H1 .non h1 x1 (by simp [Rep])
    | rt d vh' => rw [e] at q; exact fun g1 H1 v h1 x1 r1 => q g1 H1 v h1 x1 r1
    | bk sl vh' => rw [e] at q; exact q.elim
    | ct sl vh' => rw [e] at q; exact q.elim
    | ex x sl vh' => rw [e] at q; exact fun g1 H1 σ c od h1 s1 x1 r1 => q g1 H1 c od h1 x1 r1
  refine wpAny_mono (B.run [] s1 (L2.start N vs) H _ I ⟨g, slots N.length ds, vh, h, relS_slots rd (by rw [hlen]; exact hpl), q2⟩) (fun fl s' hfl => ?_) fun e s' hx => hx
  cases fl with
  | ret u =>
    obtain ⟨v, σ', H', J, rv, qq⟩ := hfl
    exact ⟨v, H', J.os, J.bare, J.base, J.hok, rv, qq⟩
  | next =>
    obtain ⟨σ', H', J, qq⟩ := hfl
    exact ⟨V.non, H', J.os, J.bare, J.base, J.hok, rfl, qq⟩
  | brk =>
    obtain ⟨_, _, _, qq⟩ := hfl
    exact qq.elim
  | cont =>
    obtain ⟨_, _, _, qq⟩ := hfl
    exact qq.elim
section
variable {W : Wd} {C : Con} {Wx : WX} {X : Cx} {k t : Nat} {f : Addr} {fd : FuncData} {ps : List Str} {arr : List D → List D} {α : AF} {φ : EF} {x : Str} {p lpos pos : Pos} {es : List Expr} {params : Arguments} {body : Expr} {scope : Scope}
open Classical in
/-- g(lambda: .., e, ..): the same whatever the lambda's address -/
noncomputable def eLamC (t : Nat) (P : Addr) (q : Str) (arr : List D → List D) (Φ : D → (VH → R EV) → Den) (α : AF) (φ : EF) : EF := fun sl vh =>
  if vh[t]? = some (.tbl P q) then
    if h : ∃ r, ∀ f g H, ab α (fun ds _ vh1 => match Φ (.lam f g H) (fun v => φ sl v) (arr (.lam f g H :: ds)) vh1 with
      | .ok d vh' => .ok (.v d) vh'
      | .exc x vh' => .exc x vh'
      | .bad => .bad) sl vh = r then Classical.choose h else .bad
  else .bad
theorem x_lamC {P : Addr} {q : Str} {Φ : D → (VH → R EV) → Den} {sl : Sl} {vh : VH} {r : R EV} (h1 : vh[t]? = some (.tbl P q))
    (h2 : ∀ f g H, ab α (fun ds _ vh1 => match Φ (.lam f g H) (fun v => φ sl v) (arr (.lam f g H :: ds)) vh1 with
      | .ok d vh' => .ok (.v d) vh'
      | .exc x vh' => .exc x vh'
      | .bad => .bad) sl vh = r) : eLamC t P q arr Φ α φ sl vh = r := by
  have h : ∃ r, ∀ f g H, ab α (fun ds _ vh1 => match Φ (.lam f g H) (fun v => φ sl v) (arr (.lam f g H :: ds)) vh1 with
      | .ok d vh' => .ok (.v d) vh'
      | .exc x vh' => .exc x vh'
      | .bad => .bad) sl vh = r := ⟨r, h2⟩
  unfold eLamC
  rw [if_pos h1, dif_pos h, ← Classical.choose_spec h 0 ⟨fun _ => True, fun _ => 0, 0⟩ (fun _ => none), h2]
/-- g(lambda: .., e, ..) -/
theorem de_lamcall {P cc : Addr} {q : Str} {Φ : D → (VH → R EV) → Den} {np : Nat} {Ng : List Str} {qg a : Str} {sg : Scope} (cz : Cz W Wx (k + 2) X)
    (S : LamX.LamS X.env.scope scope) (TB : LamX.TabB X.base X.mg cc P) (hcode : X.env.code = .ref cc) (hq : q = X.env.qual ++ "<lambda>")
    (hdef : defaultsOf params X.env = ([], []))
    (hbind : ∀ (q : Str) (cl : List (Str × Addr)) (pm cv ctv : Value), bindArgs (PySem.W.kla_fn "<lambda>" q params body scope cl pm cv ctv) ⟨[], []⟩ = pure [])
    (F : ∀ (s : Shared) (H : Hp) (L : D) (ψ : VH → R EV),
      (∀ (cdv : Value) (E : XK), Act W (k + 1) (cxOf (CX X.prog X.w) X.prog X.w W.K X.mg X.base Ng qg sg f cdv X.A X.stack s H E) a (eAct 0 L ψ)) → PFnA W X.prog X.w X.mg X.base (k + 2) f fd ps (Φ L ψ) X.A X.stack s H)
    (hN : Ng[0]? = some a) (hv : Vis sg a) (had : (a == ("__debug__" : Str)) = false) (hacd : (a == ("__classdict__" : Str)) = false)
    (pt : Pat W fd ps (np + 1) [] arr) (hg : Gl X x) (hm : X.mg x = some (.ref f)) (hk : PySem.W.keepIn W.K (.ref f) = true)
    (hbody : ∀ (A : Around) (outer : List Env) (s1 : Shared) (HZ : Hp) (E : XK) (f1 c' : Addr), Cz W (WxE E) k (LamX.lamCx X A outer s1 HZ E scope f1 c') → DE W (WxE E) (LamX.lamCx X A outer s1 HZ E scope f1 c') body φ)
    (ha : DA W Wx X es α) (hn : es.length = np)
    (hdb : (x == ("__debug__" : Str)) = false) (he : starEach (.Lambda params body scope lpos :: es) X.env = (false, eval (.Lambda params body scope lpos) X.env) :: starEach es X.env) (hpl : (backTo pos (starEach es X.env)).any (·.1) = false)
    (hal : ∀ sl vh ds vh', α sl vh = .ok ds vh' → ds.length = np) :
    DE W Wx X (.Call (.Name x p) (.Lambda params body scope lpos :: es) [] pos) (eLamC t P q arr Φ α φ) := fun C => by
  subst hq
  refine ⟨fun pins s σ H Q I ⟨g, sl, vh, h, hs, q⟩ => ?_⟩
  unfold eLamC at q
  by_cases ht : vh[t]? = some (.tbl P (X.env.qual ++ "<lambda>"))
  · rw [if_pos ht] at q
    split at q
    · rename_i hh
      have spec := Classical.choose_spec hh
      generalize Classical.choose hh = r at q spec
      obtain ⟨_, TT⟩ := h.vh t _ ht
      refine wpAny_Call_Name_kw (ld_glob I hg hm ?_ hdb)
      have hk' : PySem.W.keepIn X.K (.ref f) = true := by rw [cz.K]; exact hk
      refine PySem.W.callWith_K (h₀ := X.base) I.ok.mod.kin hk' ?_ he hpl
      rw [he]
      show wpAny _ _ (spliced ((false, eval (.Lambda params body scope lpos) X.env) :: backTo pos (starEach es X.env))) _ _ s
      refine Calls.spliced_cons (lam_makeP I TB hcode TT hdef (S.has I.ok) fun f1 c' pm ct H1 s1 I1 gr T1 hf hfn hfr hco => ?_)
      obtain ⟨h1, x1⟩ := h.grown ht gr T1
      have I1p : Inv X ((f1, lamO X (X.env.qual ++ "<lambda>") params body scope pm ct c') :: pins) σ H1 s1 := I1.pins_of fun p hp => by
        rcases List.mem_cons.mp hp with rfl | hp
        · exact ⟨hf, hfn, hfr.1, hfr.2.1, fun v z => by cases z⟩
        · exact I1.pin p (List.mem_append_right _ hp)
      have TA : TDA W C Wx α σ H1 (fun v1 H2 => ∃ g2 ds vh1, α sl vh = .ok ds vh1 ∧ RelH W C g2 vh1 H2 ∧ RelS W g2 H2 sl σ ∧ Ext g H g2 H2 ∧ Ext g H1 g2 H2 ∧ Reps W g2 H2 ds v1) := by
        refine ⟨g, sl, vh, h1, hs.mono x1, ?_⟩
        have sp := spec 0 ⟨fun _ => True, fun _ => 0, 0⟩ (fun _ => none)
        unfold ab at sp
        cases e : α sl vh with
        | bad => rw [e] at sp; rw [← sp] at q; exact q
        | exc y vh' =>
          rw [e] at sp
          rw [← sp] at q
          exact fun g2 H2 c od a1 a2 a3 a4 => q g2 H2 c od a1 a2 (x1.trans a3) a4
        | ok ds vh1 => exact fun g2 H2 v1 a1 a2 a3 a4 => ⟨g2, ds, vh1, rfl, a1, a2, x1.trans a3, a3, a4⟩
      refine thn ((ha C).run pos _ s1 σ H1 _ I1p TA) fun us s2 ⟨vs, H2, I2, rv, g2, ds, vh1, eα, h2, s2', x2, x2', r2⟩ => ?_
      have I2u : Inv X pins σ H2 s2 := I2.pins_of fun p hp => I2.pin p (List.mem_append_right _ (List.mem_cons_of_mem _ hp))
      obtain ⟨pf, pn, _⟩ := I2.pin _ (List.mem_append_right _ (List.mem_cons_self ..))
      have hco2 := x2'.ex _ _ hco
      have sp := spec f1 g2 H2
      unfold ab at sp
      rw [eα] at sp
      dsimp only at sp
      have FF := F s2 H2 (.lam f1 g2 H2) (fun v => φ sl v) fun cdv E => act_of (cdg := cdv) (E0 := E) cz.K cz.K cz.gd cz.nd I2u S pf pn hfr.2.2 hco2 (hbind _ _ _ _ _) s2' (fun A outer s1 HZ E c => hbody A outer s1 HZ E f1 c' c) hN hv had hacd
      refine ⟨I2u.kIn, ?_⟩
      have lu : us.length = np := by rw [← rv.length, ← r2.length]; exact hal _ _ _ _ eα
      have KI : W.K.In s2.heap := by rw [← cz.K]; exact I2u.kIn
      have rL : Reps W g2 H2 (.lam f1 g2 H2 :: ds) (.ref f1 :: vs) := Reps.cons (by simp only [Rep]; exact ⟨trivial, Ext.refl _ _⟩) r2
      obtain ⟨us', vs', hb, rv', r', hl⟩ := pt.ok s2 (.ref f1 :: us) [] g2 H2 _ _ KI (by simp [lu]) rfl rL (by rw [List.append_nil]; exact .cons rfl rv)
      have E0 : Env0 X.prog X.w W.K X.mg X.base X.A X.stack s2 H2 := by rw [← cz.K]; exact I2u.env0
      refine wpAny_call (codeAny_mono (FF.run ⟨.ref f1 :: us, ([] : List Str).zip []⟩ us' vs' Q (fun c od H' => Wx c od σ H') cz.rm cz.gd E0 hb rv' ⟨g2, _, vh1, h2.call, r', hl, ?_⟩) fun rr s' hq => ?_)
      · rw [← sp] at q
        cases e : Φ (.lam f1 g2 H2) (fun v => φ sl v) (arr (.lam f1 g2 H2 :: ds)) vh1 with
        | bad => rw [e] at q; exact q.elim
        | ok d vh' => rw [e] at q; exact fun g1 H1 v i1 x1 p1 => q g1 H1 v (h2.back i1) (s2'.mono x1) (x2.trans x1) p1
        | exc x vh' => rw [e] at q; exact fun g1 H1 c od i1 x1 p1 => q g1 H1 c od (h2.back i1) (s2'.mono x1) (x2.trans x1) p1
      · cases rr with
        | error e => exact passAt cz.tk σ pins H2 s2 e s' I2u hq
        | ok fl =>
          cases fl with
          | ret u => exact I2u.after hq
          | next => exact hq.elim
          | brk => exact hq.elim
          | cont => exact hq.elim
    · exact q.elim
  · rw [if_neg ht] at q
    exact q.elim
end
end PM

/-! PM60: the law's end, where the law makes lambdas. -/
namespace PM
open PySem L2
noncomputable section
/-- the maker's code object cc and its table P -/
structure MkT (K : PySem.W.Frag) (f cc P : Addr) : Prop where
  at_ : ∃ oc od fd osl, K.lookup f = some ⟨oc, od, .func fd, osl⟩ ∧ fd.code = .ref cc
  hd : PySem.W.codeHdIn K cc P = true
  out : K.lookup P = none
open PySem.Spec PyProof.Rows in
theorem tab_base {K : PySem.W.Frag} {mg : Str → Option Value} {s1 : Shared} {H : Hp} {cc P : Addr}
    (kB : K.In (hidT s1.heap H)) (C : PySem.W.codeHdIn K cc P = true) (gl : s1.heap.Ns mainGlobals mg)
    (bm : ∃ (b : Addr) (ob : Obj), mg "__builtins__" = some (.ref b) ∧ b ≠ builtinsNs ∧ s1.heap.get? b = some ob ∧ ob.cls = .type "module" ∧ ob.dict = some builtinsNs ∧ ob.data = .plain)
    (eT : s1.heap.get? P = some { cls := .none, data := .fields #[] })
    (un : ∀ b o, s1.heap.get? b = some o → (o.data = .plain ∨ ∃ es ep, o.data = .dict es ep) → H b = none) : LamX.TabB (hidT s1.heap H) mg cc P := by
  obtain ⟨b, ob, e1, e2, e3, e4, e5, e6⟩ := bm
  obtain ⟨og, es, ep, g1, g2, _⟩ := gl
  have nG : mainGlobals ≠ P := fun z => by
    rw [z, eT] at g1
    cases g1
    cases g2
  refine ⟨PySem.W.codeHd_of_K kB C, ⟨b, ob, e1, e2, fun z => ?_, fun z => ?_, hidT_get e3 (un b ob e3 (.inl e6)), e4, e5, e6⟩, nG⟩
  · rw [z, g1] at e3
    cases e3
    rw [g2] at e6
    cases e6
  · rw [z, eT] at e3
    cases e3
    cases e6
open PySem.Spec PyProof.Rows in
theorem law_core1 {P : Program} {w : World} {W : Wd} {mg mb : Str → Option Value} {k : Nat} {fa a cc T : Addr} {q : Str} {fd : FuncData} {x : Str} {Φ : Den} {s1 : Shared} {us : List Value} {ns : List Int} {H : Hp}
    (kIn : W.K.In s1.heap) (gl : s1.heap.Ns mainGlobals mg) (bl : s1.heap.Ns builtinsNs mb) (bls : ∀ y : Str, y ≠ "__name__" → mb y = bootBuiltins y) (nl : s1.heap.NoLimit) (gens : s1.gens = #[])
    (bm : ∃ (b : Addr) (ob : Obj), mg "__builtins__" = some (.ref b) ∧ b ≠ builtinsNs ∧ s1.heap.get? b = some ob ∧ ob.cls = .type "module" ∧ ob.dict = some builtinsNs ∧ ob.data = .plain)
    (M : MkT W.K fa cc T) (eT : s1.heap.get? T = some { cls := .none, data := .fields #[] }) (HT : H T = some (.tbl #[])) (hT : a ≠ T)
    (tr : ∀ b u, H b = some u → b = T ∨ (b = a ∧ W.K.lookup b = none ∧ ∃ o xs, u = .frz o (.lst xs) ∧ s1.heap.get? b = some o)) (sq : ∀ b u o, H b = some u → s1.heap.get? b = some o → (o.data = .plain ∨ ∃ es ep, o.data = .dict es ep) → False) (hok : HOk P w H s1.heap)
    (room : Room k callerA) (F : ∀ base : Heap, W.K.In base → base.Ns mainGlobals mg → LamX.TabB base mg cc T → PFn W P w mg base k fa fd [x] Φ) (bind : ∀ (s : Shared) (u : Value), BindsTo s fd ⟨[u], []⟩ [(x, u)])
    (vh' : VH) (hΦ : Φ [.scr ns] [.tbl T q] = .ok (.bl true) vh') (scrF : SqL W.K noH a (ns.map V.int) ∨ ∃ o, H a = some (.frz o (.lst (ns.map V.int)))) :
    codeAny (model P w) callerA (.call (.ref fa) ⟨[.ref a], []⟩) (fun r s' => r = .ok (.ret (.bool true)) ∧ OldK s1.heap s'.heap ∧ s'.os = s1.os ∧ AllBare s'.gens) s1 := by
  have un : ∀ b o, s1.heap.get? b = some o → (o.data = .plain ∨ ∃ es ep, o.data = .dict es ep) → H b = none := by
    intro b o e d
    cases q : H b with
    | none => rfl
    | some u => exact (sq b u o q e d).elim
  have keepNs : ∀ (b : Addr) (m : Str → Option Value), s1.heap.Ns b m → (hidT s1.heap H).Ns b m := by
    rintro b m ⟨o, es, ep, e, d, rest⟩
    exact ⟨o, es, ep, hidT_get e (un b o e (.inr ⟨es, ep, d⟩)), d, rest⟩
  have kB : W.K.In (hidT s1.heap H) := by
    intro b o e
    refine hidT_get (kIn b o e) ?_
    cases q : H b with
    | none => rfl
    | some u =>
      rcases tr b u q with rfl | ⟨_, z, _⟩
      · rw [M.out] at e; cases e
      · rw [z] at e; cases e
  obtain ⟨mc, nl1, nl2⟩ := nl
  have Md : Mod W.K mg (hidT s1.heap H) := { kin := kB, glob := keepNs _ _ gl, blt := ⟨mb, keepNs _ _ bl, bls⟩, nolimit := ⟨mc, keepNs _ _ nl1, nl2⟩ }
  have E : Env0 P w W.K mg (hidT s1.heap H) callerA [] s1 H := { frames := rfl, mod := Md, bs := fun b o e => of_hidT e, bsz := Nat.le_of_eq (hidT_size _ _), funs := trivial, frf := fun b hb => (nomatch hb), hok := hok, bare := .of_eq gens }
  have TB := tab_base (mg := mg) kB M.hd gl bm eT un
  let g0 : Gh := ⟨fun b => H b ≠ none ∧ b ≠ T, fun _ => T, 1⟩
  have R : RelH W (callC H g0) g0 [.tbl T q] H :=
    { len := rfl
      vh := fun i o e => by
        cases i with
        | zero =>
          cases e
          exact ⟨rfl, LamX.TabS.nil HT⟩
        | succ i => cases e
      inj := fun i j hi hj _ => by
        have hi : i < 1 := hi
        have hj : j < 1 := hj
        omega
      nf := fun i hi hh => hh.2 rfl
      ff := fun b hb => hb.1
      fr := fun b hb => ⟨rfl, hb.1⟩
      nfr := fun i hi hb => hb.2 i hi rfl
      pd := fun b hb => hb }
  have rs : Rep W g0 H (.scr ns) (.ref a) := by
    simp only [Rep]
    refine ⟨a, rfl, ?_⟩
    rcases scrF with z | ⟨o, z⟩
    · exact .inr z
    · exact .inl ⟨⟨by rw [z]; exact fun y => (nomatch y), hT⟩, o, z⟩
  have sp : spD W 1 Φ [.ref a] H (fun v _ => v = .bl true) (fun _ _ _ => False) := by
    refine ⟨g0, [.scr ns], [.tbl T q], R, Reps.one rs, rfl, ?_⟩
    rw [hΦ]
    exact fun g1 H1 v _ _ r1 => by simpa only [Rep] using r1
  refine codeAny_mono ((F _ kB (keepNs _ _ gl) TB).run callerA [] s1 H ⟨[.ref a], []⟩ [.ref a] [.ref a] (fun v _ => v = .bl true) (fun _ _ _ => False) room rfl E (bind s1 (.ref a)) (.cons rfl .nil) sp) ?_
  intro r s2 out
  cases r with
  | error e =>
    obtain ⟨_, _, _, _, _, _, _, _, _, _, _, _, z⟩ := out
    exact z.elim
  | ok fl =>
    cases fl with
    | next => exact out.elim
    | brk => exact out.elim
    | cont => exact out.elim
    | ret u =>
      obtain ⟨v, H2, os2, bare2, un2, hok2, rv, rfl⟩ := out
      cases rv
      have key : ∀ b o, b ≠ T → s1.heap.get? b = some o → s2.heap.get? b = some o := by
        intro b o nb e
        cases q : H b with
        | none => exact un2.keep b o e q (fun z => nomatch z) (fun z => nomatch z)
        | some u =>
          rcases tr b u q with rfl | ⟨_, _, ob, xs, rfl, eo⟩
          · exact absurd rfl nb
          · have := (hok2 b _ (un2.frzs b ob _ q)).1
            rw [eo] at e
            cases e
            exact this
      obtain ⟨more, z2⟩ := un2.tbls T #[] HT
      have grown : s2.heap.get? T = some { cls := .none, data := .fields (#[] ++ more) } := hok2 T _ z2
      refine ⟨rfl, ⟨fun b o e => ?_, fun b o e => ?_⟩, os2, bare2⟩
      · by_cases hb : b = T
        · subst hb
          rw [eT] at e
          cases e
          refine .inr (.inl ⟨((PySem.W.codeHd_of_K kIn M.hd).tab eT).isCodeTable, rfl, #[], more, rfl, grown⟩)
        · exact .inl (key b o hb e)
      · by_cases hb : b = T
        · subst hb
          exact ⟨_, grown⟩
        · exact ⟨o, key b o hb e⟩
open PySem.Spec PyProof.Rows in
theorem law_end1 {P : Program} {w : World} {W : Wd} {mg mb : Str → Option Value} {k : Nat} {fa a cc T : Addr} {q : Str} {fd : FuncData} {x : Str} {Φ : Den} {s1 : Shared} {us : List Value} {ns : List Int}
    (kIn : W.K.In s1.heap) (gl : s1.heap.Ns mainGlobals mg) (bl : s1.heap.Ns builtinsNs mb) (bls : ∀ y : Str, y ≠ "__name__" → mb y = bootBuiltins y) (nl : s1.heap.NoLimit) (gens : s1.gens = #[])
    (bm : ∃ (b : Addr) (ob : Obj), mg "__builtins__" = some (.ref b) ∧ b ≠ builtinsNs ∧ s1.heap.get? b = some ob ∧ ob.cls = .type "module" ∧ ob.dict = some builtinsNs ∧ ob.data = .plain)
    (M : MkT W.K fa cc T) (eT : s1.heap.get? T = some { cls := .none, data := .fields #[] })
    (at' : s1.heap.get? a = some { cls := .type "list", data := .seq us.toArray }) (its : IntsAre us ns) (len : ns.length ≤ sizeLine)
    (room : Room k callerA) (F : ∀ base : Heap, W.K.In base → base.Ns mainGlobals mg → LamX.TabB base mg cc T → PFn W P w mg base k fa fd [x] Φ) (bind : ∀ (s : Shared) (u : Value), BindsTo s fd ⟨[u], []⟩ [(x, u)])
    (vh' : VH) (hΦ : Φ [.scr ns] [.tbl T q] = .ok (.bl true) vh') :
    codeAny (model P w) callerA (.call (.ref fa) ⟨[.ref a], []⟩) (fun r s' => r = .ok (.ret (.bool true)) ∧ OldK s1.heap s'.heap ∧ s'.os = s1.os ∧ AllBare s'.gens) s1 := by
  have vals := vals_ints its
  have nT : a ≠ T := fun z => by rw [z, eT] at at'; cases at'
  have dT : ∀ o, s1.heap.get? T = some o → (o.data = .plain ∨ ∃ es ep, o.data = .dict es ep) → False := by
    intro o e d
    rw [eT] at e
    cases e
    rcases d with d | ⟨_, _, d⟩ <;> cases d
  cases lk : W.K.lookup a with
  | some o =>
    have eo := kIn a o lk
    rw [at'] at eo
    cases eo
    have sc : SqL W.K noH a (ns.map V.int) := .inr ⟨_, us.toArray, _, lk, rfl, rfl, rfl, by rw [List.size_toArray, its.length]; exact len, by simpa using vals⟩
    have only : ∀ b u, upd noH T (.tbl #[]) b = some u → b = T ∧ u = .tbl #[] := by
      intro b u z
      by_cases hb : b = T
      · subst hb
        rw [upd_same] at z
        cases z
        exact ⟨rfl, rfl⟩
      · rw [upd_ne hb] at z
        cases z
    refine law_core1 (H := upd noH T (.tbl #[])) (us := us) kIn gl bl bls nl gens bm M eT upd_same nT (fun b u z => .inl (only b u z).1) (fun b u o z e d => ?_) (fun b u z => ?_) room F bind vh' hΦ (.inl sc)
    · obtain ⟨rfl, _⟩ := only b u z
      exact dT o e d
    · obtain ⟨rfl, rfl⟩ := only b u z
      exact eT
  | none =>
    let so : Obj := { cls := .type "list", data := .seq us.toArray }
    let H : Hp := upd (upd noH T (.tbl #[])) a (.frz so (.lst (ns.map V.int)))
    have only : ∀ b u, H b = some u → (b = a ∧ u = .frz so (.lst (ns.map V.int))) ∨ (b = T ∧ u = .tbl #[]) := by
      intro b u z
      by_cases hb : b = a
      · subst hb
        rw [show H b = _ from upd_same] at z
        cases z
        exact .inl ⟨rfl, rfl⟩
      · rw [show H b = upd noH T (.tbl #[]) b from upd_ne hb] at z
        by_cases h2 : b = T
        · subst h2
          rw [upd_same] at z
          cases z
          exact .inr ⟨rfl, rfl⟩
        · rw [upd_ne h2] at z
          cases z
    have HT : H T = some (.tbl #[]) := by
      rw [show H T = upd noH T (.tbl #[]) T from upd_ne (Ne.symm nT)]
      exact upd_same
    refine law_core1 (H := H) (us := us) kIn gl bl bls nl gens bm M eT HT nT ?_ ?_ ?_ room F bind vh' hΦ (.inr ⟨so, upd_same⟩)
    · intro b u z
      rcases only b u z with ⟨rfl, rfl⟩ | ⟨rfl, rfl⟩
      · exact .inr ⟨rfl, lk, so, _, rfl, at'⟩
      · exact .inl rfl
    · intro b u o z e d
      rcases only b u z with ⟨rfl, rfl⟩ | ⟨rfl, rfl⟩
      · rw [at'] at e
        cases e
        rcases d with d | ⟨_, _, d⟩ <;> cases d
      · exact dT o e d
    · intro b u z
      rcases only b u z with ⟨rfl, rfl⟩ | ⟨rfl, rfl⟩
      · exact ⟨at', by rw [List.length_map]; exact len, us, _, vals, at'⟩
      · exact eT
open PySem.Spec PyProof.Rows in
/-- law_walk, where the law makes lambdas -/
theorem law_walk1 {l : PySem.W.OpenLaw} {n k : Nat} {q : Program} {loose : List Str} {XP : (Str → Option Value) → Heap → Prop} {YP : World → Heap → Prop} {d : DefRec} {x : Str}
    (hn : l.most = some n) (hn2 : n ≤ sizeLine) (hdf : d.params.defaults = []) (room : Room k callerA)
    (F : ∀ (w : World) (mg : Str → Option Value) (fa : Addr) (h : Heap), YP w h → h.Ns mainGlobals mg → mg d.name = some (.ref fa) →
      ∃ (W : Wd) (fd : FuncData) (Φ : Den) (cc T : Addr) (qn : Str), W.K.In h ∧ MkT W.K fa cc T ∧ h.get? T = some { cls := .none, data := .fields #[] } ∧ (∀ (s : Shared) (u : Value), BindsTo s fd ⟨[u], []⟩ [(x, u)]) ∧ (∀ ns : List Int, ns.length ≤ n → ∃ vh', Φ [.scr ns] [.tbl T qn] = .ok (.bl true) vh') ∧
        ∀ base : Heap, W.K.In base → base.Ns mainGlobals mg → LamX.TabB base mg cc T → PFn W l.prog w mg base k fa fd [x] Φ) :
    PySem.W.WalkO q loose XP YP l.row.toRowW d [] (fun f vs => PySem.call f vs) := by
  refine Att.attach_call hn hdf ?_
  intro w s0 s1 mg mb fa o pm cd doc a us ns G Y _ _ _ hmg at' its len gens
  obtain ⟨W, fd, Φ, cc, T, qn, kIn, M, eT, bind, law, P⟩ := F w mg fa _ Y G.T.g hmg
  obtain ⟨vh', hΦ⟩ := law ns len
  exact law_end1 kIn G.T.g G.T.b G.T.builtins G.T.nolimit gens G.T.bmain M eT at' its (Nat.le_trans len hn2) room P bind vh' hΦ
/-- a maker by its body: its code object is known -/
theorem PFn.mkT' {W : Wd} {P : Program} {w : World} {mg : Str → Option Value} {base : Heap} {x qual : Str} {st : Stmt} {f cc T : Addr} {fd : FuncData} {N ps : List Str} {k : Nat} {δ : SF}
    (F : Txt W.K x qual st f fd) (M : MkT W.K f cc T) (S : FnScope N ps (defScope st))
    (body : ∀ (A : Around) (outer : List Env) (s : Shared) (H : Hp) (E : XK), Cz W (WxE E) k (cxOf (CX P w) P w W.K mg base N qual (defScope st) f (.ref cc) A outer s H E) →
      DSs W (WxE E) (cxOf (CX P w) P w W.K mg base N qual (defScope st) f (.ref cc) A outer s H E) (defBody st) δ) :
    PFn W P w mg base (k + 1) f fd ps (runD N.length δ) := by
  constructor
  intro A outer s H args us vs Q E hr hg e0 hb r sp
  refine (PFnA.mk' (k := k) F S fun cdv E ca cz => ?_).run args us vs Q E hr hg e0 hb r sp
  obtain ⟨_, _, _, _, l1, rfl⟩ := ca
  obtain ⟨_, _, _, _, l2, e2⟩ := M.at_
  rw [l1] at l2
  cases l2
  rw [e2] at cz ⊢
  exact body A outer s H E cz
end
end PM

/-! PM61: x.upper(); a Hook that also tells of makers' tables. -/
namespace PM
open PySem L2
def pUp : D → Option EV
  | .str x => if x.length ≤ 5592405 then some (.v (.str (Txt.upper x))) else none
  | _ => none
section
variable {W : Wd} {C : Con} {Wx : WX} {X : Cx} {g g0 : Gh} {H H0 : Hp} {σ : L2.St} {sl : Sl} {vh : VH} {φ : EF} {o : Expr} {apos pos : Pos}
theorem de_upper (ho : DE W Wx X o φ) (hbase : attributeBase o "upper" X.env (eval o X.env) = eval o X.env := by rfl) (hline : (apos.endLine == pos.line) = true := by rfl) : DE W Wx X (.Call (.Attribute o "upper" apos) [] [] pos) (e1 pUp φ) := fun C =>
  pe_imp (pe_upper (ho C) hbase hline) fun σ H Q ⟨g, sl, vh, h, hs, q⟩ =>
  (TDE.bind h hs (Ext.refl g H) q).mono fun v1 H1 ⟨g2, vh2, d1, i2, s2, x2, x2', p2, q2⟩ => by
    have r := i2.view p2
    cases e : view vh2 d1 with
    | str x =>
      rw [e] at r q2
      have rx := r.str
      subst rx
      by_cases hl : x.length ≤ 5592405
      · simp only [pUp, if_pos hl, lift] at q2
        exact ⟨⟨x, rfl⟩, x, rfl, rfl, hl, q2 g2 H1 _ i2 s2 x2 (by simp only [RepE, Rep])⟩
      · simp only [pUp, if_neg hl, lift] at q2
        exact q2.elim
    | _ => rw [e] at q2; simp only [pUp, lift] at q2; exact q2.elim
end
/-! ### the Hook -/
def obM (as : List Addr) (fa : List He.Fa) (fn : List He.DefD) (ts : List He.Tab) (tf : List He.Defn) (ex : PySem.W.Frag → Bool) (g : Addr → Option Obj) : He.AlX :=
  (He.obsT fa fn ts (He.frT g as), ex (He.frT g as) && He.tabsB g tf (He.frT g as))
theorem obM_says {as : List Addr} {fa : List He.Fa} {fn : List He.DefD} {ts : List He.Tab} {tf : List He.Defn} {ex : PySem.W.Frag → Bool} {w : World} {h : Heap}
    (e : obM as fa fn ts tf ex h.get? = He.valX fn ts w) : He.SaysX fa fn ts tf ex w h (He.frT h.get? as) := by
  obtain ⟨e1, e2⟩ := Prod.mk.inj e
  have e2 : (ex (He.frT h.get? as) && He.tabsB h.get? tf (He.frT h.get? as)) = true := e2
  rw [Bool.and_eq_true] at e2
  have key : ∀ p ∈ tf, PySem.W.codeHdIn (He.frT h.get? as) (He.cT (He.frT h.get? as) p).1 (He.cT (He.frT h.get? as) p).2 = true ∧ ∃ o, h.get? (He.cT (He.frT h.get? as) p).2 = some o ∧ He.emptyTab o = true := fun p hp => by
    have z := List.all_eq_true.mp e2.2 p hp
    rw [Bool.and_eq_true] at z
    refine ⟨z.1, ?_⟩
    have z2 := z.2
    cases q : h.get? (He.cT (He.frT h.get? as) p).2 with
    | none => rw [q] at z2; cases z2
    | some o => rw [q] at z2; exact ⟨o, rfl, z2⟩
  refine ⟨e1, e2.1, fun p hp => (key p hp).1, fun p hp => ?_, fun p hp => ?_⟩
  · obtain ⟨_, o, q, z⟩ := key p hp
    exact He.frT_none q z
  · obtain ⟨_, o, q, z⟩ := key p hp
    rw [q, He.emptyTab_eq z]
def hookM (as : List Addr) (fa : List He.Fa) (fn : List He.DefD) (ts : List He.Tab) (tf : List He.Defn) (ex : PySem.W.Frag → Bool) : PySem.W.Hook :=
  ⟨He.AlX, fun s => obM as fa fn ts tf ex s.heap.get?, He.valX fn ts, fun w h => ∃ K : PySem.W.Frag, K.In h ∧ He.SaysX fa fn ts tf ex w h K,
   fun _ _ e => ⟨_, He.frT_in, obM_says e⟩, (He.hookX 0 fa fn ts tf ex).keeps⟩
theorem obM_eq {as : List Addr} {fa : List He.Fa} {fn : List He.DefD} {ts : List He.Tab} {tf : List He.Defn} {ex : PySem.W.Frag → Bool} {g : Addr → Option Obj} {s : Shared}
    (h : ∀ a, g a = s.heap.get? a) : obM as fa fn ts tf ex g = (hookM as fa fn ts tf ex).obs s := by
  cases funext h
  rfl
/-- what is told of a maker -/
theorem mkT_of {K : PySem.W.Frag} {fa : List He.Fa} {fn : List He.DefD} {ts : List He.Tab} {tf : List He.Defn} {ex : PySem.W.Frag → Bool} {w : World} {h : Heap} {p : He.Defn} {x qual : Str} {st : Stmt} {f : Addr} {fd : FuncData}
    (c : He.SaysX fa fn ts tf ex w h K) (hp : p ∈ tf) (F : Txt K x qual st f fd) (ef : f = He.fAd K p) :
    MkT K f (He.cT K p).1 (He.cT K p).2 ∧ h.get? (He.cT K p).2 = some { cls := .none, data := .fields #[] } := by
  subst ef
  obtain ⟨oc, od, dV, kV, doc, pm, an, cdv, ct, osl, rfl, lk, hcd⟩ := F.ex
  obtain ⟨cc, ec⟩ : ∃ cc, cdv = .ref cc := by
    unfold PySem.W.codeIn at hcd
    split at hcd
    · exact ⟨_, rfl⟩
    · cases hcd
  have e := He.codeOf_eq lk (show (PySem.W.fnOf x qual (defArgs st) (defBody st) (defScope st) dV kV doc pm an cdv ct).code = .ref cc from ec)
  refine ⟨⟨⟨oc, od, _, osl, lk, ?_⟩, c.hd p hp, c.out p hp⟩, c.empty p hp⟩
  show cdv = .ref (He.codeOf K p)
  rw [e, ec]
theorem fact_in {fa : List He.Fa} {fn : List He.DefD} {K : PySem.W.Frag} (c : He.SaysD fa fn K) {f : He.Fa} (h : (fa.any fun g => match g, f with | .glo x, .glo y => x == y | _, _ => false) = true) (hf : ∃ x, f = .glo x) : f.ok K = true := by
  obtain ⟨g, hg, e⟩ := List.any_eq_true.mp h
  obtain ⟨x, rfl⟩ := hf
  cases g <;> simp at e
  subst e
  exact c.facts hg
end PM

namespace PM
/-! the marks of a way alone -/
structure MS where
  mark : Int
  last : Int
  lm : List Int
  em : List Int
  ll : Int
  le : Int
def MS.next (h : Int) (s : MS) (a c : Bool) : MS where
  mark := if s.em.head? = some s.mark then (s.mark + 1) % (2 * h + 1) else s.mark
  last := s.lm.head?.getD s.last
  lm := s.lm.tail ++ (if a then [] else [s.mark])
  em := s.em.tail ++ (if c then [] else s.lm.take 1)
  ll := if a then s.ll + 1 else 0
  le := if s.lm = [] then s.le else if c then s.le + 1 else 0
def encM (h s0 : Int) (k : Nat) : Int := (s0 + k) % (2 * h + 1)
/-- behind i beats: what is left of the first things, and behind these what the sender sent, numbered on without an end -/
structure Ph1 (h : Int) (i : Nat) (s : MS) (s0 : Int) (S : Nat) (pe : List Int) (ge : List Nat) (pl : List Int) (gl : List Nat) : Prop where
  e : s.em = pe ++ ge.map (encM h s0)
  l : s.lm = pl ++ gl.map (encM h s0)
  mr : s.mark = encM h s0 S
  si : S ≤ i
  ne : pl ≠ [] → ge = []
  so : (ge ++ gl).Pairwise (· ≤ ·)
  le : ∀ x ∈ ge ++ gl, x ≤ S
  pl : pl = [] ∨ (pl.length : Int) + i ≤ h
  pe : pe = [] ∨ (pe.length : Int) + i ≤ 2 * h
  la : ge ≠ [] → ∃ R, s.last = encM h s0 R ∧ (∀ x ∈ ge, x ≤ R) ∧ (∀ x ∈ gl, R ≤ x) ∧ R ≤ S
theorem Ph1.tail {h : Int} {pe : List Int} {ge : List Nat} {f : Nat → Int} (em : List Int) (e : em = pe ++ ge.map f) : ∃ pe' ge', em.tail = pe' ++ ge'.map f ∧ ge'.Sublist ge ∧ (pe' = [] ∨ pe'.length + 1 = pe.length) ∧ (pe ≠ [] → ge' = ge) := by
  subst e
  cases pe with
  | nil => exact ⟨[], ge.tail, by simp, List.tail_sublist _, .inl rfl, fun z => absurd rfl z⟩
  | cons x pe => exact ⟨pe, ge, rfl, List.Sublist.refl _, .inr rfl, fun _ => rfl⟩
theorem encM_succ {h s0 : Int} {k : Nat} (hh : 1 ≤ h) : (encM h s0 k + 1) % (2 * h + 1) = encM h s0 (k + 1) := by
  unfold encM
  rw [Int.emod_add_emod]
  congr 1
  omega
theorem Ph1.step {h : Int} {i : Nat} {s : MS} {s0 : Int} {S : Nat} {pe : List Int} {ge : List Nat} {pl : List Int} {gl : List Nat} (k : Ph1 h i s s0 S pe ge pl gl) (hh : 1 ≤ h) (hi : (i : Int) < 2 * h) (el : (s.em.length : Int) ≤ h) (a c : Bool) :
    ∃ S' pe' ge' pl' gl', Ph1 h (i + 1) (s.next h a c) s0 S' pe' ge' pl' gl' := by
  obtain ⟨S', hS, hS0, hS1⟩ : ∃ S' : Nat, (s.next h a c).mark = encM h s0 S' ∧ S ≤ S' ∧ S' ≤ S + 1 := by
    simp only [MS.next]
    split
    · exact ⟨S + 1, by rw [k.mr, encM_succ hh], by omega, by omega⟩
    · exact ⟨S, k.mr, by omega, by omega⟩
  have hsi := k.si
  obtain ⟨pt, gt, et, st, ht, ut⟩ := Ph1.tail (h := h) s.em k.e
  have mk := k.mr
  -- all that was sent, with what is sent now
  have big : ((ge ++ gl) ++ [S]).Pairwise (· ≤ ·) := List.pairwise_append.mpr ⟨k.so, by simp, fun x hx y hy => by rw [List.mem_singleton.mp hy]; exact k.le x hx⟩
  have bigS : ∀ x ∈ (ge ++ gl) ++ [S], x ≤ S := fun x hx => (List.mem_append.mp hx).elim (k.le x) fun z => by rw [List.mem_singleton.mp z]; exact Nat.le_refl _
  obtain ⟨nw, hn, hnm⟩ : ∃ nw : List Nat, nw.Sublist [S] ∧ (if a then [] else [s.mark]) = nw.map (encM h s0) := by
    cases a
    · exact ⟨[S], List.Sublist.refl _, by simp [mk]⟩
    · exact ⟨[], List.nil_sublist _, rfl⟩
  cases pl with
  | cons y pl =>
    have g0 := k.ne (by simp)
    subst g0
    have hl : s.lm = y :: (pl ++ gl.map (encM h s0)) := k.l
    have hp := k.pl.resolve_left (by simp)
    simp only [List.length_cons] at hp
    refine ⟨S', (s.next h a c).em, [], pl, gl ++ nw, by simp, ?_, hS, by omega, fun _ => rfl, ?_, ?_, .inr (by omega), .inr ?_, fun z => absurd rfl z⟩
    · simp only [MS.next, hl, List.tail_cons, hnm, List.map_append, List.append_assoc]
    · exact List.Pairwise.sublist (by simpa using hn) big
    · intro x hx
      exact Nat.le_trans (bigS x (List.Sublist.subset (by simpa using hn) hx)) hS0
    · simp only [MS.next, List.length_append, List.length_tail]
      have : (if c = true then [] else s.lm.take 1).length ≤ 1 := by split <;> simp; omega
      omega
  | nil =>
    cases gl with
    | nil =>
      have hl : s.lm = [] := by rw [k.l]; rfl
      refine ⟨S', pt, gt, [], nw, ?_, ?_, hS, by omega, fun z => absurd rfl z, ?_, ?_, .inl rfl, ?_, ?_⟩
      · simp only [MS.next, hl, List.take_nil, et]; simp
      · simp only [MS.next, hl, List.tail_nil, hnm]
      · exact List.Pairwise.sublist (List.Sublist.append (by simpa using st) hn) big
      · intro x hx
        exact Nat.le_trans (bigS x (List.Sublist.subset (List.Sublist.append (by simpa using st) hn) hx)) hS0
      · rcases ht with ht | ht
        · exact .inl ht
        · rcases k.pe with z | z
          · rw [z] at ht; simp at ht
          · exact .inr (by omega)
      · intro z
        obtain ⟨R, r1, r2, r3, r4⟩ := k.la (fun y => z (by subst y; exact List.sublist_nil.mp st))
        refine ⟨R, by simp only [MS.next, hl]; simpa using r1, fun x hx => r2 x (st.subset hx), fun x hx => ?_, by omega⟩
        have := List.mem_singleton.mp (hn.subset hx)
        omega
    | cons g gl =>
      have hl : s.lm = encM h s0 g :: gl.map (encM h s0) := by rw [k.l]; rfl
      obtain ⟨cw, hc, hcm⟩ : ∃ cw : List Nat, cw.Sublist [g] ∧ (if c then [] else s.lm.take 1) = cw.map (encM h s0) := by
        cases c
        · exact ⟨[g], List.Sublist.refl _, by simp [hl]⟩
        · exact ⟨[], List.nil_sublist _, rfl⟩
      have sub : ((gt ++ cw) ++ (gl ++ nw)).Sublist ((ge ++ g :: gl) ++ [S]) := by
        have := List.Sublist.append (List.Sublist.append st hc) (List.Sublist.append (List.Sublist.refl gl) hn)
        simpa using this
      have gb : g ≤ S := k.le g (by simp)
      have so := k.so
      rw [List.pairwise_append] at so
      refine ⟨S', pt, gt ++ cw, [], gl ++ nw, ?_, ?_, hS, by omega, fun z => absurd rfl z, List.Pairwise.sublist sub big, fun x hx => Nat.le_trans (bigS x (sub.subset hx)) hS0, .inl rfl, ?_, ?_⟩
      · simp only [MS.next, et, hcm, List.map_append, List.append_assoc]
      · simp only [MS.next, hl, List.tail_cons, hnm, List.map_append, List.nil_append]
      · rcases ht with ht | ht
        · exact .inl ht
        · rcases k.pe with z | z
          · rw [z] at ht; simp at ht
          · exact .inr (by omega)
      · intro _
        refine ⟨g, by simp [MS.next, hl], fun x hx => ?_, fun x hx => ?_, by omega⟩
        · rcases List.mem_append.mp hx with z | z
          · exact so.2.2 x (st.subset z) g (by simp)
          · have := List.mem_singleton.mp (hc.subset z)
            omega
        · rcases List.mem_append.mp hx with z | z
          · exact (List.pairwise_cons.mp so.2.1).1 x z
          · have := List.mem_singleton.mp (hn.subset z)
            omega
theorem Ph1.start {h : Int} {s : MS} (hm0 : 0 ≤ s.mark) (hm1 : s.mark ≤ 2 * h) (el : (s.em.length : Int) ≤ h) (ll : (s.lm.length : Int) ≤ h) : Ph1 h 0 s s.mark 0 s.em [] s.lm [] := by
  refine ⟨by simp, by simp, ?_, Nat.le_refl _, fun _ => rfl, by simp, by simp, .inr (by simpa using ll), .inr (by simp; omega), fun z => absurd rfl z⟩
  unfold encM
  simp
  rw [Int.emod_eq_of_lt (by omega) (by omega)]
/-- nothing is there any more that could be taken for what isn't sent yet: elder marks, then own ones -/
structure Ph2 (s : MS) (oe we ol wl : List Int) : Prop where
  e : s.em = oe ++ we
  l : s.lm = ol ++ wl
  oN : ∀ x ∈ oe, x ≠ s.mark
  wN : ∀ x ∈ we, x = s.mark
  oM : ∀ x ∈ ol, x ≠ s.mark
  wM : ∀ x ∈ wl, x = s.mark
  lo : we ≠ [] → ol = []
  la : we ≠ [] → s.last = s.mark
/-- how many beats it takes until K own letters have come, at most -/
def wB (m : Int) (K : Int) (q o : Nat) (ll : Int) : Int := if K ≤ q then o + K else (K - q) * m - ll + (if o + q = 0 then 1 else o + q : Nat)
def kB (m : Int) (s : MS) (ol : List Int) : Int := if ol = [] then m - s.le else m
def rB (h m : Int) (s : MS) (oe we ol wl : List Int) : Int := if we = [] then wB m (kB m s ol) wl.length ol.length s.ll + h else oe.length + 1
theorem splitS (f : Nat → Int) (S : Nat) : ∀ l : List Nat, l.Pairwise (· ≤ ·) → (∀ x ∈ l, x ≤ S) → (∀ x ∈ l, x ≠ S → f x ≠ f S) →
    ∃ a b, l = a ++ b ∧ (∀ x ∈ a.map f, x ≠ f S) ∧ (∀ x ∈ b.map f, x = f S) ∧ ∀ x ∈ b, x = S
  | [], _, _, _ => ⟨[], [], rfl, by simp, by simp, by simp⟩
  | x :: l, p, q, r => by
    rw [List.pairwise_cons] at p
    by_cases h : x = S
    · have all : ∀ y ∈ x :: l, y = S := fun y hy => by
        rcases List.mem_cons.mp hy with rfl | hy
        · exact h
        · have := p.1 y hy; have := q y (List.mem_cons_of_mem _ hy); omega
      refine ⟨[], x :: l, rfl, by simp, fun y hy => ?_, all⟩
      obtain ⟨z, hz, rfl⟩ := List.mem_map.mp hy
      rw [all z hz]
    · obtain ⟨a, b, e, h1, h2, h3⟩ := splitS f S l p.2 (fun y hy => q y (List.mem_cons_of_mem _ hy)) (fun y hy => r y (List.mem_cons_of_mem _ hy))
      refine ⟨x :: a, b, by rw [e]; rfl, fun y hy => ?_, h2, h3⟩
      rw [List.map_cons] at hy
      rcases List.mem_cons.mp hy with rfl | hy
      · exact r x (List.mem_cons_self ..) h
      · exact h1 y hy
theorem emod_near {a b n : Int} (h : a % n = b % n) (h1 : a - b < n) (h2 : b - a < n) (hn : 0 < n) : a = b := by
  have e1 := Int.mul_ediv_add_emod a n
  have e2 := Int.mul_ediv_add_emod b n
  have : n * (a / n) - n * (b / n) = a - b := by omega
  rw [← Int.mul_sub] at this
  by_cases z : a / n - b / n = 0
  · rw [z] at this; omega
  · have : (a / n - b / n) ≥ 1 ∨ (a / n - b / n) ≤ -1 := by omega
    rcases this with y | y
    · have := Int.mul_le_mul_of_nonneg_left y (Int.le_of_lt hn); omega
    · have := Int.mul_le_mul_of_nonneg_left y (Int.le_of_lt hn); omega
theorem Ph1.turn {h : Int} {i : Nat} {s : MS} {s0 : Int} {S : Nat} {pe : List Int} {ge : List Nat} {pl : List Int} {gl : List Nat} (k : Ph1 h i s s0 S pe ge pl gl) (hh : 1 ≤ h) (hi : (i : Int) = 2 * h) : ∃ oe we ol wl, Ph2 s oe we ol wl := by
  have p0 : pl = [] := by
    rcases k.pl with z | z
    · exact z
    · omega
  have e0 : pe = [] := by
    rcases k.pe with z | z
    · exact z
    · cases pe with
      | nil => rfl
      | cons x xs => simp at z; omega
  have hsi := k.si
  have inj : ∀ x, x ≤ S → x ≠ S → encM h s0 x ≠ encM h s0 S := fun x hx hn e => by
    have := emod_near e (by omega) (by omega) (by omega)
    omega
  have so := List.pairwise_append.mp k.so
  have lE : ∀ x ∈ ge, x ≤ S := fun x hx => k.le x (List.mem_append_left _ hx)
  have lL : ∀ x ∈ gl, x ≤ S := fun x hx => k.le x (List.mem_append_right _ hx)
  obtain ⟨a, b, e1, e2, e3, e4⟩ := splitS (encM h s0) S ge so.1 lE (fun x hx => inj x (lE x hx))
  obtain ⟨c, d, f1, f2, f3, f4⟩ := splitS (encM h s0) S gl so.2.1 lL (fun x hx => inj x (lL x hx))
  have hb : b ≠ [] → S ∈ ge := fun hb => by
    cases b with
    | nil => exact absurd rfl hb
    | cons y b => have := e4 y (by simp); subst this; rw [e1]; simp
  refine ⟨a.map (encM h s0), b.map (encM h s0), c.map (encM h s0), d.map (encM h s0), by rw [k.e, e0, e1]; simp, by rw [k.l, p0, f1]; simp, by rw [k.mr]; exact e2, by rw [k.mr]; exact e3, by rw [k.mr]; exact f2, by rw [k.mr]; exact f3, fun z => ?_, fun z => ?_⟩
  · have hS := hb (fun y => z (by rw [y]; rfl))
    cases c with
    | nil => rfl
    | cons y c =>
      have hy : y ∈ gl := by rw [f1]; simp
      have h1 := so.2.2 S hS y hy
      have h2 := lL y hy
      have : y = S := by omega
      exact absurd (by rw [this]) (f2 (encM h s0 y) (by simp))
  · have hS := hb (fun y => z (by rw [y]; rfl))
    obtain ⟨R, r1, r2, r3, r4⟩ := k.la (by intro y; rw [y] at hS; cases hS)
    have := r2 S hS
    have : R = S := by omega
    rw [r1, k.mr, this]
/-- what holds of the counts of what was lost -/
structure LsOk (m : Int) (s : MS) : Prop where
  l0 : 0 ≤ s.ll
  l1 : s.ll < m
  e0 : 0 ≤ s.le
  e1 : s.le < m
theorem Ph2.ends {s : MS} {oe we ol wl : List Int} (k : Ph2 s oe we ol wl) (h : s.em.head? = some s.mark) : (∀ x ∈ s.em, x = s.mark) ∧ (∀ x ∈ s.lm, x = s.mark) ∧ s.last = s.mark := by
  have o0 : oe = [] := by
    cases oe with
    | nil => rfl
    | cons x oe => rw [k.e] at h; simp at h; exact absurd h (k.oN x (by simp))
  have w0 : we ≠ [] := fun z => by rw [k.e, o0, z] at h; cases h
  exact ⟨by rw [k.e, o0]; exact k.wN, by rw [k.l, k.lo w0]; exact k.wM, k.la w0⟩
theorem wB_step {m K K' ll : Int} {q o q' o' : Nat} (hm : m = 1 ∨ m = 2 ∨ m = 3 ∨ m = 4) (l0 : 0 ≤ ll) (l1 : ll < m) (K1 : 1 ≤ K') (hK : K ≤ m) (a : Bool) (la : a = true → ll + 1 < m)
    (h : (o = 0 ∧ q = 0 ∧ o' = 0 ∧ q' = (if a then 0 else 1) ∧ K' = K) ∨ (0 < o ∧ o' = o - 1 ∧ q' = (if a then q else q + 1) ∧ K' ≤ K) ∨ (o = 0 ∧ 0 < q ∧ o' = 0 ∧ q' = (if a then q - 1 else q) ∧ K' ≤ K - 1)) :
    wB m K' q' o' (if a then ll + 1 else 0) + 1 ≤ wB m K q o ll := by
  unfold wB
  rcases hm with rfl | rfl | rfl | rfl <;> cases a <;> simp only [if_true, if_false, Bool.false_eq_true] at h ⊢ <;> (try have := la rfl) <;> (repeat' split) <;> omega
theorem Ph2.step {h m : Int} {s : MS} {oe we ol wl : List Int} (k : Ph2 s oe we ol wl) (hm : m = 1 ∨ m = 2 ∨ m = 3 ∨ m = 4) (el : (s.em.length : Int) ≤ h) (h1 : 1 ≤ h) {a c : Bool} (ok : LsOk m s) (ok' : LsOk m (s.next h a c)) (hn : s.em.head? ≠ some s.mark) :
    ∃ oe' we' ol' wl', Ph2 (s.next h a c) oe' we' ol' wl' ∧ rB h m (s.next h a c) oe' we' ol' wl' + 1 ≤ rB h m s oe we ol wl := by
  have mk : (s.next h a c).mark = s.mark := by simp only [MS.next, if_neg hn]
  obtain ⟨l0, l1, e0, e1⟩ := ok
  have la' : a = true → s.ll + 1 < m := fun z => by have := ok'.l1; simpa [MS.next, z] using this
  have lc' : s.lm ≠ [] → c = true → s.le + 1 < m := fun y z => by have := ok'.e1; simpa [MS.next, z, y] using this
  have ht : s.em.tail = oe.tail ++ we ∧ (oe = [] → we = []) := by
    cases oe with
    | nil =>
      cases we with
      | nil => exact ⟨by rw [k.e]; rfl, fun _ => rfl⟩
      | cons x we => exact absurd (by rw [k.e]; simp [k.wN x (by simp)]) hn
    | cons x oe => exact ⟨by rw [k.e]; rfl, fun z => by cases z⟩
  obtain ⟨ht, hoe⟩ := ht
  have oet : ∀ x ∈ oe.tail, x ≠ s.mark := fun x hx => k.oN x (List.mem_of_mem_tail hx)
  have nwO : ∀ x ∈ (if a then [] else [s.mark]), x = s.mark := by intro x hx; cases a <;> simp at hx; exact hx
  have eln : oe.length + we.length = s.em.length := by rw [k.e]; simp
  have lln : (if a then ([] : List Int) else [s.mark]).length = (if a then 0 else 1) := by cases a <;> rfl
  by_cases hw : we = []
  · subst hw
    cases ol with
    | nil =>
      cases wl with
      | nil =>
        have hl : s.lm = [] := by rw [k.l]; rfl
        refine ⟨oe.tail, [], [], if a then [] else [s.mark], ⟨by simp [MS.next, hl, ht], by simp [MS.next, hl], by rw [mk]; exact oet, by simp, by simp, by rw [mk]; exact nwO, fun _ => rfl, fun z => absurd rfl z⟩, ?_⟩
        have := wB_step (m := m) (K := m - s.le) (K' := m - s.le) (q := 0) (o := 0) (o' := 0) (q' := if a then 0 else 1) hm l0 l1 (by omega) (by omega) a la' (.inl ⟨rfl, rfl, rfl, rfl, rfl⟩)
        simp only [rB, kB, if_true, lln, List.length_nil, show (s.next h a c).le = s.le by simp [MS.next, hl], show (s.next h a c).ll = (if a then s.ll + 1 else 0) from rfl]
        omega
      | cons x wl =>
        have hl : s.lm = x :: wl := by rw [k.l]; rfl
        have hx := k.wM x (by simp)
        have nl : s.lm ≠ [] := by rw [hl]; simp
        cases c with
        | false =>
          refine ⟨oe.tail, [x], [], wl ++ (if a then [] else [s.mark]), ⟨by simp [MS.next, hl, ht], by simp [MS.next, hl], by rw [mk]; exact oet, by rw [mk]; simpa using hx, by simp, fun y hy => ?_, fun _ => rfl, fun _ => by rw [mk]; simpa [MS.next, hl] using hx⟩, ?_⟩
          · rw [mk]; exact (List.mem_append.mp hy).elim (fun z => k.wM y (List.mem_cons_of_mem _ z)) (nwO y)
          · have hb : 1 ≤ wB m (m - s.le) (x :: wl).length 0 s.ll := by
              unfold wB
              rcases hm with rfl | rfl | rfl | rfl <;> simp only [List.length_cons] <;> (repeat' split) <;> omega
            have : oe.tail.length ≤ oe.length - 1 := by simp
            simp only [rB, kB, if_true, List.length_nil] at hb ⊢
            simp only [show ([x] = ([] : List Int)) = False by simp, if_false]
            simp only [List.length_nil] at eln
            omega
        | true =>
          refine ⟨oe.tail, [], [], wl ++ (if a then [] else [s.mark]), ⟨by simp [MS.next, hl, ht], by simp [MS.next, hl], by rw [mk]; exact oet, by simp, by simp, fun y hy => ?_, fun _ => rfl, fun z => absurd rfl z⟩, ?_⟩
          · rw [mk]; exact (List.mem_append.mp hy).elim (fun z => k.wM y (List.mem_cons_of_mem _ z)) (nwO y)
          · have hc := lc' nl rfl
            have := wB_step (m := m) (K := m - s.le) (K' := m - (s.le + 1)) (q := wl.length + 1) (o := 0) (o' := 0) (q' := if a then wl.length else wl.length + 1) hm l0 l1 (by omega) (by omega) a la' (.inr (.inr ⟨rfl, by omega, rfl, by cases a <;> simp, by omega⟩))
            have hq : (wl ++ (if a then [] else [s.mark])).length = if a then wl.length else wl.length + 1 := by cases a <;> simp
            simp only [rB, kB, if_true, hq, List.length_nil, List.length_cons, show (s.next h a true).le = s.le + 1 by simp [MS.next, hl], show (s.next h a true).ll = (if a then s.ll + 1 else 0) from rfl]
            omega
    | cons x ol =>
      have hl : s.lm = x :: (ol ++ wl) := by rw [k.l]; rfl
      have hx := k.oM x (by simp)
      refine ⟨oe.tail ++ (if c then [] else [x]), [], ol, wl ++ (if a then [] else [s.mark]), ⟨by simp [MS.next, hl, ht], by simp [MS.next, hl], fun y hy => ?_, by simp, fun y hy => by rw [mk]; exact k.oM y (List.mem_cons_of_mem _ hy), fun y hy => ?_, fun z => absurd rfl z, fun z => absurd rfl z⟩, ?_⟩
      · rw [mk]
        rcases List.mem_append.mp hy with z | z
        · exact oet y z
        · cases c <;> simp at z
          rw [z]; exact hx
      · rw [mk]; exact (List.mem_append.mp hy).elim (k.wM y) (nwO y)
      · have ok0 := ok'.e0
        have ok1 := ok'.e1
        have := wB_step (m := m) (K := m) (K' := kB m (s.next h a c) ol) (q := wl.length) (o := ol.length + 1) (o' := ol.length) (q' := if a then wl.length else wl.length + 1) hm l0 l1 (by unfold kB; split <;> omega) (by omega) a la' (.inr (.inl ⟨by omega, by omega, rfl, by unfold kB; split <;> omega⟩))
        have hq : (wl ++ (if a then [] else [s.mark])).length = if a then wl.length else wl.length + 1 := by cases a <;> simp
        simp only [rB, if_true, hq, List.length_cons, show (s.next h a c).ll = (if a then s.ll + 1 else 0) from rfl]
        simp only [show kB m s (x :: ol) = m by simp [kB]]
        omega
  · have o0 := k.lo hw
    subst o0
    have hla := k.la hw
    have ho : oe ≠ [] := fun z => hw (hoe z)
    have tk : ∀ x ∈ s.lm.take 1, x = s.mark := fun x hx => k.wM x (by have := List.mem_of_mem_take hx; rw [k.l] at this; exact this)
    refine ⟨oe.tail, we ++ (if c then [] else s.lm.take 1), [], wl.tail ++ (if a then [] else [s.mark]), ⟨by simp [MS.next, ht], by simp [MS.next, k.l], by rw [mk]; exact oet, fun y hy => ?_, by simp, fun y hy => ?_, fun _ => rfl, fun _ => ?_⟩, ?_⟩
    · rw [mk]
      rcases List.mem_append.mp hy with z | z
      · exact k.wN y z
      · cases c
        · exact tk y z
        · cases z
    · rw [mk]; exact (List.mem_append.mp hy).elim (fun z => k.wM y (List.mem_of_mem_tail z)) (nwO y)
    · rw [mk]
      cases hl : s.lm with
      | nil => simpa [MS.next, hl] using hla
      | cons x r => have := tk x (by rw [hl]; simp); simpa [MS.next, hl] using this
    · have : oe.tail.length + 1 = oe.length := by cases oe with
        | nil => exact absurd rfl ho
        | cons x oe => rfl
      simp only [rB, hw, if_false, List.append_eq_nil_iff, false_and]
      omega
theorem Ph2.most {h m : Int} {s : MS} {oe we ol wl : List Int} (k : Ph2 s oe we ol wl) (hm : m = 1 ∨ m = 2 ∨ m = 3 ∨ m = 4) (el : (s.em.length : Int) ≤ h) (ll : (s.lm.length : Int) ≤ h) (h1 : 1 ≤ h) (ok : LsOk m s) : rB h m s oe we ol wl ≤ m * m + 2 * h ∧ 1 ≤ rB h m s oe we ol wl := by
  obtain ⟨l0, l1, e0, e1⟩ := ok
  have hl : ol.length + wl.length = s.lm.length := by rw [k.l]; simp
  have he : oe.length + we.length = s.em.length := by rw [k.e]; simp
  have hk : kB m s ol ≤ m ∧ 1 ≤ kB m s ol := by unfold kB; split <;> omega
  unfold rB
  split
  · unfold wB
    generalize kB m s ol = K at hk
    rcases hm with rfl | rfl | rfl | rfl <;> (repeat' split) <;> omega
  · rcases hm with rfl | rfl | rfl | rfl <;> omega
end PM

namespace PM
open PySem L2
def top (i : Nat) : Stmt := PySem.Challenge.pw_anystore_k57_ways_refused.main.body.getD i (.Pass ⟨0, 0, 0, 0⟩)
abbrev s_is_whole : Stmt := top 8
abbrev s_marks : Stmt := top 15
abbrev s_is_borne : Stmt := top 16
abbrev s_is_store : Stmt := top 17
abbrev s_Way___init__ : Stmt := inCls (top 18) 0
abbrev s_Way_put_down : Stmt := inCls (top 18) 1
abbrev s_Way_store : Stmt := inCls (top 18) 2
abbrev s_Way_spoil : Stmt := inCls (top 18) 3
abbrev s_Way_would_lose : Stmt := inCls (top 18) 4
abbrev s_Way_must_bear : Stmt := inCls (top 18) 5
abbrev s_Way_taken_up : Stmt := inCls (top 18) 6
abbrev s_Way_heard : Stmt := inCls (top 18) 7
abbrev s_Way_end_round : Stmt := inCls (top 18) 8
abbrev s_Way_beat : Stmt := inCls (top 18) 9
abbrev s_Way_parts : Stmt := inCls (top 18) 12
abbrev s_Way___eq__ : Stmt := inCls (top 18) 13
abbrev s_Way___len__ : Stmt := inCls (top 18) 14
abbrev s_Way___repr__ : Stmt := inCls (top 18) 15
abbrev s__law_bag : Stmt := top 20
abbrev s__law_take : Stmt := top 21
abbrev s__law_store : Stmt := top 22
abbrev s__law_refusal : Stmt := top 24
abbrev s__law_odd : Stmt := top 25
abbrev s__law_no_part : Stmt := top 26
abbrev s__law_no_store : Stmt := top 27
abbrev s__law_as_due : Stmt := top 28
abbrev s__law_worn : Stmt := top 29
abbrev s_law : Stmt := top 30
abbrev s_NoNumber___init__ : Stmt := inCls (top 3) 0
abbrev s_TooLost___init__ : Stmt := inCls (top 4) 0
abbrev gv_FIRST : D := .tup [.int 0, .int 0, .non, .tup [], .int 0, .int 0, .non, .tup []]
abbrev gv_MOST_BOUND : D := .int 40
abbrev gv_MOST_HOLD : D := .int 6
abbrev gv_MOST_MISS : D := .int 4
abbrev gv_PARTS : D := .int 8
def faT : Nat → Str → Bool
  | 0, f => (["lost_letters", "lost_echoes", "hold", "miss", "bound", "letters", "echoes", "mark", "bears", "slot", "last", "took", "box"] : List Str).contains f
  | _, _ => false
def clsOf (K : PySem.W.Frag) : Nat → Addr
  | 0 => He.ga K "Way"
  | 1 => He.ga K "NoWay"
  | 2 => He.ga K "NoNumber"
  | 3 => He.ga K "TooLost"
  | 4 => He.ga K "NoStore"
  | 5 => He.ga K "NoYard"
  | _ => 0
def tsD : List He.Tab := []
def tfD : List He.Defn := [("law", none)]
def fnD : List He.DefD := [
  ⟨("is_whole", none), "is_whole", "is_whole", defArgs s_is_whole, defBody s_is_whole, defScope s_is_whole, [], []⟩,
  ⟨("marks", none), "marks", "marks", defArgs s_marks, defBody s_marks, defScope s_marks, [], []⟩,
  ⟨("is_borne", none), "is_borne", "is_borne", defArgs s_is_borne, defBody s_is_borne, defScope s_is_borne, [], []⟩,
  ⟨("is_store", none), "is_store", "is_store", defArgs s_is_store, defBody s_is_store, defScope s_is_store, [], []⟩,
  ⟨("Way", some "__init__"), "__init__", "Way.__init__", defArgs s_Way___init__, defBody s_Way___init__, defScope s_Way___init__, [], [("miss", .int 1), ("bound", .int 10)]⟩,
  ⟨("Way", some "put_down"), "put_down", "Way.put_down", defArgs s_Way_put_down, defBody s_Way_put_down, defScope s_Way_put_down, [], []⟩,
  ⟨("Way", some "store"), "store", "Way.store", defArgs s_Way_store, defBody s_Way_store, defScope s_Way_store, [], []⟩,
  ⟨("Way", some "spoil"), "spoil", "Way.spoil", defArgs s_Way_spoil, defBody s_Way_spoil, defScope s_Way_spoil, [], []⟩,
  ⟨("Way", some "would_lose"), "would_lose", "Way.would_lose", defArgs s_Way_would_lose, defBody s_Way_would_lose, defScope s_Way_would_lose, [], []⟩,
  ⟨("Way", some "must_bear"), "must_bear", "Way.must_bear", defArgs s_Way_must_bear, defBody s_Way_must_bear, defScope s_Way_must_bear, [], []⟩,
  ⟨("Way", some "taken_up"), "taken_up", "Way.taken_up", defArgs s_Way_taken_up, defBody s_Way_taken_up, defScope s_Way_taken_up, [], []⟩,
  ⟨("Way", some "heard"), "heard", "Way.heard", defArgs s_Way_heard, defBody s_Way_heard, defScope s_Way_heard, [], []⟩,
  ⟨("Way", some "end_round"), "end_round", "Way.end_round", defArgs s_Way_end_round, defBody s_Way_end_round, defScope s_Way_end_round, [], []⟩,
  ⟨("Way", some "beat"), "beat", "Way.beat", defArgs s_Way_beat, defBody s_Way_beat, defScope s_Way_beat, [], [("word", .non), ("taking", .bl false), ("lost", .adr (kwAt ("Way", some "beat") "lost"))]⟩,
  ⟨("Way", some "parts"), "parts", "Way.parts", defArgs s_Way_parts, defBody s_Way_parts, defScope s_Way_parts, [], []⟩,
  ⟨("Way", some "__eq__"), "__eq__", "Way.__eq__", defArgs s_Way___eq__, defBody s_Way___eq__, defScope s_Way___eq__, [], []⟩,
  ⟨("Way", some "__len__"), "__len__", "Way.__len__", defArgs s_Way___len__, defBody s_Way___len__, defScope s_Way___len__, [], []⟩,
  ⟨("Way", some "__repr__"), "__repr__", "Way.__repr__", defArgs s_Way___repr__, defBody s_Way___repr__, defScope s_Way___repr__, [], []⟩,
  ⟨("_law_bag", none), "_law_bag", "_law_bag", defArgs s__law_bag, defBody s__law_bag, defScope s__law_bag, [], []⟩,
  ⟨("_law_take", none), "_law_take", "_law_take", defArgs s__law_take, defBody s__law_take, defScope s__law_take, [], []⟩,
  ⟨("_law_store", none), "_law_store", "_law_store", defArgs s__law_store, defBody s__law_store, defScope s__law_store, [], []⟩,
  ⟨("_law_refusal", none), "_law_refusal", "_law_refusal", defArgs s__law_refusal, defBody s__law_refusal, defScope s__law_refusal, [], []⟩,
  ⟨("_law_odd", none), "_law_odd", "_law_odd", defArgs s__law_odd, defBody s__law_odd, defScope s__law_odd, [], []⟩,
  ⟨("_law_no_part", none), "_law_no_part", "_law_no_part", defArgs s__law_no_part, defBody s__law_no_part, defScope s__law_no_part, [], []⟩,
  ⟨("_law_no_store", none), "_law_no_store", "_law_no_store", defArgs s__law_no_store, defBody s__law_no_store, defScope s__law_no_store, [], []⟩,
  ⟨("_law_as_due", none), "_law_as_due", "_law_as_due", defArgs s__law_as_due, defBody s__law_as_due, defScope s__law_as_due, [], []⟩,
  ⟨("_law_worn", none), "_law_worn", "_law_worn", defArgs s__law_worn, defBody s__law_worn, defScope s__law_worn, [], []⟩,
  ⟨("law", none), "law", "law", defArgs s_law, defBody s_law, defScope s_law, [], []⟩,
  ⟨("NoNumber", some "__init__"), "__init__", "NoNumber.__init__", defArgs s_NoNumber___init__, defBody s_NoNumber___init__, defScope s_NoNumber___init__, [], []⟩,
  ⟨("TooLost", some "__init__"), "__init__", "TooLost.__init__", defArgs s_TooLost___init__, defBody s_TooLost___init__, defScope s_TooLost___init__, [], []⟩]
def faD : List He.Fa := [.glo "is_whole", .glo "marks", .glo "is_borne", .glo "is_store", .meth "Way" "__init__", .meth "Way" "put_down", .meth "Way" "store", .meth "Way" "spoil", .meth "Way" "would_lose", .meth "Way" "must_bear", .meth "Way" "taken_up", .meth "Way" "heard", .meth "Way" "end_round", .meth "Way" "beat", .meth "Way" "parts", .meth "Way" "__eq__", .meth "Way" "__len__", .meth "Way" "__repr__", .glo "_law_bag", .glo "_law_take", .glo "_law_store", .glo "_law_refusal", .glo "_law_odd", .glo "_law_no_part", .glo "_law_no_store", .glo "_law_as_due", .glo "_law_worn", .glo "law", .meth "NoNumber" "__init__", .meth "TooLost" "__init__", .free "RuntimeError", .free "ValueError", .free "abs", .free "all", .free "bool", .free "int", .free "isinstance", .free "len", .free "list", .free "max", .free "min", .free "range", .free "repr", .free "tuple", .free "zip", .glo "Way", .cls "Way", .mkr "Way", .noat "Way" "lost_letters", .noat "Way" "lost_echoes", .noat "Way" "hold", .noat "Way" "miss", .noat "Way" "bound", .noat "Way" "letters", .noat "Way" "echoes", .noat "Way" "mark", .noat "Way" "bears", .noat "Way" "slot", .noat "Way" "last", .noat "Way" "took", .noat "Way" "box", .glo "NoWay", .glo "NoNumber", .glo "TooLost", .glo "NoStore", .glo "NoYard", .exm "NoWay" "TooLost" false, .exm "NoNumber" "TooLost" false, .exm "TooLost" "TooLost" true, .exm "NoStore" "TooLost" false, .exm "NoYard" "TooLost" false, .exm "NoWay" "NoStore" false, .exm "NoNumber" "NoStore" false, .exm "TooLost" "NoStore" false, .exm "NoStore" "NoStore" true, .exm "NoYard" "NoStore" false, .exm "NoWay" "NoNumber" false, .exm "NoNumber" "NoNumber" true, .exm "TooLost" "NoNumber" false, .exm "NoStore" "NoNumber" false, .exm "NoYard" "NoNumber" false, .noat "NoNumber" "word", .noat "TooLost" "side"]
def exL : List (PySem.W.Frag → Bool) := [fun K => glB K "FIRST" gv_FIRST, fun K => glB K "MOST_BOUND" gv_MOST_BOUND, fun K => glB K "MOST_HOLD" gv_MOST_HOLD, fun K => glB K "MOST_MISS" gv_MOST_MISS, fun K => glB K "PARTS" gv_PARTS, fun K => kwB ("Way", some "beat") "lost" (.tup [.bl false, .bl false]) K, fun K => neB (He.ga K "Way") K, fun K => insB (He.ga K "Way") K, fun K => xcB [.type "ValueError", .type "Exception", .type "BaseException", .type "object"] "ValueError.__new__" (He.ga K "NoNumber") K, fun K => xfB K (He.ga K "NoNumber"), fun K => eccB (He.ga K "NoNumber") K, fun K => xcB [.type "RuntimeError", .type "Exception", .type "BaseException", .type "object"] "RuntimeError.__new__" (He.ga K "TooLost") K, fun K => xfB K (He.ga K "TooLost"), fun K => eccB (He.ga K "TooLost") K, fun K => x0B [.type "ValueError", .type "Exception", .type "BaseException", .type "object"] "ValueError.__new__" (He.ga K "NoStore") K, fun K => xfB K (He.ga K "NoStore"), fun K => eccB (He.ga K "NoStore") K, fun K => kitB1 (fun K => .ref (He.ga K "TooLost")) (fun K => .type "RuntimeError") true K, fun K => kitB1 (fun K => .ref (He.ga K "TooLost")) (fun K => .type "ValueError") false K, fun K => kitB1 (fun K => .ref (He.ga K "NoStore")) (fun K => .type "ValueError") true K, fun K => kitBA (fun K => .ref (He.ga K "NoStore")) (fun K => [.ref (He.ga K "NoYard"), .ref (He.ga K "NoWay")]) false K, fun K => kitB1 (fun K => .ref (He.ga K "NoNumber")) (fun K => .type "ValueError") true K, fun K => kitBA (fun K => .ref (He.ga K "NoNumber")) (fun K => [.ref (He.ga K "NoStore"), .ref (He.ga K "NoWay")]) false K]
def exD (K : PySem.W.Frag) : Bool := exL.all fun f => f K
end PM

namespace PM
open PySem L2
def loose : List PySem.Str := (["_wall", "__name__", "NoWay", "NoNumber", "TooLost", "NoStore", "NoYard", "is_whole", "MOST_HOLD", "MOST_MISS", "MOST_BOUND", "PARTS"] : List PySem.Str) ++ (["FIRST", "marks", "is_borne", "is_store", "Way", "_law_bag", "_law_take", "_law_store", "_law_gone", "_law_refusal", "_law_odd", "_law_no_part"] : List PySem.Str) ++ (["_law_no_store", "_law_as_due", "_law_worn"] : List PySem.Str)
def asL : List Addr := ([3, 6, 4, 21, 38, 58, 78, 91, 111, 121, 124, 131] : List Nat) ++ ([138, 143, 268, 279, 286, 291, 298, 305, 312, 319, 324, 331] : List Nat) ++ ([338, 343, 0, 20, 37, 57, 77, 90, 110, 120, 122, 123] : List Nat) ++ ([130, 137, 142, 267, 278, 285, 290, 297, 304, 311, 318, 323] : List Nat) ++ ([330, 337, 342, 15, 16, 17, 18, 19, 35, 36, 39, 55] : List Nat) ++ ([56, 59, 75, 76, 79, 89, 92, 108, 109, 112, 115, 116] : List Nat) ++ ([117, 118, 119, 125, 126, 127, 128, 129, 132, 133, 134, 135] : List Nat) ++ ([136, 139, 140, 141, 158, 165, 172, 179, 186, 193, 200, 207] : List Nat) ++ ([214, 223, 230, 237, 244, 251, 258, 265, 266, 269, 270, 273] : List Nat) ++ ([274, 275, 276, 277, 280, 281, 282, 283, 284, 287, 288, 289] : List Nat) ++ ([292, 293, 294, 295, 296, 299, 300, 301, 302, 303, 306, 307] : List Nat) ++ ([308, 309, 310, 313, 314, 315, 316, 317, 320, 321, 322, 325] : List Nat) ++ ([326, 327, 328, 329, 332, 333, 334, 335, 336, 339, 340, 341] : List Nat) ++ ([34, 54, 74, 107, 157, 151, 164, 171, 178, 185, 192, 199] : List Nat) ++ ([206, 213, 222, 216, 229, 236, 243, 250, 257, 264, 29, 30] : List Nat) ++ ([31, 32, 33, 49, 50, 51, 52, 53, 69, 70, 71, 72] : List Nat) ++ ([73, 102, 103, 104, 105, 106, 152, 153, 154, 155, 156, 159] : List Nat) ++ ([160, 161, 162, 163, 166, 167, 168, 169, 170, 173, 174, 175] : List Nat) ++ ([176, 177, 180, 181, 182, 183, 184, 187, 188, 189, 190, 191] : List Nat) ++ ([194, 195, 196, 197, 198, 201, 202, 203, 204, 205, 208, 209] : List Nat) ++ ([210, 211, 212, 217, 218, 219, 220, 221, 215, 224, 225, 226] : List Nat) ++ ([227, 228, 231, 232, 233, 234, 235, 238, 239, 240, 241, 242] : List Nat) ++ ([245, 246, 247, 248, 249, 252, 253, 254, 255, 256, 259, 260] : List Nat) ++ ([261, 262, 263] : List Nat)
abbrev Rw : PySem.W.OpenRow := PySem.W.OpenLaw.row PySem.Challenge.rw_anystore_k57_ways_refused
abbrev hk : PySem.W.Hook := hookM asL faD fnD tsD tfD exD
def obH (s : PySem.W.SharedT) : He.AlX := obM asL faD fnD tsD tfD exD (HandSHeadRun.getT s)
theorem obH_eq (s : PySem.W.SharedT) : obH s = hk.obs s.abs := obM_eq (HandSHeadRun.getT_eq s)
open PyProof.Rows PySem.Calls PySem.W
theorem runA0 (w : World) : ∀ os : OsState, (HandSHeadRun.endF (HandSHeadRun.stepQ (HandSHeadRun.denQ HandSHeadRun.tabQ) Rw.prog (w.withFollow "special-get-raises" false)) 9000 Rw.prog (w.withFollow "special-get-raises" false) os).map (fun s => (HandSHeadRun.looksF Rw.prog (boot_heap (w.withFollow "special-get-raises" false).params) s.abs, HandSHeadRun.seenQ (PySem.W.view Rw.prog [30]) loose (importedModules Rw.prog.main.body) (fun s => xlAt (PySem.W.view Rw.prog [30]) [] s && recOk Rw.toRowW.records s) s.abs)) = some (true, openGood (PySem.W.view Rw.prog [30]) loose) := by
  intro os; kernel_rfl
theorem runB0 (w : World) : ∀ os : OsState, (HandSHeadRun.endF (HandSHeadRun.stepQ (HandSHeadRun.denQ HandSHeadRun.tabQ) Rw.prog (w.withFollow "special-get-raises" false)) 9000 Rw.prog (w.withFollow "special-get-raises" false) os).map obH = some (hk.val (w.withFollow "special-get-raises" false)) := by
  intro os; kernel_rfl
theorem runA1 (w : World) : ∀ os : OsState, (HandSHeadRun.endF (HandSHeadRun.stepQ (HandSHeadRun.denQ HandSHeadRun.tabQ) Rw.prog (w.withFollow "special-get-raises" true)) 9000 Rw.prog (w.withFollow "special-get-raises" true) os).map (fun s => (HandSHeadRun.looksF Rw.prog (boot_heap (w.withFollow "special-get-raises" true).params) s.abs, HandSHeadRun.seenQ (PySem.W.view Rw.prog [30]) loose (importedModules Rw.prog.main.body) (fun s => xlAt (PySem.W.view Rw.prog [30]) [] s && recOk Rw.toRowW.records s) s.abs)) = some (true, openGood (PySem.W.view Rw.prog [30]) loose) := by
  intro os; kernel_rfl
theorem runB1 (w : World) : ∀ os : OsState, (HandSHeadRun.endF (HandSHeadRun.stepQ (HandSHeadRun.denQ HandSHeadRun.tabQ) Rw.prog (w.withFollow "special-get-raises" true)) 9000 Rw.prog (w.withFollow "special-get-raises" true) os).map obH = some (hk.val (w.withFollow "special-get-raises" true)) := by
  intro os; kernel_rfl
theorem run (w : World) : HandSHeadRun.RunEq Rw (PySem.W.view Rw.prog [30]) hk obH 9000 loose w :=
  PySem.W.byRow2 "special-get-raises" (P := fun w => HandSHeadRun.RunEq Rw (PySem.W.view Rw.prog [30]) hk obH 9000 loose w) (fun w => run2 (runA0 w) (runB0 w)) (fun w => run2 (runA1 w) (runB1 w)) w
end PM

namespace PM
open PySem L2
structure Wo (W : Wd) (w : World) (mg : Str → Option Value) where
  flds : Flds W W.K faT
  a_is_whole : Addr
  fd_is_whole : FuncData
  F_is_whole : Fun W.K "is_whole" "is_whole" s_is_whole [] [] a_is_whole fd_is_whole
  g_is_whole : mg "is_whole" = some (.ref a_is_whole)
  a_marks : Addr
  fd_marks : FuncData
  F_marks : Fun W.K "marks" "marks" s_marks [] [] a_marks fd_marks
  g_marks : mg "marks" = some (.ref a_marks)
  a_is_borne : Addr
  fd_is_borne : FuncData
  F_is_borne : Fun W.K "is_borne" "is_borne" s_is_borne [] [] a_is_borne fd_is_borne
  g_is_borne : mg "is_borne" = some (.ref a_is_borne)
  a_is_store : Addr
  fd_is_store : FuncData
  F_is_store : Fun W.K "is_store" "is_store" s_is_store [] [] a_is_store fd_is_store
  g_is_store : mg "is_store" = some (.ref a_is_store)
  a_Way___init__ : Addr
  fd_Way___init__ : FuncData
  F_Way___init__ : Fun W.K "__init__" "Way.__init__" s_Way___init__ [] [("miss", .int 1), ("bound", .int 10)] a_Way___init__ fd_Way___init__
  me_Way___init__ : Meth W.K (W.cls 0) "__init__" a_Way___init__
  a_Way_put_down : Addr
  fd_Way_put_down : FuncData
  F_Way_put_down : Fun W.K "put_down" "Way.put_down" s_Way_put_down [] [] a_Way_put_down fd_Way_put_down
  me_Way_put_down : Meth W.K (W.cls 0) "put_down" a_Way_put_down
  a_Way_store : Addr
  fd_Way_store : FuncData
  F_Way_store : Fun W.K "store" "Way.store" s_Way_store [] [] a_Way_store fd_Way_store
  me_Way_store : Meth W.K (W.cls 0) "store" a_Way_store
  a_Way_spoil : Addr
  fd_Way_spoil : FuncData
  F_Way_spoil : Fun W.K "spoil" "Way.spoil" s_Way_spoil [] [] a_Way_spoil fd_Way_spoil
  me_Way_spoil : Meth W.K (W.cls 0) "spoil" a_Way_spoil
  a_Way_would_lose : Addr
  fd_Way_would_lose : FuncData
  F_Way_would_lose : Fun W.K "would_lose" "Way.would_lose" s_Way_would_lose [] [] a_Way_would_lose fd_Way_would_lose
  me_Way_would_lose : Meth W.K (W.cls 0) "would_lose" a_Way_would_lose
  a_Way_must_bear : Addr
  fd_Way_must_bear : FuncData
  F_Way_must_bear : Fun W.K "must_bear" "Way.must_bear" s_Way_must_bear [] [] a_Way_must_bear fd_Way_must_bear
  me_Way_must_bear : Meth W.K (W.cls 0) "must_bear" a_Way_must_bear
  a_Way_taken_up : Addr
  fd_Way_taken_up : FuncData
  F_Way_taken_up : Fun W.K "taken_up" "Way.taken_up" s_Way_taken_up [] [] a_Way_taken_up fd_Way_taken_up
  me_Way_taken_up : Meth W.K (W.cls 0) "taken_up" a_Way_taken_up
  a_Way_heard : Addr
  fd_Way_heard : FuncData
  F_Way_heard : Fun W.K "heard" "Way.heard" s_Way_heard [] [] a_Way_heard fd_Way_heard
  me_Way_heard : Meth W.K (W.cls 0) "heard" a_Way_heard
  a_Way_end_round : Addr
  fd_Way_end_round : FuncData
  F_Way_end_round : Fun W.K "end_round" "Way.end_round" s_Way_end_round [] [] a_Way_end_round fd_Way_end_round
  me_Way_end_round : Meth W.K (W.cls 0) "end_round" a_Way_end_round
  a_Way_beat : Addr
  fd_Way_beat : FuncData
  F_Way_beat : Fun W.K "beat" "Way.beat" s_Way_beat [] [("word", .non), ("taking", .bl false), ("lost", .ref (kwAt ("Way", some "beat") "lost" W.K))] a_Way_beat fd_Way_beat
  me_Way_beat : Meth W.K (W.cls 0) "beat" a_Way_beat
  a_Way_parts : Addr
  fd_Way_parts : FuncData
  F_Way_parts : Fun W.K "parts" "Way.parts" s_Way_parts [] [] a_Way_parts fd_Way_parts
  me_Way_parts : Meth W.K (W.cls 0) "parts" a_Way_parts
  a_Way___eq__ : Addr
  fd_Way___eq__ : FuncData
  F_Way___eq__ : Fun W.K "__eq__" "Way.__eq__" s_Way___eq__ [] [] a_Way___eq__ fd_Way___eq__
  me_Way___eq__ : Meth W.K (W.cls 0) "__eq__" a_Way___eq__
  a_Way___len__ : Addr
  fd_Way___len__ : FuncData
  F_Way___len__ : Fun W.K "__len__" "Way.__len__" s_Way___len__ [] [] a_Way___len__ fd_Way___len__
  me_Way___len__ : Meth W.K (W.cls 0) "__len__" a_Way___len__
  a_Way___repr__ : Addr
  fd_Way___repr__ : FuncData
  F_Way___repr__ : Fun W.K "__repr__" "Way.__repr__" s_Way___repr__ [] [] a_Way___repr__ fd_Way___repr__
  me_Way___repr__ : Meth W.K (W.cls 0) "__repr__" a_Way___repr__
  a__law_bag : Addr
  fd__law_bag : FuncData
  F__law_bag : Fun W.K "_law_bag" "_law_bag" s__law_bag [] [] a__law_bag fd__law_bag
  g__law_bag : mg "_law_bag" = some (.ref a__law_bag)
  a__law_take : Addr
  fd__law_take : FuncData
  F__law_take : Fun W.K "_law_take" "_law_take" s__law_take [] [] a__law_take fd__law_take
  g__law_take : mg "_law_take" = some (.ref a__law_take)
  a__law_store : Addr
  fd__law_store : FuncData
  F__law_store : Fun W.K "_law_store" "_law_store" s__law_store [] [] a__law_store fd__law_store
  g__law_store : mg "_law_store" = some (.ref a__law_store)
  a__law_refusal : Addr
  fd__law_refusal : FuncData
  F__law_refusal : Fun W.K "_law_refusal" "_law_refusal" s__law_refusal [] [] a__law_refusal fd__law_refusal
  g__law_refusal : mg "_law_refusal" = some (.ref a__law_refusal)
  a__law_odd : Addr
  fd__law_odd : FuncData
  F__law_odd : Fun W.K "_law_odd" "_law_odd" s__law_odd [] [] a__law_odd fd__law_odd
  g__law_odd : mg "_law_odd" = some (.ref a__law_odd)
  a__law_no_part : Addr
  fd__law_no_part : FuncData
  F__law_no_part : Fun W.K "_law_no_part" "_law_no_part" s__law_no_part [] [] a__law_no_part fd__law_no_part
  g__law_no_part : mg "_law_no_part" = some (.ref a__law_no_part)
  a__law_no_store : Addr
  fd__law_no_store : FuncData
  F__law_no_store : Fun W.K "_law_no_store" "_law_no_store" s__law_no_store [] [] a__law_no_store fd__law_no_store
  g__law_no_store : mg "_law_no_store" = some (.ref a__law_no_store)
  a__law_as_due : Addr
  fd__law_as_due : FuncData
  F__law_as_due : Fun W.K "_law_as_due" "_law_as_due" s__law_as_due [] [] a__law_as_due fd__law_as_due
  g__law_as_due : mg "_law_as_due" = some (.ref a__law_as_due)
  a__law_worn : Addr
  fd__law_worn : FuncData
  F__law_worn : Fun W.K "_law_worn" "_law_worn" s__law_worn [] [] a__law_worn fd__law_worn
  g__law_worn : mg "_law_worn" = some (.ref a__law_worn)
  a_law : Addr
  fd_law : FuncData
  F_law : Fun W.K "law" "law" s_law [] [] a_law fd_law
  g_law : mg "law" = some (.ref a_law)
  a_NoNumber___init__ : Addr
  fd_NoNumber___init__ : FuncData
  F_NoNumber___init__ : Fun W.K "__init__" "NoNumber.__init__" s_NoNumber___init__ [] [] a_NoNumber___init__ fd_NoNumber___init__
  me_NoNumber___init__ : Meth W.K (W.cls 2) "__init__" a_NoNumber___init__
  a_TooLost___init__ : Addr
  fd_TooLost___init__ : FuncData
  F_TooLost___init__ : Fun W.K "__init__" "TooLost.__init__" s_TooLost___init__ [] [] a_TooLost___init__ fd_TooLost___init__
  me_TooLost___init__ : Meth W.K (W.cls 3) "__init__" a_TooLost___init__
  gc_Way : mg "Way" = some (.ref (W.cls 0))
  cl_Way : Cls W.K (W.cls 0)
  ne_Way : PySem.W.findIn W.K (.ref (W.cls 0)) "__ne__" = some (some (.builtin "object.__ne__"))
  ik_Way : InsK W.K (W.cls 0) ∧ PySem.W.kitOne W.K (.ref (W.cls 0)) (.ref (W.cls 0)) = some true ∧ ∀ t ∈ (["NoneType", "bool", "int", "str", "tuple", "list", "dict", "set"] : List String), PySem.W.kitOne W.K (.type t) (.ref (W.cls 0)) = some false
  mk_Way : Mk W.K (W.cls 0) a_Way___init__
  gx_NoWay : mg "NoWay" = some (.ref (W.cls 1))
  gx_NoNumber : mg "NoNumber" = some (.ref (W.cls 2))
  xc_NoNumber : XcT "ValueError" "ValueError.__new__" "ValueError.__init__" [.type "ValueError", .type "Exception", .type "BaseException", .type "object"] W.K (W.cls 2)
  xm_NoNumber : ∀ c' v, xmT 1 6 2 c' = some v → PySem.W.exmOne W.K (.ref (W.cls c')) (.ref (W.cls 2)) = some v
  xf_NoNumber : XfC W.K (W.cls 2)
  ec_NoNumber : ExcC W.K (W.cls 2)
  gx_TooLost : mg "TooLost" = some (.ref (W.cls 3))
  xc_TooLost : XcT "RuntimeError" "RuntimeError.__new__" "RuntimeError.__init__" [.type "RuntimeError", .type "Exception", .type "BaseException", .type "object"] W.K (W.cls 3)
  xm_TooLost : ∀ c' v, xmT 1 6 3 c' = some v → PySem.W.exmOne W.K (.ref (W.cls c')) (.ref (W.cls 3)) = some v
  xf_TooLost : XfC W.K (W.cls 3)
  ec_TooLost : ExcC W.K (W.cls 3)
  gx_NoStore : mg "NoStore" = some (.ref (W.cls 4))
  x0_NoStore : Xc0 "ValueError" "ValueError.__new__" "ValueError.__init__" [.type "ValueError", .type "Exception", .type "BaseException", .type "object"] W.K (W.cls 4)
  xm_NoStore : ∀ c' v, xmT 1 6 4 c' = some v → PySem.W.exmOne W.K (.ref (W.cls c')) (.ref (W.cls 4)) = some v
  xf_NoStore : XfC W.K (W.cls 4)
  ec_NoStore : ExcC W.K (W.cls 4)
  gx_NoYard : mg "NoYard" = some (.ref (W.cls 5))
  na_NoNumber_word : PySem.W.findIn W.K (.ref (W.cls 2)) "word" = some none
  na_TooLost_side : PySem.W.findIn W.K (.ref (W.cls 3)) "side" = some none
  ki_0 : PySem.W.kitOne W.K (.ref (W.cls 3)) (.type "RuntimeError") = some true
  ki_1 : PySem.W.kitOne W.K (.ref (W.cls 3)) (.type "ValueError") = some false
  ki_2 : PySem.W.kitOne W.K (.ref (W.cls 4)) (.type "ValueError") = some true
  ki_3 : PySem.W.kitAny W.K (.ref (W.cls 4)) [.ref (W.cls 5), .ref (W.cls 1)] = some false
  ki_4 : PySem.W.kitOne W.K (.ref (W.cls 2)) (.type "ValueError") = some true
  ki_5 : PySem.W.kitAny W.K (.ref (W.cls 2)) [.ref (W.cls 4), .ref (W.cls 1)] = some false
  kd_Way_beat_lost : ∀ g H, Rep W g H (.tup [.bl false, .bl false]) (.ref (kwAt ("Way", some "beat") "lost" W.K))
  n_RuntimeError : mg "RuntimeError" = none
  n_ValueError : mg "ValueError" = none
  n_abs : mg "abs" = none
  n_all : mg "all" = none
  n_bool : mg "bool" = none
  n_int : mg "int" = none
  n_isinstance : mg "isinstance" = none
  n_len : mg "len" = none
  n_list : mg "list" = none
  n_max : mg "max" = none
  n_min : mg "min" = none
  n_range : mg "range" = none
  n_repr : mg "repr" = none
  n_tuple : mg "tuple" = none
  n_zip : mg "zip" = none
  c_FIRST : GlV W.K mg "FIRST" gv_FIRST
  c_MOST_BOUND : GlV W.K mg "MOST_BOUND" gv_MOST_BOUND
  c_MOST_HOLD : GlV W.K mg "MOST_HOLD" gv_MOST_HOLD
  c_MOST_MISS : GlV W.K mg "MOST_MISS" gv_MOST_MISS
  c_PARTS : GlV W.K mg "PARTS" gv_PARTS
section
variable {W : Wd} {w : World} {mg : Str → Option Value}
abbrev ar0_is_whole : List D → List D := id
theorem pt0_is_whole (o : Wo W w mg) : Pat W o.fd_is_whole ["thing", "least", "most"] 3 [] ar0_is_whole := Pat.pos0 o.F_is_whole fun _ _ _ _ _ _ us hl => match us, hl with | [_, _, _], _ => rfl
abbrev ar0_is_borne : List D → List D := id
theorem pt0_is_borne (o : Wo W w mg) : Pat W o.fd_is_borne ["thing", "bound"] 2 [] ar0_is_borne := Pat.pos0 o.F_is_borne fun _ _ _ _ _ _ us hl => match us, hl with | [_, _], _ => rfl
abbrev ar0_Way_put_down : List D → List D := id
theorem pt0_Way_put_down (o : Wo W w mg) : Pat W o.fd_Way_put_down ["self", "store"] 2 [] ar0_Way_put_down := Pat.pos0 o.F_Way_put_down fun _ _ _ _ _ _ us hl => match us, hl with | [_, _], _ => rfl
abbrev ar0_is_store : List D → List D := id
theorem pt0_is_store (o : Wo W w mg) : Pat W o.fd_is_store ["thing", "hold", "bound"] 3 [] ar0_is_store := Pat.pos0 o.F_is_store fun _ _ _ _ _ _ us hl => match us, hl with | [_, _, _], _ => rfl
abbrev ar0_Way_would_lose : List D → List D := id
theorem pt0_Way_would_lose (o : Wo W w mg) : Pat W o.fd_Way_would_lose ["self", "lost"] 2 [] ar0_Way_would_lose := Pat.pos0 o.F_Way_would_lose fun _ _ _ _ _ _ us hl => match us, hl with | [_, _], _ => rfl
abbrev ar0_Way_end_round : List D → List D := id
theorem pt0_Way_end_round (o : Wo W w mg) : Pat W o.fd_Way_end_round ["self", "bears", "slot"] 3 [] ar0_Way_end_round := Pat.pos0 o.F_Way_end_round fun _ _ _ _ _ _ us hl => match us, hl with | [_, _, _], _ => rfl
abbrev ar0_marks : List D → List D := id
theorem pt0_marks (o : Wo W w mg) : Pat W o.fd_marks ["hold"] 1 [] ar0_marks := Pat.pos0 o.F_marks fun _ _ _ _ _ _ us hl => match us, hl with | [_], _ => rfl
abbrev ar0_Way_heard : List D → List D := id
theorem pt0_Way_heard (o : Wo W w mg) : Pat W o.fd_Way_heard ["self"] 1 [] ar0_Way_heard := Pat.pos0 o.F_Way_heard fun _ _ _ _ _ _ us hl => match us, hl with | [_], _ => rfl
abbrev ar0_Way_taken_up : List D → List D := id
theorem pt0_Way_taken_up (o : Wo W w mg) : Pat W o.fd_Way_taken_up ["self"] 1 [] ar0_Way_taken_up := Pat.pos0 o.F_Way_taken_up fun _ _ _ _ _ _ us hl => match us, hl with | [_], _ => rfl
abbrev ar0_Way_must_bear : List D → List D := id
theorem pt0_Way_must_bear (o : Wo W w mg) : Pat W o.fd_Way_must_bear ["self", "lost"] 2 [] ar0_Way_must_bear := Pat.pos0 o.F_Way_must_bear fun _ _ _ _ _ _ us hl => match us, hl with | [_, _], _ => rfl
abbrev ar0_Way_store : List D → List D := id
theorem pt0_Way_store (o : Wo W w mg) : Pat W o.fd_Way_store ["self"] 1 [] ar0_Way_store := Pat.pos0 o.F_Way_store fun _ _ _ _ _ _ us hl => match us, hl with | [_], _ => rfl
abbrev ar0_Way_parts : List D → List D := id
theorem pt0_Way_parts (o : Wo W w mg) : Pat W o.fd_Way_parts ["self"] 1 [] ar0_Way_parts := Pat.pos0 o.F_Way_parts fun _ _ _ _ _ _ us hl => match us, hl with | [_], _ => rfl
abbrev ar0__law_take : List D → List D := id
theorem pt0__law_take (o : Wo W w mg) : Pat W o.fd__law_take ["_law_bag_here", "_law_many"] 2 [] ar0__law_take := Pat.pos0 o.F__law_take fun _ _ _ _ _ _ us hl => match us, hl with | [_, _], _ => rfl
abbrev ar0__law_no_part : List D → List D := id
theorem pt0__law_no_part (o : Wo W w mg) : Pat W o.fd__law_no_part ["_law_bag_here", "_law_k", "_law_size", "_law_top"] 4 [] ar0__law_no_part := Pat.pos0 o.F__law_no_part fun _ _ _ _ _ _ us hl => match us, hl with | [_, _, _, _], _ => rfl
abbrev ar0__law_store : List D → List D := id
theorem pt0__law_store (o : Wo W w mg) : Pat W o.fd__law_store ["_law_bag_here", "_law_size", "_law_top"] 3 [] ar0__law_store := Pat.pos0 o.F__law_store fun _ _ _ _ _ _ us hl => match us, hl with | [_, _, _], _ => rfl
abbrev ar0_Way_beat : List D → List D := arrOf [0, 2, 3, 1] [.non, .bl false]
theorem pt0_Way_beat (o : Wo W w mg) : Pat W o.fd_Way_beat ["self", "word", "taking", "lost"] 1 ["lost"] ar0_Way_beat := Pat.d0 o.F_Way_beat 1 ["lost"] [("word", .non), ("taking", .bl false)] [.non, .bl false] [0, 2, 3, 1] (by simp) (by simp) (fun g H => Reps.cons (by simp only [Rep]) (Reps.cons (by simp only [Rep]) (Reps.nil))) rfl (fun i hi => by simp at hi ⊢; omega) fun _ _ _ _ _ _ us ws mv h1 h2 h3 => match us, ws, mv, h1, h2, h3 with | [_], [_], [_, _], _, _, _ => ⟨_, _, _, _, _, _, rfl, rfl, ⟨_, _, _, _, _, _, rfl, rfl, rfl⟩⟩
abbrev ar1_Way_beat : List D → List D := arrOf [0, 1, 2, 3] [.non, .bl false, .tup [.bl false, .bl false]]
theorem pt1_Way_beat (o : Wo W w mg) : Pat W o.fd_Way_beat ["self", "word", "taking", "lost"] 1 [] ar1_Way_beat := Pat.d0 o.F_Way_beat 1 [] [("word", .non), ("taking", .bl false), ("lost", .ref (kwAt ("Way", some "beat") "lost" W.K))] [.non, .bl false, .tup [.bl false, .bl false]] [0, 1, 2, 3] (by simp) (by simp) (fun g H => Reps.cons (by simp only [Rep]) (Reps.cons (by simp only [Rep]) (Reps.cons (o.kd_Way_beat_lost g H) (Reps.nil)))) rfl (fun i hi => by simp at hi ⊢; omega) fun _ _ _ _ _ _ us ws mv h1 h2 h3 => match us, ws, mv, h1, h2, h3 with | [_], [], [_, _, _], _, _, _ => ⟨_, _, _, _, _, _, rfl, rfl, ⟨_, _, _, _, _, _, rfl, rfl, ⟨_, _, _, _, _, _, rfl, rfl, rfl⟩⟩⟩
abbrev ar0__law_refusal : List D → List D := id
theorem pt0__law_refusal (o : Wo W w mg) : Pat W o.fd__law_refusal ["_law_deed"] 1 [] ar0__law_refusal := Pat.pos0 o.F__law_refusal fun _ _ _ _ _ _ us hl => match us, hl with | [_], _ => rfl
abbrev ar0_Way_spoil : List D → List D := id
theorem pt0_Way_spoil (o : Wo W w mg) : Pat W o.fd_Way_spoil ["self", "store"] 2 [] ar0_Way_spoil := Pat.pos0 o.F_Way_spoil fun _ _ _ _ _ _ us hl => match us, hl with | [_, _], _ => rfl
abbrev ar0__law_as_due : List D → List D := id
theorem pt0__law_as_due (o : Wo W w mg) : Pat W o.fd__law_as_due ["_law_told", "_law_due"] 2 [] ar0__law_as_due := Pat.pos0 o.F__law_as_due fun _ _ _ _ _ _ us hl => match us, hl with | [_, _], _ => rfl
abbrev ar0_Way___eq__ : List D → List D := id
theorem pt0_Way___eq__ (o : Wo W w mg) : Pat W o.fd_Way___eq__ ["self", "other"] 2 [] ar0_Way___eq__ := Pat.pos0 o.F_Way___eq__ fun _ _ _ _ _ _ us hl => match us, hl with | [_, _], _ => rfl
abbrev ar0__law_no_store : List D → List D := id
theorem pt0__law_no_store (o : Wo W w mg) : Pat W o.fd__law_no_store ["_law_bag_here", "_law_size", "_law_top"] 3 [] ar0__law_no_store := Pat.pos0 o.F__law_no_store fun _ _ _ _ _ _ us hl => match us, hl with | [_, _, _], _ => rfl
abbrev ar2_Way_beat : List D → List D := arrOf [0, 3, 1, 2] [.non]
theorem pt2_Way_beat (o : Wo W w mg) : Pat W o.fd_Way_beat ["self", "word", "taking", "lost"] 1 ["taking", "lost"] ar2_Way_beat := Pat.d0 o.F_Way_beat 1 ["taking", "lost"] [("word", .non)] [.non] [0, 3, 1, 2] (by simp) (by simp) (fun g H => Reps.cons (by simp only [Rep]) (Reps.nil)) rfl (fun i hi => by simp at hi ⊢; omega) fun _ _ _ _ _ _ us ws mv h1 h2 h3 => match us, ws, mv, h1, h2, h3 with | [_], [_, _], [_], _, _, _ => ⟨_, _, _, _, _, _, rfl, rfl, rfl⟩
abbrev ar3_Way_beat : List D → List D := arrOf [0, 1, 3, 2] [.bl false]
theorem pt3_Way_beat (o : Wo W w mg) : Pat W o.fd_Way_beat ["self", "word", "taking", "lost"] 1 ["word", "lost"] ar3_Way_beat := Pat.d0 o.F_Way_beat 1 ["word", "lost"] [("taking", .bl false)] [.bl false] [0, 1, 3, 2] (by simp) (by simp) (fun g H => Reps.cons (by simp only [Rep]) (Reps.nil)) rfl (fun i hi => by simp at hi ⊢; omega) fun _ _ _ _ _ _ us ws mv h1 h2 h3 => match us, ws, mv, h1, h2, h3 with | [_], [_, _], [_], _, _, _ => ⟨_, _, _, _, _, _, rfl, rfl, rfl⟩
abbrev ar0__law_odd : List D → List D := id
theorem pt0__law_odd (o : Wo W w mg) : Pat W o.fd__law_odd ["_law_bag_here", "_law_top"] 2 [] ar0__law_odd := Pat.pos0 o.F__law_odd fun _ _ _ _ _ _ us hl => match us, hl with | [_, _], _ => rfl
abbrev ar0__law_worn : List D → List D := id
theorem pt0__law_worn (o : Wo W w mg) : Pat W o.fd__law_worn ["_law_way", "_law_gap", "_law_side"] 3 [] ar0__law_worn := Pat.pos0 o.F__law_worn fun _ _ _ _ _ _ us hl => match us, hl with | [_, _, _], _ => rfl
abbrev ar0_Way___init__ : List D → List D := arrOf [0, 1, 2, 3] []
theorem pt0_Way___init__ (o : Wo W w mg) : Pat W o.fd_Way___init__ ["self", "hold", "miss", "bound"] 2 ["miss", "bound"] ar0_Way___init__ := Pat.full o.F_Way___init__ 2 ["miss", "bound"] [0, 1, 2, 3] rfl (by decide) fun _ _ _ _ _ _ us ws h1 h2 => match us, ws, h1, h2 with | [_, _], [_, _], _, _ => rfl
abbrev ar0__law_bag : List D → List D := id
theorem pt0__law_bag (o : Wo W w mg) : Pat W o.fd__law_bag ["_law_script", "_law_at"] 2 [] ar0__law_bag := Pat.pos0 o.F__law_bag fun _ _ _ _ _ _ us hl => match us, hl with | [_, _], _ => rfl
end
theorem sc_NoNumber___init__ : FnScope ["self", "word"] ["self", "word"] (defScope s_NoNumber___init__) := ⟨rfl, rfl, rfl, by decide +kernel, rfl, by decide +kernel, by decide +kernel⟩
theorem xi_NoNumber {W : Wd} {P : Program} {w : World} {mg : Str → Option Value} {base : Heap} {k : Nat} (o : Wo W w mg) : FnOk P w W.K mg base (L2.CX P w) (k + 1) o.a_NoNumber___init__ o.fd_NoNumber___init__ ["self", "word"] (spX1 (W.cls 2) "word") := xinit1 (txt_of o.F_NoNumber___init__) sc_NoNumber___init__ o.xc_NoNumber o.na_NoNumber_word rfl
theorem xb_NoNumber {W : Wd} {w : World} {mg : Str → Option Value} (o : Wo W w mg) : Binds W.K o.fd_NoNumber___init__ ["self", "word"] [] := L2.FunD.bindsN (ps := ["self", "word"]) o.F_NoNumber___init__ fun _ _ _ _ _ _ us hl => match us, hl with | [_, _], _ => rfl
theorem sc_TooLost___init__ : FnScope ["self", "side"] ["self", "side"] (defScope s_TooLost___init__) := ⟨rfl, rfl, rfl, by decide +kernel, rfl, by decide +kernel, by decide +kernel⟩
theorem xi_TooLost {W : Wd} {P : Program} {w : World} {mg : Str → Option Value} {base : Heap} {k : Nat} (o : Wo W w mg) : FnOk P w W.K mg base (L2.CX P w) (k + 1) o.a_TooLost___init__ o.fd_TooLost___init__ ["self", "side"] (spX1 (W.cls 3) "side") := xinit1 (txt_of o.F_TooLost___init__) sc_TooLost___init__ o.xc_TooLost o.na_TooLost_side rfl
theorem xb_TooLost {W : Wd} {w : World} {mg : Str → Option Value} (o : Wo W w mg) : Binds W.K o.fd_TooLost___init__ ["self", "side"] [] := L2.FunD.bindsN (ps := ["self", "side"]) o.F_TooLost___init__ fun _ _ _ _ _ _ us hl => match us, hl with | [_, _], _ => rfl
theorem sc_is_whole : FnScope ["thing", "least", "most"] ["thing", "least", "most"] (defScope s_is_whole) := ⟨rfl, rfl, rfl, by decide +kernel, rfl, by decide +kernel, by decide +kernel⟩
noncomputable def d_is_whole : SF := sRet (eAndV (e1 (bIsi [] "int") (eVar 0)) (eAndV (eNotV (e1 (bIsi [] "bool") (eVar 0))) (eChain opLe opLe (eVar 1) (eVar 0) (eVar 2))))
theorem ok_is_whole {W : Wd} {P : Program} {w : World} {mg : Str → Option Value} {base : Heap} {k : Nat} (o : Wo W w mg) : PFn W P w mg base (k + 1) o.a_is_whole o.fd_is_whole ["thing", "least", "most"] (runD 3 (d_is_whole)) := by
  refine PFn.mk' (N := ["thing", "least", "most"]) (txt_of o.F_is_whole) sc_is_whole fun cdv A outer s H E cz => ?_
  exact dss_one (ds_ret (de_and cz.K (de_isi (cs := []) cz.K (kitT "int" (by decide) (fun _ h => nomatch h)) rfl o.n_isinstance rfl o.n_int (de_var 0)) (de_and cz.K (de_not cz.K (de_isi (cs := []) cz.K (kitT "bool" (by decide) (fun _ h => nomatch h)) rfl o.n_isinstance rfl o.n_bool (de_var 0))) (de_one (de_chain c_le c_le (de_var 1) (de_var 0) (de_var 2))))))
theorem sc_marks : FnScope ["hold"] ["hold"] (defScope s_marks) := ⟨rfl, rfl, rfl, by decide +kernel, rfl, by decide +kernel, by decide +kernel⟩
noncomputable def d_marks : SF := sRet (e2 opAdd (e2 opMul (eCon (.int 2)) (eVar 0)) (eCon (.int 1)))
theorem ok_marks {W : Wd} {P : Program} {w : World} {mg : Str → Option Value} {base : Heap} {k : Nat} (o : Wo W w mg) : PFn W P w mg base (k + 1) o.a_marks o.fd_marks ["hold"] (runD 1 (d_marks)) := by
  refine PFn.mk' (N := ["hold"]) (txt_of o.F_marks) sc_marks fun cdv A outer s H E cz => ?_
  exact dss_one (ds_ret (de_add cz.K (de_mul cz.K de_int (de_var 0)) de_int))
theorem sc_is_borne : FnScope ["thing", "bound"] ["thing", "bound"] (defScope s_is_borne) := ⟨rfl, rfl, rfl, by decide +kernel, rfl, by decide +kernel, by decide +kernel⟩
noncomputable def d_is_borne (Φ_is_whole : Den) : SF := sRet (eOrV (e2 opIs (eVar 0) (eCon .non)) (dCall ar0_is_whole Φ_is_whole (aCons (eVar 0) (aCons (eCon (.int 0)) (aCons (e2 opSub (eVar 1) (eCon (.int 1))) aNil)))))
theorem ok_is_borne {W : Wd} {P : Program} {w : World} {mg : Str → Option Value} {base : Heap} {k : Nat} (o : Wo W w mg) {Φ_is_whole : Den} (P_is_whole : PFn W P w mg base k o.a_is_whole o.fd_is_whole ["thing", "least", "most"] Φ_is_whole) : PFn W P w mg base (k + 1) o.a_is_borne o.fd_is_borne ["thing", "bound"] (runD 2 (d_is_borne Φ_is_whole)) := by
  refine PFn.mk' (N := ["thing", "bound"]) (txt_of o.F_is_borne) sc_is_borne fun cdv A outer s H E cz => ?_
  exact dss_one (ds_ret (de_or cz.K (de_cmp c_is (de_var 0) de_non (nomark _)) (de_one (de_call cz P_is_whole (pt0_is_whole o) rfl o.g_is_whole o.F_is_whole.kp (da_cons (de_var 0) (da_cons de_int (da_cons (de_sub (de_var 1) de_int) da_nil))) (hal := al_cons (al_cons (al_cons al_nil)))))))
theorem sc_is_store : FnScope ["thing", "hold", "bound", "mark", "bears", "slot", "letters", "last", "took", "box", "echoes", "rows", "part", "row", "one", "other", "word", "t"] ["thing", "hold", "bound"] (defScope s_is_store) := ⟨rfl, rfl, rfl, by decide +kernel, rfl, by decide +kernel, by decide +kernel⟩
noncomputable def d_is_store_E1 (Φ_is_borne : Den) (Φ_is_whole : Den) : EF := dCall ar0_is_borne Φ_is_borne (aCons (eVar 16) (aCons (eVar 2) aNil))
noncomputable def d_is_store_E2 (Φ_is_borne : Den) (Φ_is_whole : Den) : EF := dCall ar0_is_whole Φ_is_whole (aCons (eVar 17) (aCons (eCon (.int 0)) (aCons (eCon (.int 1)) aNil)))
noncomputable def d_is_store_E3 (Φ_is_borne : Den) (Φ_is_whole : Den) : EF := eAndV (e1 (bIsi [] "tuple") (eVar 14)) (eAndV (e2 opEq (e1 bLen (eVar 14)) (eCon (.int 2))) (dCall ar0_is_whole Φ_is_whole (aCons (e2 pIx (eVar 14) (eCon (.int 0))) (aCons (eCon (.int 0)) (aCons (e2 opMul (eCon (.int 2)) (eVar 1)) aNil)))))
noncomputable def d_is_store_E4 (Φ_is_borne : Den) (Φ_is_whole : Den) : EF := eVar 14
noncomputable def d_is_store_E5 (Φ_is_borne : Den) (Φ_is_whole : Den) : EF := eAndV (e1 (bIsi [] "tuple") (eVar 13)) (e2 opLe (e1 bLen (eVar 13)) (eVar 1))
noncomputable def d_is_store_E6 (Φ_is_borne : Den) (Φ_is_whole : Den) : EF := dCall ar0_is_whole Φ_is_whole (aCons (eVar 12) (aCons (eCon (.int 0)) (aCons (eCon (.int 1)) aNil)))
noncomputable def d_is_store_E7 (Φ_is_borne : Den) (Φ_is_whole : Den) : EF := dCall ar0_is_borne Φ_is_borne (aCons (eVar 12) (aCons (eVar 2) aNil))
noncomputable def d_is_store (Φ_is_borne : Den) (Φ_is_whole : Den) : SF := sSeq (sIf (tOrF (tNotF (etru (e1 (bIsi [] "tuple") (eVar 0)))) (etoT (e2 opNe (e1 bLen (eVar 0)) (eCon gv_PARTS)))) (sRet (eCon (.bl false))) sNext)
  (sSeq (sAsg (eVar 0) (gUnp 8 (gsCons (gNm 3) (gsCons (gNm 4) (gsCons (gNm 5) (gsCons (gNm 6) (gsCons (gNm 7) (gsCons (gNm 8) (gsCons (gNm 9) (gsCons (gNm 10) gsNil))))))))))
  (sSeq (sIf (tOrF (tNotF (etru (dCall ar0_is_whole Φ_is_whole (aCons (eVar 3) (aCons (eCon (.int 0)) (aCons (e2 opMul (eCon (.int 2)) (eVar 1)) aNil)))))) (tNotF (etru (dCall ar0_is_whole Φ_is_whole (aCons (eVar 7) (aCons (eCon (.int 0)) (aCons (e2 opMul (eCon (.int 2)) (eVar 1)) aNil))))))) (sRet (eCon (.bl false))) sNext)
  (sSeq (sIf (tNotF (etru (e1 bAll (e2 opAdd (eLc (iVal (eA pTup (aCons (eVar 4) (aCons (eVar 8) aNil)))) (gNm 12) tYesF (d_is_store_E6 Φ_is_borne Φ_is_whole) [12]) (eLc (iVal (eA pTup (aCons (eVar 5) (aCons (eVar 9) aNil)))) (gNm 12) tYesF (d_is_store_E7 Φ_is_borne Φ_is_whole) [12]))))) (sRet (eCon (.bl false))) sNext)
  (sSeq (sIf (tNotF (etru (e1 bAll (eLc (iVal (eA pTup (aCons (eVar 6) (aCons (eVar 10) aNil)))) (gNm 13) tYesF (d_is_store_E5 Φ_is_borne Φ_is_whole) [13])))) (sRet (eCon (.bl false))) sNext)
  (sSeq (sSet 11 (eLc2 (iVal (eA pTup (aCons (eVar 6) (aCons (eVar 10) aNil)))) (gNm 13) tYesF (iVal (eVar 13)) (gNm 14) tYesF (d_is_store_E4 Φ_is_borne Φ_is_whole) [13, 14] [14]))
  (sSeq (sIf (tNotF (etru (e1 bAll (eLc (iVal (eVar 11)) (gNm 14) tYesF (d_is_store_E3 Φ_is_borne Φ_is_whole) [14])))) (sRet (eCon (.bl false))) sNext)
  (sRet (e1 bAll (e2 opAdd (eLc (iVal (eVar 6)) (gUnp 2 (gsCons (gNm 15) (gsCons (gNm 16) gsNil))) tYesF (d_is_store_E1 Φ_is_borne Φ_is_whole) [15, 16]) (eLc (iVal (eVar 10)) (gUnp 2 (gsCons (gNm 15) (gsCons (gNm 17) gsNil))) tYesF (d_is_store_E2 Φ_is_borne Φ_is_whole) [15, 17]))))))))))
theorem ok_is_store {W : Wd} {P : Program} {w : World} {mg : Str → Option Value} {base : Heap} {k : Nat} (o : Wo W w mg) {Φ_is_borne : Den} {Φ_is_whole : Den} (P_is_borne : PFn W P w mg base k o.a_is_borne o.fd_is_borne ["thing", "bound"] Φ_is_borne) (P_is_whole : PFn W P w mg base k o.a_is_whole o.fd_is_whole ["thing", "least", "most"] Φ_is_whole) : PFn W P w mg base (k + 1) o.a_is_store o.fd_is_store ["thing", "hold", "bound"] (runD 18 (d_is_store Φ_is_borne Φ_is_whole)) := by
  refine PFn.mk' (N := ["thing", "hold", "bound", "mark", "bears", "slot", "letters", "last", "took", "box", "echoes", "rows", "part", "row", "one", "other", "word", "t"]) (txt_of o.F_is_store) sc_is_store fun cdv A outer s H E cz => ?_
  exact dss_cons (ds_if (dw_t (dw_or (dt_not (dt_truth cz.K (de_isi (cs := []) cz.K (kitT "tuple" (by decide) (fun _ h => nomatch h)) rfl o.n_isinstance rfl o.n_tuple (de_var 0)) (fun _ => rfl))) (dw_or1 (dt_cmp (c_ne cz.K cz.rm) (de_len cz.K rfl o.n_len (de_var 0)) (de_glv cz.K rfl o.c_PARTS) (nomark _))))) (dss_one (ds_ret de_bl)) dss_nil)
    (dss_cons (ds_asg (de_var 0) (dg_tup cz (dgs_cons (dg_name cz.nd) (dgs_cons (dg_name cz.nd) (dgs_cons (dg_name cz.nd) (dgs_cons (dg_name cz.nd) (dgs_cons (dg_name cz.nd) (dgs_cons (dg_name cz.nd) (dgs_cons (dg_name cz.nd) (dgs_cons (dg_name cz.nd) dgs_nil))))))))))
    (dss_cons (ds_if (dw_t (dw_or (dt_not (dt_truth cz.K (de_call cz P_is_whole (pt0_is_whole o) rfl o.g_is_whole o.F_is_whole.kp (da_cons (de_var 3) (da_cons de_int (da_cons (de_mul cz.K de_int (de_var 1)) da_nil))) (hal := al_cons (al_cons (al_cons al_nil)))) (fun _ => rfl))) (dw_or1 (dt_not (dt_truth cz.K (de_call cz P_is_whole (pt0_is_whole o) rfl o.g_is_whole o.F_is_whole.kp (da_cons (de_var 7) (da_cons de_int (da_cons (de_mul cz.K de_int (de_var 1)) da_nil))) (hal := al_cons (al_cons (al_cons al_nil)))) (fun _ => rfl)))))) (dss_one (ds_ret de_bl)) dss_nil)
    (dss_cons (ds_if (dt_not (dt_truth cz.K (de_all cz.K cz.calm rfl o.n_all (de_add cz.K (de_lc [("part", 12)] cz (di_val cz.K (de_tup (da_cons (de_var 4) (da_cons (de_var 8) da_nil)))) (by kernel_rfl) (fun _ _ _ _ _ cz => dg_name cz.nd) (fun _ _ _ _ _ cz => dts_nil) (fun _ _ _ _ _ cz => de_call cz P_is_whole (pt0_is_whole o) rfl o.g_is_whole o.F_is_whole.kp (da_cons (de_var 12) (da_cons de_int (da_cons de_int da_nil))) (hal := al_cons (al_cons (al_cons al_nil))))) (de_lc [("part", 12)] cz (di_val cz.K (de_tup (da_cons (de_var 5) (da_cons (de_var 9) da_nil)))) (by kernel_rfl) (fun _ _ _ _ _ cz => dg_name cz.nd) (fun _ _ _ _ _ cz => dts_nil) (fun _ _ _ _ _ cz => de_call cz P_is_borne (pt0_is_borne o) rfl o.g_is_borne o.F_is_borne.kp (da_cons (de_var 12) (da_cons (de_var 2) da_nil)) (hal := al_cons (al_cons al_nil)))))) (fun _ => rfl))) (dss_one (ds_ret de_bl)) dss_nil)
    (dss_cons (ds_if (dt_not (dt_truth cz.K (de_all cz.K cz.calm rfl o.n_all (de_lc [("row", 13)] cz (di_val cz.K (de_tup (da_cons (de_var 6) (da_cons (de_var 10) da_nil)))) (by kernel_rfl) (fun _ _ _ _ _ cz => dg_name cz.nd) (fun _ _ _ _ _ cz => dts_nil) (fun _ _ _ _ _ cz => de_and cz.K (de_isi (cs := []) cz.K (kitT "tuple" (by decide) (fun _ h => nomatch h)) rfl o.n_isinstance rfl o.n_tuple (de_var 13)) (de_one (de_cmp c_le (de_len cz.K rfl o.n_len (de_var 13)) (de_var 1) (nomark _)))))) (fun _ => rfl))) (dss_one (ds_ret de_bl)) dss_nil)
    (dss_cons (ds_setLc2 [("row", 13), ("one", 14)] [14] cz (di_val cz.K (de_tup (da_cons (de_var 6) (da_cons (de_var 10) da_nil)))) (by kernel_rfl) (fun _ _ _ _ _ cz => dg_name cz.nd) (fun _ _ _ _ _ cz => dts_nil) (fun _ _ _ _ _ cz => di_val cz.K (de_var 13)) (fun _ _ _ _ _ cz => dg_name cz.nd) (fun _ _ _ _ _ cz => dts_nil) (fun _ _ _ _ _ cz => de_var 14))
    (dss_cons (ds_if (dt_not (dt_truth cz.K (de_all cz.K cz.calm rfl o.n_all (de_lc [("one", 14)] cz (di_val cz.K (de_var 11)) (by kernel_rfl) (fun _ _ _ _ _ cz => dg_name cz.nd) (fun _ _ _ _ _ cz => dts_nil) (fun _ _ _ _ _ cz => de_and cz.K (de_isi (cs := []) cz.K (kitT "tuple" (by decide) (fun _ h => nomatch h)) rfl o.n_isinstance rfl o.n_tuple (de_var 14)) (de_and cz.K (de_cmp (c_eq cz.K cz.rm) (de_len cz.K rfl o.n_len (de_var 14)) de_int (nomark _)) (de_one (de_call cz P_is_whole (pt0_is_whole o) rfl o.g_is_whole o.F_is_whole.kp (da_cons (de_ix cz.K cz.rm (de_var 14) de_int (fun _ _ => rfl)) (da_cons de_int (da_cons (de_mul cz.K de_int (de_var 1)) da_nil))) (hal := al_cons (al_cons (al_cons al_nil))))))))) (fun _ => rfl))) (dss_one (ds_ret de_bl)) dss_nil)
    (dss_one (ds_ret (de_all cz.K cz.calm rfl o.n_all (de_add cz.K (de_lc [("other", 15), ("word", 16)] cz (di_val cz.K (de_var 6)) (by kernel_rfl) (fun _ _ _ _ _ cz => dg_tup cz (dgs_cons (dg_name cz.nd) (dgs_cons (dg_name cz.nd) dgs_nil))) (fun _ _ _ _ _ cz => dts_nil) (fun _ _ _ _ _ cz => de_call cz P_is_borne (pt0_is_borne o) rfl o.g_is_borne o.F_is_borne.kp (da_cons (de_var 16) (da_cons (de_var 2) da_nil)) (hal := al_cons (al_cons al_nil)))) (de_lc [("other", 15), ("t", 17)] cz (di_val cz.K (de_var 10)) (by kernel_rfl) (fun _ _ _ _ _ cz => dg_tup cz (dgs_cons (dg_name cz.nd) (dgs_cons (dg_name cz.nd) dgs_nil))) (fun _ _ _ _ _ cz => dts_nil) (fun _ _ _ _ _ cz => de_call cz P_is_whole (pt0_is_whole o) rfl o.g_is_whole o.F_is_whole.kp (da_cons (de_var 17) (da_cons de_int (da_cons de_int da_nil))) (hal := al_cons (al_cons (al_cons al_nil)))))))))))))))
theorem sc_Way___init__ : FnScope ["self", "hold", "miss", "bound", "why", "thing", "most"] ["self", "hold", "miss", "bound"] (defScope s_Way___init__) := ⟨rfl, rfl, rfl, by decide +kernel, rfl, by decide +kernel, by decide +kernel⟩
noncomputable def d_Way___init___L1 (Φ_Way_put_down : Den) (Φ_is_whole : Den) : SF := sIf (tNotF (etru (dCall ar0_is_whole Φ_is_whole (aCons (eVar 5) (aCons (eCon (.int 1)) (aCons (eVar 6) aNil)))))) (fun _ _ => .bad) sNext
noncomputable def d_Way___init__ (Φ_Way_put_down : Den) (Φ_is_whole : Den) : SF := sSeq (sFor (iVal (eA pTup (aCons (eA pTup (aCons (eCon (.str "hold")) (aCons (eVar 1) (aCons (eCon gv_MOST_HOLD) aNil)))) (aCons (eA pTup (aCons (eCon (.str "miss")) (aCons (eVar 2) (aCons (eCon gv_MOST_MISS) aNil)))) (aCons (eA pTup (aCons (eCon (.str "bound")) (aCons (eVar 3) (aCons (eCon gv_MOST_BOUND) aNil)))) aNil))))) (gUnp 3 (gsCons (gNm 4) (gsCons (gNm 5) (gsCons (gNm 6) gsNil)))) (d_Way___init___L1 Φ_Way_put_down Φ_is_whole))
  (sSeq (sAsg (eA pTup (aCons (eVar 1) (aCons (eVar 2) (aCons (eVar 3) aNil)))) (gUnp 3 (gsCons (gFld faT "hold" (eVar 0)) (gsCons (gFld faT "miss" (eVar 0)) (gsCons (gFld faT "bound" (eVar 0)) gsNil)))))
  (sSeq (sAsg2 (eCon (.int 0)) (gFld faT "lost_letters" (eVar 0)) (gFld faT "lost_echoes" (eVar 0)))
  (sDrop (dMeth 0 "put_down" ar0_Way_put_down Φ_Way_put_down (eVar 0) (aCons (eCon gv_FIRST) aNil)))))
theorem ok_Way___init__ {W : Wd} {P : Program} {w : World} {mg : Str → Option Value} {base : Heap} {k : Nat} (o : Wo W w mg) {Φ_Way_put_down : Den} {Φ_is_whole : Den} (P_Way_put_down : PFn W P w mg base k o.a_Way_put_down o.fd_Way_put_down ["self", "store"] Φ_Way_put_down) (P_is_whole : PFn W P w mg base k o.a_is_whole o.fd_is_whole ["thing", "least", "most"] Φ_is_whole) : PFn W P w mg base (k + 1) o.a_Way___init__ o.fd_Way___init__ ["self", "hold", "miss", "bound"] (runD 7 (d_Way___init__ Φ_Way_put_down Φ_is_whole)) := by
  refine PFn.mk' (N := ["self", "hold", "miss", "bound", "why", "thing", "most"]) (txt_of o.F_Way___init__) sc_Way___init__ fun cdv A outer s H E cz => ?_
  exact dss_cons (ds_for cz (di_val cz.K (de_tup (da_cons (de_tup (da_cons de_str (da_cons (de_var 1) (da_cons (de_glv cz.K rfl o.c_MOST_HOLD) da_nil)))) (da_cons (de_tup (da_cons de_str (da_cons (de_var 2) (da_cons (de_glv cz.K rfl o.c_MOST_MISS) da_nil)))) (da_cons (de_tup (da_cons de_str (da_cons (de_var 3) (da_cons (de_glv cz.K rfl o.c_MOST_BOUND) da_nil)))) da_nil))))) (dg_tup cz (dgs_cons (dg_name cz.nd) (dgs_cons (dg_name cz.nd) (dgs_cons (dg_name cz.nd) dgs_nil)))) (dss_one (ds_if (dt_not (dt_truth cz.K (de_call cz P_is_whole (pt0_is_whole o) rfl o.g_is_whole o.F_is_whole.kp (da_cons (de_var 5) (da_cons de_int (da_cons (de_var 6) da_nil))) (hal := al_cons (al_cons (al_cons al_nil)))) (fun _ => rfl))) (dss_one ds_bad) dss_nil)))
    (dss_cons (ds_asg (de_tup (da_cons (de_var 1) (da_cons (de_var 2) (da_cons (de_var 3) da_nil)))) (dg_tup cz (dgs_cons (dg_fld (Wx := WxE E) (cz.fl o.flds) (de_var 0)) (dgs_cons (dg_fld (Wx := WxE E) (cz.fl o.flds) (de_var 0)) (dgs_cons (dg_fld (Wx := WxE E) (cz.fl o.flds) (de_var 0)) dgs_nil)))))
    (dss_cons (ds_asg2 de_int (dg_fld (Wx := WxE E) (cz.fl o.flds) (de_var 0)) (dg_fld (Wx := WxE E) (cz.fl o.flds) (de_var 0)))
    (dss_one (ds_expr (de_meth cz o.cl_Way o.me_Way_put_down P_Way_put_down (pt0_Way_put_down o) (de_var 0) (da_cons (de_glv cz.K rfl o.c_FIRST) da_nil) (hal := al_cons al_nil))))))
theorem sc_Way_put_down : FnScope ["self", "store", "letters", "echoes"] ["self", "store"] (defScope s_Way_put_down) := ⟨rfl, rfl, rfl, by decide +kernel, rfl, by decide +kernel, by decide +kernel⟩
noncomputable def d_Way_put_down : SF := sSeq (sAsg (eVar 1) (gUnp 8 (gsCons (gFld faT "mark" (eVar 0)) (gsCons (gFld faT "bears" (eVar 0)) (gsCons (gFld faT "slot" (eVar 0)) (gsCons (gNm 2) (gsCons (gFld faT "last" (eVar 0)) (gsCons (gFld faT "took" (eVar 0)) (gsCons (gFld faT "box" (eVar 0)) (gsCons (gNm 3) gsNil))))))))))
  (sSeq (sAsg (eLay (e1 bLst (eVar 2))) (gFld faT "letters" (eVar 0)))
  (sAsg (eLay (e1 bLst (eVar 3))) (gFld faT "echoes" (eVar 0))))
theorem ok_Way_put_down {W : Wd} {P : Program} {w : World} {mg : Str → Option Value} {base : Heap} {k : Nat} (o : Wo W w mg) : PFn W P w mg base (k + 1) o.a_Way_put_down o.fd_Way_put_down ["self", "store"] (runD 4 (d_Way_put_down)) := by
  refine PFn.mk' (N := ["self", "store", "letters", "echoes"]) (txt_of o.F_Way_put_down) sc_Way_put_down fun cdv A outer s H E cz => ?_
  exact dss_cons (ds_asg (de_var 1) (dg_tup cz (dgs_cons (dg_fld (Wx := WxE E) (cz.fl o.flds) (de_var 0)) (dgs_cons (dg_fld (Wx := WxE E) (cz.fl o.flds) (de_var 0)) (dgs_cons (dg_fld (Wx := WxE E) (cz.fl o.flds) (de_var 0)) (dgs_cons (dg_name cz.nd) (dgs_cons (dg_fld (Wx := WxE E) (cz.fl o.flds) (de_var 0)) (dgs_cons (dg_fld (Wx := WxE E) (cz.fl o.flds) (de_var 0)) (dgs_cons (dg_fld (Wx := WxE E) (cz.fl o.flds) (de_var 0)) (dgs_cons (dg_name cz.nd) dgs_nil))))))))))
    (dss_cons (ds_asg (de_lay (de_lstc cz.K rfl o.n_list (de_var 2))) (dg_fld (Wx := WxE E) (cz.fl o.flds) (de_var 0)))
    (dss_one (ds_asg (de_lay (de_lstc cz.K rfl o.n_list (de_var 3))) (dg_fld (Wx := WxE E) (cz.fl o.flds) (de_var 0)))))
theorem sc_Way_store : FnScope ["self", "rows"] ["self"] (defScope s_Way_store) := ⟨rfl, rfl, rfl, by decide +kernel, rfl, by decide +kernel, by decide +kernel⟩
noncomputable def d_Way_store : SF := sSeq (sSet 1 (eA pTup (aCons (e1 bTup (e1 (pFld faT "letters") (eVar 0))) (aCons (e1 bTup (e1 (pFld faT "echoes") (eVar 0))) aNil))))
  (sRet (eA pTup (aCons (e1 (pFld faT "mark") (eVar 0)) (aCons (e1 (pFld faT "bears") (eVar 0)) (aCons (e1 (pFld faT "slot") (eVar 0)) (aCons (e2 pIx (eVar 1) (eCon (.int 0))) (aCons (e1 (pFld faT "last") (eVar 0)) (aCons (e1 (pFld faT "took") (eVar 0)) (aCons (e1 (pFld faT "box") (eVar 0)) (aCons (e2 pIx (eVar 1) (eCon (.int 1))) aNil))))))))))
theorem ok_Way_store {W : Wd} {P : Program} {w : World} {mg : Str → Option Value} {base : Heap} {k : Nat} (o : Wo W w mg) : PFn W P w mg base (k + 1) o.a_Way_store o.fd_Way_store ["self"] (runD 2 (d_Way_store)) := by
  refine PFn.mk' (N := ["self", "rows"]) (txt_of o.F_Way_store) sc_Way_store fun cdv A outer s H E cz => ?_
  exact dss_cons (ds_set cz.nd rfl (Or.inl rfl) (de_tup (da_cons (de_tupc cz.K rfl o.n_tuple (de_fld cz.K (cz.fl o.flds) (de_var 0) rfl)) (da_cons (de_tupc cz.K rfl o.n_tuple (de_fld cz.K (cz.fl o.flds) (de_var 0) rfl)) da_nil))))
    (dss_one (ds_ret (de_tup (da_cons (de_fld cz.K (cz.fl o.flds) (de_var 0) rfl) (da_cons (de_fld cz.K (cz.fl o.flds) (de_var 0) rfl) (da_cons (de_fld cz.K (cz.fl o.flds) (de_var 0) rfl) (da_cons (de_ix cz.K cz.rm (de_var 1) de_int (fun _ _ => rfl)) (da_cons (de_fld cz.K (cz.fl o.flds) (de_var 0) rfl) (da_cons (de_fld cz.K (cz.fl o.flds) (de_var 0) rfl) (da_cons (de_fld cz.K (cz.fl o.flds) (de_var 0) rfl) (da_cons (de_ix cz.K cz.rm (de_var 1) de_int (fun _ _ => rfl)) da_nil)))))))))))
theorem sc_Way_spoil : FnScope ["self", "store"] ["self", "store"] (defScope s_Way_spoil) := ⟨rfl, rfl, rfl, by decide +kernel, rfl, by decide +kernel, by decide +kernel⟩
noncomputable def d_Way_spoil (Φ_Way_put_down : Den) (Φ_is_store : Den) : SF := sSeq (sIf (tNotF (etru (dCall ar0_is_store Φ_is_store (aCons (eVar 1) (aCons (e1 (pFld faT "hold") (eVar 0)) (aCons (e1 (pFld faT "bound") (eVar 0)) aNil)))))) (sRaise (mExc 4 (mk0 0) aNil)) sNext)
  (sSeq (sDrop (dMeth 0 "put_down" ar0_Way_put_down Φ_Way_put_down (eVar 0) (aCons (eVar 1) aNil)))
  (sAsg2 (eCon (.int 0)) (gFld faT "lost_letters" (eVar 0)) (gFld faT "lost_echoes" (eVar 0))))
theorem ok_Way_spoil {W : Wd} {P : Program} {w : World} {mg : Str → Option Value} {base : Heap} {k : Nat} (o : Wo W w mg) {Φ_Way_put_down : Den} {Φ_is_store : Den} (P_Way_put_down : PFn W P w mg base (k + 2) o.a_Way_put_down o.fd_Way_put_down ["self", "store"] Φ_Way_put_down) (P_is_store : PFn W P w mg base (k + 2) o.a_is_store o.fd_is_store ["thing", "hold", "bound"] Φ_is_store) : PFn W P w mg base (k + 3) o.a_Way_spoil o.fd_Way_spoil ["self", "store"] (runD 2 (d_Way_spoil Φ_Way_put_down Φ_is_store)) := by
  refine PFn.mk' (N := ["self", "store"]) (txt_of o.F_Way_spoil) sc_Way_spoil fun cdv A outer s H E cz => ?_
  exact dss_cons (ds_if (dt_not (dt_truth cz.K (de_call cz P_is_store (pt0_is_store o) rfl o.g_is_store o.F_is_store.kp (da_cons (de_var 1) (da_cons (de_fld cz.K (cz.fl o.flds) (de_var 0) rfl) (da_cons (de_fld cz.K (cz.fl o.flds) (de_var 0) rfl) da_nil))) (hal := al_cons (al_cons (al_cons al_nil)))) (fun _ => rfl))) (dss_one (ds_raise cz (dm_x0 cz o.x0_NoStore rfl o.gx_NoStore))) dss_nil)
    (dss_cons (ds_expr (de_meth cz o.cl_Way o.me_Way_put_down P_Way_put_down (pt0_Way_put_down o) (de_var 0) (da_cons (de_var 1) da_nil) (hal := al_cons al_nil)))
    (dss_one (ds_asg2 de_int (dg_fld (Wx := WxE E) (cz.fl o.flds) (de_var 0)) (dg_fld (Wx := WxE E) (cz.fl o.flds) (de_var 0)))))
theorem sc_Way_would_lose : FnScope ["self", "lost", "letters"] ["self", "lost"] (defScope s_Way_would_lose) := ⟨rfl, rfl, rfl, by decide +kernel, rfl, by decide +kernel, by decide +kernel⟩
noncomputable def d_Way_would_lose : SF := sSeq (sSet 2 (eIf (etru (e2 pIx (eVar 1) (eCon (.int 0)))) (e2 opAdd (e1 (pFld faT "lost_letters") (eVar 0)) (eCon (.int 1))) (eCon (.int 0))))
  (sSeq (sIf (etoT (e2 opEq (e1 (pFld faT "letters") (eVar 0)) (eA pLst aNil))) (sRet (eA pTup (aCons (eVar 2) (aCons (e1 (pFld faT "lost_echoes") (eVar 0)) aNil)))) sNext)
  (sRet (eA pTup (aCons (eVar 2) (aCons (eIf (etru (e2 pIx (eVar 1) (eCon (.int 1)))) (e2 opAdd (e1 (pFld faT "lost_echoes") (eVar 0)) (eCon (.int 1))) (eCon (.int 0))) aNil)))))
theorem ok_Way_would_lose {W : Wd} {P : Program} {w : World} {mg : Str → Option Value} {base : Heap} {k : Nat} (o : Wo W w mg) : PFn W P w mg base (k + 1) o.a_Way_would_lose o.fd_Way_would_lose ["self", "lost"] (runD 3 (d_Way_would_lose)) := by
  refine PFn.mk' (N := ["self", "lost", "letters"]) (txt_of o.F_Way_would_lose) sc_Way_would_lose fun cdv A outer s H E cz => ?_
  exact dss_cons (ds_set cz.nd rfl (Or.inl rfl) (de_if (dt_truth cz.K (de_ix cz.K cz.rm (de_var 1) de_int (fun _ _ => rfl)) (fun _ => rfl)) (de_add cz.K (de_fld cz.K (cz.fl o.flds) (de_var 0) rfl) de_int) de_int))
    (dss_cons (ds_if (dt_cmp (c_eq cz.K cz.rm) (de_fld cz.K (cz.fl o.flds) (de_var 0) rfl) (de_lst da_nil) (nomark _)) (dss_one (ds_ret (de_tup (da_cons (de_var 2) (da_cons (de_fld cz.K (cz.fl o.flds) (de_var 0) rfl) da_nil))))) dss_nil)
    (dss_one (ds_ret (de_tup (da_cons (de_var 2) (da_cons (de_if (dt_truth cz.K (de_ix cz.K cz.rm (de_var 1) de_int (fun _ _ => rfl)) (fun _ => rfl)) (de_add cz.K (de_fld cz.K (cz.fl o.flds) (de_var 0) rfl) de_int) de_int) da_nil))))))
theorem sc_Way_must_bear : FnScope ["self", "lost", "row", "many"] ["self", "lost"] (defScope s_Way_must_bear) := ⟨rfl, rfl, rfl, by decide +kernel, rfl, by decide +kernel, by decide +kernel⟩
noncomputable def d_Way_must_bear_L1 (Φ_Way_would_lose : Den) : SF := sIf (etoT (e2 opGe (eVar 3) (e1 (pFld faT "miss") (eVar 0)))) (sRaise (mExc 3 (mk1 "side") (aCons (eVar 2) aNil))) sNext
noncomputable def d_Way_must_bear (Φ_Way_would_lose : Den) : SF := sFor (iZip (aCons (eA pTup (aCons (eCon (.str "letters")) (aCons (eCon (.str "echoes")) aNil))) (aCons (dMeth 0 "would_lose" ar0_Way_would_lose Φ_Way_would_lose (eVar 0) (aCons (eVar 1) aNil)) aNil))) (gUnp 2 (gsCons (gNm 2) (gsCons (gNm 3) gsNil))) (d_Way_must_bear_L1 Φ_Way_would_lose)
theorem ok_Way_must_bear {W : Wd} {P : Program} {w : World} {mg : Str → Option Value} {base : Heap} {k : Nat} (o : Wo W w mg) {Φ_Way_would_lose : Den} (P_Way_would_lose : PFn W P w mg base (k + 2) o.a_Way_would_lose o.fd_Way_would_lose ["self", "lost"] Φ_Way_would_lose) : PFn W P w mg base (k + 3) o.a_Way_must_bear o.fd_Way_must_bear ["self", "lost"] (runD 4 (d_Way_must_bear Φ_Way_would_lose)) := by
  refine PFn.mk' (N := ["self", "lost", "row", "many"]) (txt_of o.F_Way_must_bear) sc_Way_must_bear fun cdv A outer s H E cz => ?_
  exact dss_one (ds_for cz (di_zip cz.K rfl o.n_zip (da_cons (de_tup (da_cons de_str (da_cons de_str da_nil))) (da_cons (de_meth cz o.cl_Way o.me_Way_would_lose P_Way_would_lose (pt0_Way_would_lose o) (de_var 0) (da_cons (de_var 1) da_nil) (hal := al_cons al_nil)) da_nil))) (dg_tup cz (dgs_cons (dg_name cz.nd) (dgs_cons (dg_name cz.nd) dgs_nil))) (dss_one (ds_if (dt_cmp c_ge (de_var 3) (de_fld cz.K (cz.fl o.flds) (de_var 0) rfl) (nomark _)) (dss_one (ds_raise cz (dm_x1 cz o.xc_TooLost o.me_TooLost___init__ (xi_TooLost o) (xb_TooLost o) rfl o.gx_TooLost (da_cons (de_var 2) da_nil)))) dss_nil)))
theorem sc_Way_taken_up : FnScope ["self", "mark", "word", "left", "is_taken"] ["self"] (defScope s_Way_taken_up) := ⟨rfl, rfl, rfl, by decide +kernel, rfl, by decide +kernel, by decide +kernel⟩
noncomputable def d_Way_taken_up : SF := sSeq (sIf (etoT (e2 opEq (e1 (pFld faT "letters") (eVar 0)) (eA pLst aNil))) (sRet (eA pLst aNil)) sNext)
  (sSeq (sAsg (e1 (pFld faT "letters") (eVar 0)) (gStrH 2 1 (gsCons (gUnp 2 (gsCons (gNm 1) (gsCons (gNm 2) gsNil))) (gsCons (gNm 3) gsNil))))
  (sSeq (sAsg (eVar 3) (gFld faT "letters" (eVar 0)))
  (sSeq (sIf (etoT (e2 opNe (eVar 1) (e1 (pFld faT "last") (eVar 0)))) (sSeq (sSet 4 (eAndV (e2 opIsNot (eVar 2) (eCon .non)) (e2 opIs (e1 (pFld faT "box") (eVar 0)) (eCon .non))))
  (sSeq (sAsg (eA pTup (aCons (eVar 1) (aCons (e1 bInt (eVar 4)) aNil))) (gUnp 2 (gsCons (gFld faT "last" (eVar 0)) (gsCons (gFld faT "took" (eVar 0)) gsNil))))
  (sAsg (eIf (etru (eVar 4)) (eVar 2) (e1 (pFld faT "box") (eVar 0))) (gFld faT "box" (eVar 0))))) sNext)
  (sRet (eA pLst (aCons (eA pTup (aCons (e1 (pFld faT "last") (eVar 0)) (aCons (e1 (pFld faT "took") (eVar 0)) aNil))) aNil))))))
theorem ok_Way_taken_up {W : Wd} {P : Program} {w : World} {mg : Str → Option Value} {base : Heap} {k : Nat} (o : Wo W w mg) : PFn W P w mg base (k + 1) o.a_Way_taken_up o.fd_Way_taken_up ["self"] (runD 5 (d_Way_taken_up)) := by
  refine PFn.mk' (N := ["self", "mark", "word", "left", "is_taken"]) (txt_of o.F_Way_taken_up) sc_Way_taken_up fun cdv A outer s H E cz => ?_
  exact dss_cons (ds_if (dt_cmp (c_eq cz.K cz.rm) (de_fld cz.K (cz.fl o.flds) (de_var 0) rfl) (de_lst da_nil) (nomark _)) (dss_one (ds_ret (de_lst da_nil))) dss_nil)
    (dss_cons (ds_asg (de_fld cz.K (cz.fl o.flds) (de_var 0) rfl) (dg_starH cz (dgs_cons (dg_tup cz (dgs_cons (dg_name cz.nd) (dgs_cons (dg_name cz.nd) dgs_nil))) (dgs_star (dg_name cz.nd) dgs_nil))))
    (dss_cons (ds_asg (de_var 3) (dg_fld (Wx := WxE E) (cz.fl o.flds) (de_var 0)))
    (dss_cons (ds_if (dt_cmp (c_ne cz.K cz.rm) (de_var 1) (de_fld cz.K (cz.fl o.flds) (de_var 0) rfl) (nomark _)) (dss_cons (ds_set cz.nd rfl (Or.inl rfl) (de_and cz.K (de_cmp c_isnot (de_var 2) de_non (nomark _)) (de_one (de_cmp c_is (de_fld cz.K (cz.fl o.flds) (de_var 0) rfl) de_non (nomark _)))))
    (dss_cons (ds_asg (de_tup (da_cons (de_var 1) (da_cons (de_intB rfl o.n_int (de_var 4)) da_nil))) (dg_tup cz (dgs_cons (dg_fld (Wx := WxE E) (cz.fl o.flds) (de_var 0)) (dgs_cons (dg_fld (Wx := WxE E) (cz.fl o.flds) (de_var 0)) dgs_nil))))
    (dss_one (ds_asg (de_if (dt_truth cz.K (de_var 4) (fun _ => rfl)) (de_var 2) (de_fld cz.K (cz.fl o.flds) (de_var 0) rfl)) (dg_fld (Wx := WxE E) (cz.fl o.flds) (de_var 0)))))) dss_nil)
    (dss_one (ds_ret (de_lst (da_cons (de_tup (da_cons (de_fld cz.K (cz.fl o.flds) (de_var 0) rfl) (da_cons (de_fld cz.K (cz.fl o.flds) (de_var 0) rfl) da_nil))) da_nil)))))))
theorem sc_Way_heard : FnScope ["self", "heard", "left", "mark", "took"] ["self"] (defScope s_Way_heard) := ⟨rfl, rfl, rfl, by decide +kernel, rfl, by decide +kernel, by decide +kernel⟩
noncomputable def d_Way_heard_L1 (Φ_Way_end_round : Den) : SF := sIf (tAndF (etoT (e2 opEq (eVar 3) (e1 (pFld faT "mark") (eVar 0)))) (tAndF (etoT (e2 opEq (e1 (pFld faT "bears") (eVar 0)) (eCon (.int 1)))) (etoT (e2 opEq (eVar 4) (eCon (.int 1)))))) (sDrop (dMeth 0 "end_round" ar0_Way_end_round Φ_Way_end_round (eVar 0) (aCons (eCon (.int 0)) (aCons (eCon .non) aNil)))) (sIf (etoT (e2 opEq (eVar 3) (e1 (pFld faT "mark") (eVar 0)))) (sDrop (dMeth 0 "end_round" ar0_Way_end_round Φ_Way_end_round (eVar 0) (aCons (e1 bInt (e2 opIsNot (e1 (pFld faT "slot") (eVar 0)) (eCon .non))) (aCons (e1 (pFld faT "slot") (eVar 0)) aNil)))) sNext)
noncomputable def d_Way_heard (Φ_Way_end_round : Den) : SF := sSeq (sPar 1 2 (aCons (eCut (e1 (pFld faT "echoes") (eVar 0)) oNone (oSome (eCon (.int 1)))) (aCons (eLay (eCut (e1 (pFld faT "echoes") (eVar 0)) (oSome (eCon (.int 1))) oNone)) aNil)))
  (sSeq (sAsg (eVar 2) (gFld faT "echoes" (eVar 0)))
  (sFor (iVal (eVar 1)) (gUnp 2 (gsCons (gNm 3) (gsCons (gNm 4) gsNil))) (d_Way_heard_L1 Φ_Way_end_round)))
theorem ok_Way_heard {W : Wd} {P : Program} {w : World} {mg : Str → Option Value} {base : Heap} {k : Nat} (o : Wo W w mg) {Φ_Way_end_round : Den} (P_Way_end_round : PFn W P w mg base k o.a_Way_end_round o.fd_Way_end_round ["self", "bears", "slot"] Φ_Way_end_round) : PFn W P w mg base (k + 1) o.a_Way_heard o.fd_Way_heard ["self"] (runD 5 (d_Way_heard Φ_Way_end_round)) := by
  refine PFn.mk' (N := ["self", "heard", "left", "mark", "took"]) (txt_of o.F_Way_heard) sc_Way_heard fun cdv A outer s H E cz => ?_
  exact dss_cons (ds_par cz (da_cons (de_cut cz.K (de_fld cz.K (cz.fl o.flds) (de_var 0) rfl) do_none (do_some de_int)) (da_cons (de_lay (de_cut cz.K (de_fld cz.K (cz.fl o.flds) (de_var 0) rfl) (do_some de_int) do_none)) da_nil)))
    (dss_cons (ds_asg (de_var 2) (dg_fld (Wx := WxE E) (cz.fl o.flds) (de_var 0)))
    (dss_one (ds_for cz (di_val cz.K (de_var 1)) (dg_tup cz (dgs_cons (dg_name cz.nd) (dgs_cons (dg_name cz.nd) dgs_nil))) (dss_one (ds_if (dw_t (dw_and (dt_cmp (c_eq cz.K cz.rm) (de_var 3) (de_fld cz.K (cz.fl o.flds) (de_var 0) rfl) (nomark _)) (dw_and (dt_cmp (c_eq cz.K cz.rm) (de_fld cz.K (cz.fl o.flds) (de_var 0) rfl) de_int (nomark _)) (dw_and1 (dt_cmp (c_eq cz.K cz.rm) (de_var 4) de_int (nomark _)))))) (dss_one (ds_expr (de_meth cz o.cl_Way o.me_Way_end_round P_Way_end_round (pt0_Way_end_round o) (de_var 0) (da_cons de_int (da_cons de_non da_nil)) (hal := al_cons (al_cons al_nil))))) (dss_one (ds_if (dt_cmp (c_eq cz.K cz.rm) (de_var 3) (de_fld cz.K (cz.fl o.flds) (de_var 0) rfl) (nomark _)) (dss_one (ds_expr (de_meth cz o.cl_Way o.me_Way_end_round P_Way_end_round (pt0_Way_end_round o) (de_var 0) (da_cons (de_intB rfl o.n_int (de_cmp c_isnot (de_fld cz.K (cz.fl o.flds) (de_var 0) rfl) de_non (nomark _))) (da_cons (de_fld cz.K (cz.fl o.flds) (de_var 0) rfl) da_nil)) (hal := al_cons (al_cons al_nil))))) dss_nil)))))))
theorem sc_Way_end_round : FnScope ["self", "bears", "slot"] ["self", "bears", "slot"] (defScope s_Way_end_round) := ⟨rfl, rfl, rfl, by decide +kernel, rfl, by decide +kernel, by decide +kernel⟩
noncomputable def d_Way_end_round (Φ_marks : Den) : SF := sSeq (sAsg (e2 opMod (e2 opAdd (e1 (pFld faT "mark") (eVar 0)) (eCon (.int 1))) (dCall ar0_marks Φ_marks (aCons (e1 (pFld faT "hold") (eVar 0)) aNil))) (gFld faT "mark" (eVar 0)))
  (sAsg (eA pTup (aCons (eVar 1) (aCons (eVar 2) aNil))) (gUnp 2 (gsCons (gFld faT "bears" (eVar 0)) (gsCons (gFld faT "slot" (eVar 0)) gsNil))))
theorem ok_Way_end_round {W : Wd} {P : Program} {w : World} {mg : Str → Option Value} {base : Heap} {k : Nat} (o : Wo W w mg) {Φ_marks : Den} (P_marks : PFn W P w mg base k o.a_marks o.fd_marks ["hold"] Φ_marks) : PFn W P w mg base (k + 1) o.a_Way_end_round o.fd_Way_end_round ["self", "bears", "slot"] (runD 3 (d_Way_end_round Φ_marks)) := by
  refine PFn.mk' (N := ["self", "bears", "slot"]) (txt_of o.F_Way_end_round) sc_Way_end_round fun cdv A outer s H E cz => ?_
  exact dss_cons (ds_asg (de_mod (de_add cz.K (de_fld cz.K (cz.fl o.flds) (de_var 0) rfl) de_int) (de_call cz P_marks (pt0_marks o) rfl o.g_marks o.F_marks.kp (da_cons (de_fld cz.K (cz.fl o.flds) (de_var 0) rfl) da_nil) (hal := al_cons al_nil))) (dg_fld (Wx := WxE E) (cz.fl o.flds) (de_var 0)))
    (dss_one (ds_asg (de_tup (da_cons (de_var 1) (da_cons (de_var 2) da_nil))) (dg_tup cz (dgs_cons (dg_fld (Wx := WxE E) (cz.fl o.flds) (de_var 0)) (dgs_cons (dg_fld (Wx := WxE E) (cz.fl o.flds) (de_var 0)) dgs_nil)))))
theorem sc_Way_beat : FnScope ["self", "word", "taking", "lost", "letter", "is_free", "taken", "echoes"] ["self", "word", "taking", "lost"] (defScope s_Way_beat) := ⟨rfl, rfl, rfl, by decide +kernel, rfl, by decide +kernel, by decide +kernel⟩
noncomputable def d_Way_beat (Φ_Way_heard : Den) (Φ_Way_taken_up : Den) (Φ_Way_would_lose : Den) (Φ_Way_must_bear : Den) (Φ_is_borne : Den) : SF := sSeq (sIf (tNotF (etru (dCall ar0_is_borne Φ_is_borne (aCons (eVar 1) (aCons (e1 (pFld faT "bound") (eVar 0)) aNil))))) (sRaise (mExc 2 (mk1 "word") (aCons (eVar 1) aNil))) sNext)
  (sSeq (sDrop (dMeth 0 "must_bear" ar0_Way_must_bear Φ_Way_must_bear (eVar 0) (aCons (eVar 3) aNil)))
  (sSeq (sAsg (dMeth 0 "would_lose" ar0_Way_would_lose Φ_Way_would_lose (eVar 0) (aCons (eVar 3) aNil)) (gUnp 2 (gsCons (gFld faT "lost_letters" (eVar 0)) (gsCons (gFld faT "lost_echoes" (eVar 0)) gsNil))))
  (sSeq (sSet 4 (eA pTup (aCons (e1 (pFld faT "mark") (eVar 0)) (aCons (eIf (etoT (e2 opEq (e1 (pFld faT "bears") (eVar 0)) (eCon (.int 1)))) (e1 (pFld faT "slot") (eVar 0)) (eCon .non)) aNil))))
  (sSeq (sPar 5 6 (aCons (e2 opIs (e1 (pFld faT "slot") (eVar 0)) (eCon .non)) (aCons (eIf (etru (eVar 2)) (e1 (pFld faT "box") (eVar 0)) (eCon .non)) aNil)))
  (sSeq (sSet 7 (dMeth 0 "taken_up" ar0_Way_taken_up Φ_Way_taken_up (eVar 0) aNil))
  (sSeq (sDrop (dMeth 0 "heard" ar0_Way_heard Φ_Way_heard (eVar 0) aNil))
  (sSeq (sDrop (eM "list" mExtend (e1 (pFld faT "letters") (eVar 0)) (aCons (eIf (etru (e2 pIx (eVar 3) (eCon (.int 0)))) (eA pLst aNil) (eA pLst (aCons (eVar 4) aNil))) aNil)))
  (sSeq (sDrop (eM "list" mExtend (e1 (pFld faT "echoes") (eVar 0)) (aCons (eIf (etru (e2 pIx (eVar 3) (eCon (.int 1)))) (eA pLst aNil) (eVar 7)) aNil)))
  (sSeq (sIf (tAndF (etru (eVar 5)) (etoT (e2 opIsNot (eVar 1) (eCon .non)))) (sAsg (eVar 1) (gFld faT "slot" (eVar 0))) sNext)
  (sSeq (sIf (etoT (e2 opIsNot (eVar 6) (eCon .non))) (sAsg (eCon .non) (gFld faT "box" (eVar 0))) sNext)
  (sRet (eA pTup (aCons (eIf (etoT (e2 opIs (eVar 1) (eCon .non))) (eCon .non) (eVar 5)) (aCons (eVar 6) aNil))))))))))))))
theorem ok_Way_beat {W : Wd} {P : Program} {w : World} {mg : Str → Option Value} {base : Heap} {k : Nat} (o : Wo W w mg) {Φ_Way_heard : Den} {Φ_Way_taken_up : Den} {Φ_Way_would_lose : Den} {Φ_Way_must_bear : Den} {Φ_is_borne : Den} (P_Way_heard : PFn W P w mg base (k + 2) o.a_Way_heard o.fd_Way_heard ["self"] Φ_Way_heard) (P_Way_taken_up : PFn W P w mg base (k + 2) o.a_Way_taken_up o.fd_Way_taken_up ["self"] Φ_Way_taken_up) (P_Way_would_lose : PFn W P w mg base (k + 2) o.a_Way_would_lose o.fd_Way_would_lose ["self", "lost"] Φ_Way_would_lose) (P_Way_must_bear : PFn W P w mg base (k + 2) o.a_Way_must_bear o.fd_Way_must_bear ["self", "lost"] Φ_Way_must_bear) (P_is_borne : PFn W P w mg base (k + 2) o.a_is_borne o.fd_is_borne ["thing", "bound"] Φ_is_borne) : PFn W P w mg base (k + 3) o.a_Way_beat o.fd_Way_beat ["self", "word", "taking", "lost"] (runD 8 (d_Way_beat Φ_Way_heard Φ_Way_taken_up Φ_Way_would_lose Φ_Way_must_bear Φ_is_borne)) := by
  refine PFn.mk' (N := ["self", "word", "taking", "lost", "letter", "is_free", "taken", "echoes"]) (txt_of o.F_Way_beat) sc_Way_beat fun cdv A outer s H E cz => ?_
  exact dss_cons (ds_if (dt_not (dt_truth cz.K (de_call cz P_is_borne (pt0_is_borne o) rfl o.g_is_borne o.F_is_borne.kp (da_cons (de_var 1) (da_cons (de_fld cz.K (cz.fl o.flds) (de_var 0) rfl) da_nil)) (hal := al_cons (al_cons al_nil))) (fun _ => rfl))) (dss_one (ds_raise cz (dm_x1 cz o.xc_NoNumber o.me_NoNumber___init__ (xi_NoNumber o) (xb_NoNumber o) rfl o.gx_NoNumber (da_cons (de_var 1) da_nil)))) dss_nil)
    (dss_cons (ds_expr (de_meth cz o.cl_Way o.me_Way_must_bear P_Way_must_bear (pt0_Way_must_bear o) (de_var 0) (da_cons (de_var 3) da_nil) (hal := al_cons al_nil)))
    (dss_cons (ds_asg (de_meth cz o.cl_Way o.me_Way_would_lose P_Way_would_lose (pt0_Way_would_lose o) (de_var 0) (da_cons (de_var 3) da_nil) (hal := al_cons al_nil)) (dg_tup cz (dgs_cons (dg_fld (Wx := WxE E) (cz.fl o.flds) (de_var 0)) (dgs_cons (dg_fld (Wx := WxE E) (cz.fl o.flds) (de_var 0)) dgs_nil))))
    (dss_cons (ds_set cz.nd rfl (Or.inl rfl) (de_tup (da_cons (de_fld cz.K (cz.fl o.flds) (de_var 0) rfl) (da_cons (de_if (dt_cmp (c_eq cz.K cz.rm) (de_fld cz.K (cz.fl o.flds) (de_var 0) rfl) de_int (nomark _)) (de_fld cz.K (cz.fl o.flds) (de_var 0) rfl) de_non) da_nil))))
    (dss_cons (ds_par cz (da_cons (de_cmp c_is (de_fld cz.K (cz.fl o.flds) (de_var 0) rfl) de_non (nomark _)) (da_cons (de_if (dt_truth cz.K (de_var 2) (fun _ => rfl)) (de_fld cz.K (cz.fl o.flds) (de_var 0) rfl) de_non) da_nil)))
    (dss_cons (ds_set cz.nd rfl (Or.inl rfl) (de_meth0 cz o.cl_Way o.me_Way_taken_up P_Way_taken_up (pt0_Way_taken_up o) (de_var 0)))
    (dss_cons (ds_expr (de_meth0 cz o.cl_Way o.me_Way_heard P_Way_heard (pt0_Way_heard o) (de_var 0)))
    (dss_cons (ds_expr (de_extend cz.K (de_fld cz.K (cz.fl o.flds) (de_var 0) rfl) (da_cons (de_if (dt_truth cz.K (de_ix cz.K cz.rm (de_var 3) de_int (fun _ _ => rfl)) (fun _ => rfl)) (de_lst da_nil) (de_lst (da_cons (de_var 4) da_nil))) da_nil)))
    (dss_cons (ds_expr (de_extend cz.K (de_fld cz.K (cz.fl o.flds) (de_var 0) rfl) (da_cons (de_if (dt_truth cz.K (de_ix cz.K cz.rm (de_var 3) de_int (fun _ _ => rfl)) (fun _ => rfl)) (de_lst da_nil) (de_var 7)) da_nil)))
    (dss_cons (ds_if (dw_t (dw_and (dt_truth cz.K (de_var 5) (fun _ => rfl)) (dw_and1 (dt_cmp c_isnot (de_var 1) de_non (nomark _))))) (dss_one (ds_asg (de_var 1) (dg_fld (Wx := WxE E) (cz.fl o.flds) (de_var 0)))) dss_nil)
    (dss_cons (ds_if (dt_cmp c_isnot (de_var 6) de_non (nomark _)) (dss_one (ds_asg de_non (dg_fld (Wx := WxE E) (cz.fl o.flds) (de_var 0)))) dss_nil)
    (dss_one (ds_ret (de_tup (da_cons (de_if (dt_cmp c_is (de_var 1) de_non (nomark _)) de_non (de_var 5)) (da_cons (de_var 6) da_nil)))))))))))))))
theorem sc_Way_parts : FnScope ["self"] ["self"] (defScope s_Way_parts) := ⟨rfl, rfl, rfl, by decide +kernel, rfl, by decide +kernel, by decide +kernel⟩
noncomputable def d_Way_parts (Φ_Way_store : Den) : SF := sRet (eA pTup (aCons (e1 (pFld faT "hold") (eVar 0)) (aCons (e1 (pFld faT "miss") (eVar 0)) (aCons (e1 (pFld faT "bound") (eVar 0)) (aCons (dMeth 0 "store" ar0_Way_store Φ_Way_store (eVar 0) aNil) (aCons (e1 (pFld faT "lost_letters") (eVar 0)) (aCons (e1 (pFld faT "lost_echoes") (eVar 0)) aNil)))))))
theorem ok_Way_parts {W : Wd} {P : Program} {w : World} {mg : Str → Option Value} {base : Heap} {k : Nat} (o : Wo W w mg) {Φ_Way_store : Den} (P_Way_store : PFn W P w mg base k o.a_Way_store o.fd_Way_store ["self"] Φ_Way_store) : PFn W P w mg base (k + 1) o.a_Way_parts o.fd_Way_parts ["self"] (runD 1 (d_Way_parts Φ_Way_store)) := by
  refine PFn.mk' (N := ["self"]) (txt_of o.F_Way_parts) sc_Way_parts fun cdv A outer s H E cz => ?_
  exact dss_one (ds_ret (de_tup (da_cons (de_fld cz.K (cz.fl o.flds) (de_var 0) rfl) (da_cons (de_fld cz.K (cz.fl o.flds) (de_var 0) rfl) (da_cons (de_fld cz.K (cz.fl o.flds) (de_var 0) rfl) (da_cons (de_meth0 cz o.cl_Way o.me_Way_store P_Way_store (pt0_Way_store o) (de_var 0)) (da_cons (de_fld cz.K (cz.fl o.flds) (de_var 0) rfl) (da_cons (de_fld cz.K (cz.fl o.flds) (de_var 0) rfl) da_nil))))))))
theorem sc_Way___eq__ : FnScope ["self", "other"] ["self", "other"] (defScope s_Way___eq__) := ⟨rfl, rfl, rfl, by decide +kernel, rfl, by decide +kernel, by decide +kernel⟩
noncomputable def d_Way___eq__ (Φ_Way_parts : Den) : SF := sRet (eAndV (e1 (bIsC [0] 0) (eVar 1)) (e2 opEq (dMeth 0 "parts" ar0_Way_parts Φ_Way_parts (eVar 0) aNil) (dMeth 0 "parts" ar0_Way_parts Φ_Way_parts (eVar 1) aNil)))
theorem ok_Way___eq__ {W : Wd} {P : Program} {w : World} {mg : Str → Option Value} {base : Heap} {k : Nat} (o : Wo W w mg) {Φ_Way_parts : Den} (P_Way_parts : PFn W P w mg base k o.a_Way_parts o.fd_Way_parts ["self"] Φ_Way_parts) : PFn W P w mg base (k + 1) o.a_Way___eq__ o.fd_Way___eq__ ["self", "other"] (runD 2 (d_Way___eq__ Φ_Way_parts)) := by
  refine PFn.mk' (N := ["self", "other"]) (txt_of o.F_Way___eq__) sc_Way___eq__ fun cdv A outer s H E cz => ?_
  exact dss_one (ds_ret (de_and cz.K (de_isc (cs := [0]) cz.K (by rw [cz.K]; exact kitC o.ik_Way) rfl o.n_isinstance rfl o.gc_Way (de_var 1)) (de_one (de_cmp (c_eq cz.K cz.rm) (de_meth0 cz o.cl_Way o.me_Way_parts P_Way_parts (pt0_Way_parts o) (de_var 0)) (de_meth0 cz o.cl_Way o.me_Way_parts P_Way_parts (pt0_Way_parts o) (de_var 1)) (nomark _)))))
theorem sc_Way___len__ : FnScope ["self"] ["self"] (defScope s_Way___len__) := ⟨rfl, rfl, rfl, by decide +kernel, rfl, by decide +kernel, by decide +kernel⟩
noncomputable def d_Way___len__ : SF := sRet (e1 bLen (e2 opAdd (e1 (pFld faT "letters") (eVar 0)) (e1 (pFld faT "echoes") (eVar 0))))
theorem ok_Way___len__ {W : Wd} {P : Program} {w : World} {mg : Str → Option Value} {base : Heap} {k : Nat} (o : Wo W w mg) : PFn W P w mg base (k + 1) o.a_Way___len__ o.fd_Way___len__ ["self"] (runD 1 (d_Way___len__)) := by
  refine PFn.mk' (N := ["self"]) (txt_of o.F_Way___len__) sc_Way___len__ fun cdv A outer s H E cz => ?_
  exact dss_one (ds_ret (de_len cz.K rfl o.n_len (de_add cz.K (de_fld cz.K (cz.fl o.flds) (de_var 0) rfl) (de_fld cz.K (cz.fl o.flds) (de_var 0) rfl))))
theorem sc_Way___repr__ : FnScope ["self"] ["self"] (defScope s_Way___repr__) := ⟨rfl, rfl, rfl, by decide +kernel, rfl, by decide +kernel, by decide +kernel⟩
noncomputable def d_Way___repr__ : SF := sRet (eJoin Str.empty [eCon (.str "Way("), e1 pFmt (e1 (pFld faT "hold") (eVar 0)), eCon (.str ", "), e1 pFmt (e1 (pFld faT "miss") (eVar 0)), eCon (.str ", "), e1 pFmt (e1 (pFld faT "bound") (eVar 0)), eCon (.str ")")])
theorem ok_Way___repr__ {W : Wd} {P : Program} {w : World} {mg : Str → Option Value} {base : Heap} {k : Nat} (o : Wo W w mg) : PFn W P w mg base (k + 1) o.a_Way___repr__ o.fd_Way___repr__ ["self"] (runD 1 (d_Way___repr__)) := by
  refine PFn.mk' (N := ["self"]) (txt_of o.F_Way___repr__) sc_Way___repr__ fun cdv A outer s H E cz => ?_
  exact dss_one (ds_ret (de_join (.cons de_str (.cons (de_fmt (de_fld cz.K (cz.fl o.flds) (de_var 0) rfl)) (.cons de_str (.cons (de_fmt (de_fld cz.K (cz.fl o.flds) (de_var 0) rfl)) (.cons de_str (.cons (de_fmt (de_fld cz.K (cz.fl o.flds) (de_var 0) rfl)) (.cons de_str .nil)))))))))
theorem sc__law_bag : FnScope ["_law_script", "_law_at", "_law_cell", "_law_far"] ["_law_script", "_law_at"] (defScope s__law_bag) := ⟨rfl, rfl, rfl, by decide +kernel, rfl, by decide +kernel, by decide +kernel⟩
noncomputable def d__law_bag : SF := sSeq (sSet 2 (eCon (.int 0)))
  (sSeq (sIf (etoT (e2 opLt (eVar 1) (e1 bLen (eVar 0)))) (sSet 2 (e2 pIx (eVar 0) (eVar 1))) sNext)
  (sSeq (sSet 3 (e1 bAbs (eVar 2)))
  (sRet (eLay (eA pLst (aCons (e2 opMul (eVar 3) (e1 bInt (e2 opGe (eVar 3) (e2 opPow (eCon (.int 10)) (eCon (.int 18)))))) (aCons (e2 opAdd (e2 opAdd (e2 opAdd (e2 opMod (eVar 2) (eCon (.int 1000000000000000003))) (e2 opMul (e2 opMul (eCon (.int 4019)) (eVar 1)) (eVar 1))) (e2 opMul (eCon (.int 23)) (eVar 1))) (eCon (.int 17))) (aCons (eCon (.int 0)) aNil))))))))
theorem ok__law_bag {W : Wd} {P : Program} {w : World} {mg : Str → Option Value} {base : Heap} {k : Nat} (o : Wo W w mg) : PFn W P w mg base (k + 1) o.a__law_bag o.fd__law_bag ["_law_script", "_law_at"] (runD 4 (d__law_bag)) := by
  refine PFn.mk' (N := ["_law_script", "_law_at", "_law_cell", "_law_far"]) (txt_of o.F__law_bag) sc__law_bag fun cdv A outer s H E cz => ?_
  exact dss_cons (ds_set cz.nd rfl (Or.inl rfl) de_int)
    (dss_cons (ds_if (dt_cmp c_lt (de_var 1) (de_len cz.K rfl o.n_len (de_var 0)) (nomark _)) (dss_one (ds_set cz.nd rfl (Or.inl rfl) (de_ix cz.K cz.rm (de_var 0) (de_var 1) (fun _ _ => rfl)))) dss_nil)
    (dss_cons (ds_set cz.nd rfl (Or.inl rfl) (de_abs rfl o.n_abs (de_var 2)))
    (dss_one (ds_ret (de_lay (de_lst (da_cons (de_mul cz.K (de_var 3) (de_intB rfl o.n_int (de_cmp c_ge (de_var 3) (de_pow de_int de_int) (nomark _)))) (da_cons (de_add cz.K (de_add cz.K (de_add cz.K (de_mod (de_var 2) de_int) (de_mul cz.K (de_mul cz.K de_int (de_var 1)) (de_var 1))) (de_mul cz.K de_int (de_var 1))) de_int) (da_cons de_int da_nil)))))))))
theorem sc__law_take : FnScope ["_law_bag_here", "_law_many", "_law_digit", "_law_primes", "_law_turn", "_law_base", "_law_mixed"] ["_law_bag_here", "_law_many"] (defScope s__law_take) := ⟨rfl, rfl, rfl, by decide +kernel, rfl, by decide +kernel, by decide +kernel⟩
noncomputable def d__law_take : SF := sSeq (sIf (etoT (e2 opGt (e2 pIx (eVar 0) (eCon (.int 0))) (eCon (.int 0)))) (sSeq (sSet 2 (e2 opMod (e2 pIx (eVar 0) (eCon (.int 0))) (eVar 1)))
  (sSeq (sAsg (e2 opDiv (e2 pIx (eVar 0) (eCon (.int 0))) (eVar 1)) (gSubF (eVar 0) (eCon (.int 0))))
  (sRet (eVar 2)))) sNext)
  (sSeq (sSet 3 (eA pTup (aCons (eCon (.int 2147483647)) (aCons (eCon (.int 2147483629)) (aCons (eCon (.int 2147483587)) (aCons (eCon (.int 2147483579)) (aCons (eCon (.int 2147483563)) (aCons (eCon (.int 2147483549)) (aCons (eCon (.int 2147483543)) aNil)))))))))
  (sSeq (sAsg (e2 opAdd (e2 pIx (eVar 0) (eCon (.int 2))) (eCon (.int 1))) (gSubF (eVar 0) (eCon (.int 2))))
  (sSeq (sSet 4 (e2 pIx (eVar 0) (eCon (.int 2))))
  (sSeq (sSet 5 (e2 opAdd (e2 opAdd (e2 opMul (e2 pIx (eVar 0) (eCon (.int 1))) (e2 opAdd (e2 opMul (eCon (.int 2)) (eVar 4)) (eCon (.int 1)))) (e2 opMul (e2 opMul (eCon (.int 4523)) (eVar 4)) (eVar 4))) (eCon (.int 31))))
  (sSeq (sSet 6 (e2 opMod (e2 opPow (eVar 5) (eCon (.int 3))) (e2 pIx (eVar 3) (e2 opMod (eVar 4) (eCon (.int 7))))))
  (sRet (e2 opMod (e2 opDiv (e2 opMod (e2 opMul (eVar 6) (e2 opAdd (e2 opAdd (e2 opDiv (eVar 6) (eCon (.int 4096))) (e2 opMul (eCon (.int 3)) (eVar 4))) (eCon (.int 1)))) (e2 pIx (eVar 3) (e2 opMod (e2 opAdd (eVar 4) (eCon (.int 4))) (eCon (.int 7))))) (eCon (.int 16))) (eVar 1))))))))
theorem ok__law_take {W : Wd} {P : Program} {w : World} {mg : Str → Option Value} {base : Heap} {k : Nat} (o : Wo W w mg) : PFn W P w mg base (k + 1) o.a__law_take o.fd__law_take ["_law_bag_here", "_law_many"] (runD 7 (d__law_take)) := by
  refine PFn.mk' (N := ["_law_bag_here", "_law_many", "_law_digit", "_law_primes", "_law_turn", "_law_base", "_law_mixed"]) (txt_of o.F__law_take) sc__law_take fun cdv A outer s H E cz => ?_
  exact dss_cons (ds_if (dt_cmp c_gt (de_ix cz.K cz.rm (de_var 0) de_int (fun _ _ => rfl)) de_int (nomark _)) (dss_cons (ds_set cz.nd rfl (Or.inl rfl) (de_mod (de_ix cz.K cz.rm (de_var 0) de_int (fun _ _ => rfl)) (de_var 1)))
    (dss_cons (ds_asg (de_div (de_ix cz.K cz.rm (de_var 0) de_int (fun _ _ => rfl)) (de_var 1)) (dg_sub cz (de_var 0) de_int))
    (dss_one (ds_ret (de_var 2))))) dss_nil)
    (dss_cons (ds_set cz.nd rfl (Or.inl rfl) (de_tup (da_cons de_int (da_cons de_int (da_cons de_int (da_cons de_int (da_cons de_int (da_cons de_int (da_cons de_int da_nil)))))))))
    (dss_cons (ds_asg (de_add cz.K (de_ix cz.K cz.rm (de_var 0) de_int (fun _ _ => rfl)) de_int) (dg_sub cz (de_var 0) de_int))
    (dss_cons (ds_set cz.nd rfl (Or.inl rfl) (de_ix cz.K cz.rm (de_var 0) de_int (fun _ _ => rfl)))
    (dss_cons (ds_set cz.nd rfl (Or.inl rfl) (de_add cz.K (de_add cz.K (de_mul cz.K (de_ix cz.K cz.rm (de_var 0) de_int (fun _ _ => rfl)) (de_add cz.K (de_mul cz.K de_int (de_var 4)) de_int)) (de_mul cz.K (de_mul cz.K de_int (de_var 4)) (de_var 4))) de_int))
    (dss_cons (ds_set cz.nd rfl (Or.inl rfl) (de_mod (de_pow (de_var 5) de_int) (de_ix cz.K cz.rm (de_var 3) (de_mod (de_var 4) de_int) (fun _ _ => rfl))))
    (dss_one (ds_ret (de_mod (de_div (de_mod (de_mul cz.K (de_var 6) (de_add cz.K (de_add cz.K (de_div (de_var 6) de_int) (de_mul cz.K de_int (de_var 4))) de_int)) (de_ix cz.K cz.rm (de_var 3) (de_mod (de_add cz.K (de_var 4) de_int) de_int) (fun _ _ => rfl))) de_int) (de_var 1)))))))))
theorem sc__law_store : FnScope ["_law_bag_here", "_law_size", "_law_top", "_law_marking", "_law_some", "_law_turn", "_law_echoing", "_law_two", "_law_front"] ["_law_bag_here", "_law_size", "_law_top"] (defScope s__law_store) := ⟨rfl, rfl, rfl, by decide +kernel, rfl, by decide +kernel, by decide +kernel⟩
noncomputable def d__law_store_E1 (Φ__law_take : Den) : EF := e2 pIx (eA pLst (aCons (eCon .non) (aCons (dCall ar0__law_take Φ__law_take (aCons (eVar 0) (aCons (eVar 2) aNil))) aNil))) (dCall ar0__law_take Φ__law_take (aCons (eVar 0) (aCons (eCon (.int 2)) aNil)))
noncomputable def d__law_store_E2 (Φ__law_take : Den) : EF := eA pTup (aCons (dCall ar0__law_take Φ__law_take (aCons (eVar 0) (aCons (eVar 3) aNil))) (aCons (dCall ar0__law_take Φ__law_take (aCons (eVar 0) (aCons (eCon (.int 2)) aNil))) aNil))
noncomputable def d__law_store_L1 (Φ__law_take : Den) : SF := sDrop (eM "list" mAppend (eVar 4) (aCons (eA pTup (aCons (dCall ar0__law_take Φ__law_take (aCons (eVar 0) (aCons (eVar 3) aNil))) (aCons (e2 pIx (eA pLst (aCons (eCon .non) (aCons (dCall ar0__law_take Φ__law_take (aCons (eVar 0) (aCons (eVar 2) aNil))) aNil))) (dCall ar0__law_take Φ__law_take (aCons (eVar 0) (aCons (eCon (.int 2)) aNil)))) aNil))) aNil))
noncomputable def d__law_store (Φ__law_take : Den) : SF := sSeq (sAsg (eA pTup (aCons (e2 opAdd (e2 opMul (eCon (.int 2)) (eVar 1)) (eCon (.int 1))) (aCons (eLay (eA pLst aNil)) aNil))) (gUnp 2 (gsCons (gNm 3) (gsCons (gNm 4) gsNil))))
  (sSeq (sFor (iRg1 (dCall ar0__law_take Φ__law_take (aCons (eVar 0) (aCons (e2 opAdd (eVar 1) (eCon (.int 1))) aNil)))) (gNm 5) (d__law_store_L1 Φ__law_take))
  (sSeq (sSet 6 (eLc (iRg1 (dCall ar0__law_take Φ__law_take (aCons (eVar 0) (aCons (e2 opAdd (eVar 1) (eCon (.int 1))) aNil)))) (gNm 5) tYesF (d__law_store_E2 Φ__law_take) [5]))
  (sSeq (sSet 7 (eLc (iRg1 (eCon (.int 2))) (gNm 5) tYesF (d__law_store_E1 Φ__law_take) [5]))
  (sSeq (sSet 8 (eA pTup (aCons (dCall ar0__law_take Φ__law_take (aCons (eVar 0) (aCons (eVar 3) aNil))) (aCons (dCall ar0__law_take Φ__law_take (aCons (eVar 0) (aCons (eCon (.int 2)) aNil))) (aCons (e2 pIx (eVar 7) (eCon (.int 0))) (aCons (e1 bTup (eVar 4)) aNil))))))
  (sRet (e2 opAdd (eVar 8) (eA pTup (aCons (dCall ar0__law_take Φ__law_take (aCons (eVar 0) (aCons (eVar 3) aNil))) (aCons (dCall ar0__law_take Φ__law_take (aCons (eVar 0) (aCons (eCon (.int 2)) aNil))) (aCons (e2 pIx (eVar 7) (eCon (.int 1))) (aCons (e1 bTup (eVar 6)) aNil)))))))))))
theorem ok__law_store {W : Wd} {P : Program} {w : World} {mg : Str → Option Value} {base : Heap} {k : Nat} (o : Wo W w mg) {Φ__law_take : Den} (P__law_take : PFn W P w mg base k o.a__law_take o.fd__law_take ["_law_bag_here", "_law_many"] Φ__law_take) : PFn W P w mg base (k + 1) o.a__law_store o.fd__law_store ["_law_bag_here", "_law_size", "_law_top"] (runD 9 (d__law_store Φ__law_take)) := by
  refine PFn.mk' (N := ["_law_bag_here", "_law_size", "_law_top", "_law_marking", "_law_some", "_law_turn", "_law_echoing", "_law_two", "_law_front"]) (txt_of o.F__law_store) sc__law_store fun cdv A outer s H E cz => ?_
  exact dss_cons (ds_asg (de_tup (da_cons (de_add cz.K (de_mul cz.K de_int (de_var 1)) de_int) (da_cons (de_lay (de_lst da_nil)) da_nil))) (dg_tup cz (dgs_cons (dg_name cz.nd) (dgs_cons (dg_name cz.nd) dgs_nil))))
    (dss_cons (ds_for cz (di_rg1 rfl o.n_range (de_call cz P__law_take (pt0__law_take o) rfl o.g__law_take o.F__law_take.kp (da_cons (de_var 0) (da_cons (de_add cz.K (de_var 1) de_int) da_nil)) (hal := al_cons (al_cons al_nil)))) (dg_name cz.nd) (dss_one (ds_expr (de_append cz.K (de_var 4) (da_cons (de_tup (da_cons (de_call cz P__law_take (pt0__law_take o) rfl o.g__law_take o.F__law_take.kp (da_cons (de_var 0) (da_cons (de_var 3) da_nil)) (hal := al_cons (al_cons al_nil))) (da_cons (de_ix cz.K cz.rm (de_lst (da_cons de_non (da_cons (de_call cz P__law_take (pt0__law_take o) rfl o.g__law_take o.F__law_take.kp (da_cons (de_var 0) (da_cons (de_var 2) da_nil)) (hal := al_cons (al_cons al_nil))) da_nil))) (de_call cz P__law_take (pt0__law_take o) rfl o.g__law_take o.F__law_take.kp (da_cons (de_var 0) (da_cons de_int da_nil)) (hal := al_cons (al_cons al_nil))) (fun _ _ => rfl)) da_nil))) da_nil)))))
    (dss_cons (ds_setLc [("_law_turn", 5)] cz (di_rg1 rfl o.n_range (de_call cz P__law_take (pt0__law_take o) rfl o.g__law_take o.F__law_take.kp (da_cons (de_var 0) (da_cons (de_add cz.K (de_var 1) de_int) da_nil)) (hal := al_cons (al_cons al_nil)))) (by kernel_rfl) (fun _ _ _ _ _ cz => dg_name cz.nd) (fun _ _ _ _ _ cz => dts_nil) (fun _ _ _ _ _ cz => de_tup (da_cons (de_call cz P__law_take (pt0__law_take o) rfl o.g__law_take o.F__law_take.kp (da_cons (de_var 0) (da_cons (de_var 3) da_nil)) (hal := al_cons (al_cons al_nil))) (da_cons (de_call cz P__law_take (pt0__law_take o) rfl o.g__law_take o.F__law_take.kp (da_cons (de_var 0) (da_cons de_int da_nil)) (hal := al_cons (al_cons al_nil))) da_nil))))
    (dss_cons (ds_setLc [("_law_turn", 5)] cz (di_rg1 rfl o.n_range de_int) (by kernel_rfl) (fun _ _ _ _ _ cz => dg_name cz.nd) (fun _ _ _ _ _ cz => dts_nil) (fun _ _ _ _ _ cz => de_ix cz.K cz.rm (de_lst (da_cons de_non (da_cons (de_call cz P__law_take (pt0__law_take o) rfl o.g__law_take o.F__law_take.kp (da_cons (de_var 0) (da_cons (de_var 2) da_nil)) (hal := al_cons (al_cons al_nil))) da_nil))) (de_call cz P__law_take (pt0__law_take o) rfl o.g__law_take o.F__law_take.kp (da_cons (de_var 0) (da_cons de_int da_nil)) (hal := al_cons (al_cons al_nil))) (fun _ _ => rfl)))
    (dss_cons (ds_set cz.nd rfl (Or.inl rfl) (de_tup (da_cons (de_call cz P__law_take (pt0__law_take o) rfl o.g__law_take o.F__law_take.kp (da_cons (de_var 0) (da_cons (de_var 3) da_nil)) (hal := al_cons (al_cons al_nil))) (da_cons (de_call cz P__law_take (pt0__law_take o) rfl o.g__law_take o.F__law_take.kp (da_cons (de_var 0) (da_cons de_int da_nil)) (hal := al_cons (al_cons al_nil))) (da_cons (de_ix cz.K cz.rm (de_var 7) de_int (fun _ _ => rfl)) (da_cons (de_tupc cz.K rfl o.n_tuple (de_var 4)) da_nil))))))
    (dss_one (ds_ret (de_add cz.K (de_var 8) (de_tup (da_cons (de_call cz P__law_take (pt0__law_take o) rfl o.g__law_take o.F__law_take.kp (da_cons (de_var 0) (da_cons (de_var 3) da_nil)) (hal := al_cons (al_cons al_nil))) (da_cons (de_call cz P__law_take (pt0__law_take o) rfl o.g__law_take o.F__law_take.kp (da_cons (de_var 0) (da_cons de_int da_nil)) (hal := al_cons (al_cons al_nil))) (da_cons (de_ix cz.K cz.rm (de_var 7) de_int (fun _ _ => rfl)) (da_cons (de_tupc cz.K rfl o.n_tuple (de_var 6)) da_nil))))))))))))
theorem sc__law_refusal : FnScope ["_law_deed", "e"] ["_law_deed"] (defScope s__law_refusal) := ⟨rfl, rfl, rfl, by decide +kernel, rfl, by decide +kernel, by decide +kernel⟩
noncomputable def d__law_refusal_T1 (L : D) (ψ : VH → R EV) : SF := sDrop (eAct 0 L ψ)
noncomputable def d__law_refusal_X1 (L : D) (ψ : VH → R EV) : Addr → Option Addr → SF := fun xa xod => sRet (eIf (tAndF (etru (e1 (pXis xa xod 3 true) (eVar 1))) (tNotF (etru (e1 (pXis xa xod 3 false) (eVar 1))))) (eA pTup (aCons (eCon (.str "TooLost")) (aCons (e1 (pXf xa xod 3 "side") (eVar 1)) aNil))) (eCon .non))
noncomputable def d__law_refusal_X2 (L : D) (ψ : VH → R EV) : Addr → Option Addr → SF := fun xa xod => sRet (eIf (tAndF (etru (e1 (pXis xa xod 4 true) (eVar 1))) (tNotF (etru (e1 (pXis xa xod 4 false) (eVar 1))))) (eA pTup (aCons (eCon (.str "NoStore")) (aCons (eCon .non) aNil))) (eCon .non))
noncomputable def d__law_refusal_X3 (L : D) (ψ : VH → R EV) : Addr → Option Addr → SF := fun xa xod => sRet (eIf (tAndF (etru (e1 (pXis xa xod 2 true) (eVar 1))) (tNotF (etru (e1 (pXis xa xod 2 false) (eVar 1))))) (eA pTup (aCons (eCon (.str "NoNumber")) (aCons (e1 (pXf xa xod 2 "word") (eVar 1)) aNil))) (eCon .non))
noncomputable def d__law_refusal (L : D) (ψ : VH → R EV) : SF := sSeq (sTry (d__law_refusal_T1 L ψ) [⟨2, xmT 1 6 2, some 1, d__law_refusal_X3 L ψ⟩, ⟨4, xmT 1 6 4, some 1, d__law_refusal_X2 L ψ⟩, ⟨3, xmT 1 6 3, some 1, d__law_refusal_X1 L ψ⟩])
  (sRet (eA pTup (aCons (eCon (.str "none")) (aCons (eCon .non) aNil))))
theorem ok__law_refusal {W : Wd} {P : Program} {w : World} {mg : Str → Option Value} {base : Heap} {k : Nat} (o : Wo W w mg) {A : Around} {outer : List Env} {s : Shared} {H : Hp} {L : D} {ψ : VH → R EV} (act : ∀ (cdv : Value) (E : XK), Act W (k + 1) (cxOf (CX P w) P w W.K mg base ["_law_deed", "e"] "_law_refusal" (defScope s__law_refusal) o.a__law_refusal cdv A outer s H E) "_law_deed" (eAct 0 L ψ)) : PFnA W P w mg base (k + 2) o.a__law_refusal o.fd__law_refusal ["_law_deed"] (runD 2 (d__law_refusal L ψ)) A outer s H := by
  refine PFnA.mk' (N := ["_law_deed", "e"]) (txt_of o.F__law_refusal) sc__law_refusal fun cdv E _ cz => ?_
  exact dss_cons (ds_try cz rfl rfl (fun _ _ _ cz => dss_one (ds_expr (act cdv E _ _ _ _ _ cz))) (.as ⟨rfl, by decide, .inl o.gx_NoNumber⟩ rfl rfl (by rw [cz.K]; exact o.xm_NoNumber) (fun xa oe xod pn csu => dss_one (ds_ret (de_if (dw_t (dw_and (dt_truth csu.K (de_xis csu o.ec_NoNumber rfl o.n_isinstance (.bltn rfl o.n_ValueError rfl (by decide) (by decide) .nil rfl) o.ki_4 (de_var 1)) (fun _ => rfl)) (dw_and1 (dt_not (dt_truth csu.K (de_xisT csu o.ec_NoNumber rfl o.n_isinstance (.own rfl o.gx_NoStore (by decide) (.own rfl o.gx_NoWay (by decide) .nil rfl) rfl) (Nat.le_of_lt (small1000 (by simp))) o.ki_5 (de_var 1)) (fun _ => rfl)))))) (de_tup (da_cons de_str (da_cons (de_xf csu o.xf_NoNumber o.na_NoNumber_word (de_var 1)) da_nil))) de_non))) (.as ⟨rfl, by decide, .inl o.gx_NoStore⟩ rfl rfl (by rw [cz.K]; exact o.xm_NoStore) (fun xa oe xod pn csu => dss_one (ds_ret (de_if (dw_t (dw_and (dt_truth csu.K (de_xis csu o.ec_NoStore rfl o.n_isinstance (.bltn rfl o.n_ValueError rfl (by decide) (by decide) .nil rfl) o.ki_2 (de_var 1)) (fun _ => rfl)) (dw_and1 (dt_not (dt_truth csu.K (de_xisT csu o.ec_NoStore rfl o.n_isinstance (.own rfl o.gx_NoYard (by decide) (.own rfl o.gx_NoWay (by decide) .nil rfl) rfl) (Nat.le_of_lt (small1000 (by simp))) o.ki_3 (de_var 1)) (fun _ => rfl)))))) (de_tup (da_cons de_str (da_cons de_non da_nil))) de_non))) (.as ⟨rfl, by decide, .inl o.gx_TooLost⟩ rfl rfl (by rw [cz.K]; exact o.xm_TooLost) (fun xa oe xod pn csu => dss_one (ds_ret (de_if (dw_t (dw_and (dt_truth csu.K (de_xis csu o.ec_TooLost rfl o.n_isinstance (.bltn rfl o.n_RuntimeError rfl (by decide) (by decide) .nil rfl) o.ki_0 (de_var 1)) (fun _ => rfl)) (dw_and1 (dt_not (dt_truth csu.K (de_xis csu o.ec_TooLost rfl o.n_isinstance (.bltn rfl o.n_ValueError rfl (by decide) (by decide) .nil rfl) o.ki_1 (de_var 1)) (fun _ => rfl)))))) (de_tup (da_cons de_str (da_cons (de_xf csu o.xf_TooLost o.na_TooLost_side (de_var 1)) da_nil))) de_non))) .nil))))
    (dss_one (ds_ret (de_tup (da_cons de_str (da_cons de_non da_nil)))))
theorem sc__law_odd : FnScope ["_law_bag_here", "_law_top", "_law_some"] ["_law_bag_here", "_law_top"] (defScope s__law_odd) := ⟨rfl, rfl, rfl, by decide +kernel, rfl, by decide +kernel, by decide +kernel⟩
noncomputable def d__law_odd (Φ__law_take : Den) : SF := sSeq (sSet 2 (eA pLst (aCons (e1 opNeg (eCon (.int 1))) (aCons (eVar 1) (aCons (e2 opAdd (eVar 1) (eCon (.int 1))) (aCons (eCon (.bl true)) (aCons (eCon (.bl false)) (aCons (eCon (.str "1")) (aCons (eA pTup (aCons (eCon (.int 1)) aNil)) (aCons (eA pLst (aCons (eCon (.int 0)) aNil)) (aCons eD0 (aCons (e2 opPow (eCon (.int 10)) (eCon (.int 25))) (aCons (eA pTup aNil) (aCons (eCon (.str "")) aNil))))))))))))))
  (sRet (e2 pIx (eVar 2) (dCall ar0__law_take Φ__law_take (aCons (eVar 0) (aCons (e1 bLen (eVar 2)) aNil)))))
theorem ok__law_odd {W : Wd} {P : Program} {w : World} {mg : Str → Option Value} {base : Heap} {k : Nat} (o : Wo W w mg) {Φ__law_take : Den} (P__law_take : PFn W P w mg base k o.a__law_take o.fd__law_take ["_law_bag_here", "_law_many"] Φ__law_take) : PFn W P w mg base (k + 1) o.a__law_odd o.fd__law_odd ["_law_bag_here", "_law_top"] (runD 3 (d__law_odd Φ__law_take)) := by
  refine PFn.mk' (N := ["_law_bag_here", "_law_top", "_law_some"]) (txt_of o.F__law_odd) sc__law_odd fun cdv A outer s H E cz => ?_
  exact dss_cons (ds_set cz.nd rfl (Or.inl rfl) (de_lst (da_cons (de_neg de_int) (da_cons (de_var 1) (da_cons (de_add cz.K (de_var 1) de_int) (da_cons de_bl (da_cons de_bl (da_cons de_str (da_cons (de_tup (da_cons de_int da_nil)) (da_cons (de_lst (da_cons de_int da_nil)) (da_cons de_dict0 (da_cons (de_pow de_int de_int) (da_cons (de_tup da_nil) (da_cons de_str da_nil))))))))))))))
    (dss_one (ds_ret (de_ix cz.K cz.rm (de_var 2) (de_call cz P__law_take (pt0__law_take o) rfl o.g__law_take o.F__law_take.kp (da_cons (de_var 0) (da_cons (de_len cz.K rfl o.n_len (de_var 2)) da_nil)) (hal := al_cons (al_cons al_nil))) (fun _ _ => rfl))))
theorem sc__law_no_part : FnScope ["_law_bag_here", "_law_k", "_law_size", "_law_top", "_law_ends", "_law_right", "_law_some"] ["_law_bag_here", "_law_k", "_law_size", "_law_top"] (defScope s__law_no_part) := ⟨rfl, rfl, rfl, by decide +kernel, rfl, by decide +kernel, by decide +kernel⟩
noncomputable def d__law_no_part (Φ__law_take : Den) : SF := sSeq (sSet 4 (e2 opAdd (e2 opMul (eCon (.int 2)) (eVar 2)) (eCon (.int 1))))
  (sSeq (sIf (etoT (e2 opIn (eVar 1) (eA pTup (aCons (eCon (.int 0)) (aCons (eCon (.int 4)) aNil))))) (sRet (e2 pIx (eA pLst (aCons (eVar 4) (aCons (e1 opNeg (eCon (.int 1))) (aCons (eCon (.bl true)) (aCons (eCon .non) (aCons (eCon (.str "0")) (aCons (eA pTup (aCons (eCon (.int 0)) aNil)) (aCons (e2 opPow (eCon (.int 10)) (eCon (.int 20))) aNil)))))))) (dCall ar0__law_take Φ__law_take (aCons (eVar 0) (aCons (eCon (.int 7)) aNil))))) sNext)
  (sSeq (sIf (etoT (e2 opIn (eVar 1) (eA pTup (aCons (eCon (.int 1)) (aCons (eCon (.int 5)) aNil))))) (sRet (e2 pIx (eA pLst (aCons (eCon (.int 2)) (aCons (e1 opNeg (eCon (.int 1))) (aCons (eCon (.bl true)) (aCons (eCon (.bl false)) (aCons (eCon .non) (aCons (eCon (.str "1")) (aCons (eA pLst aNil) aNil)))))))) (dCall ar0__law_take Φ__law_take (aCons (eVar 0) (aCons (eCon (.int 7)) aNil))))) sNext)
  (sSeq (sIf (etoT (e2 opIn (eVar 1) (eA pTup (aCons (eCon (.int 2)) (aCons (eCon (.int 6)) aNil))))) (sRet (e2 pIx (eA pLst (aCons (eVar 3) (aCons (e1 opNeg (eCon (.int 1))) (aCons (eCon (.bl true)) (aCons (eCon (.bl false)) (aCons (eCon (.str "")) (aCons (eA pTup (aCons (eCon (.int 0)) aNil)) (aCons (eA pLst aNil) aNil)))))))) (dCall ar0__law_take Φ__law_take (aCons (eVar 0) (aCons (eCon (.int 7)) aNil))))) sNext)
  (sSeq (sSet 5 (eIf (etoT (e2 opEq (eVar 1) (eCon (.int 3)))) (eA pTup (aCons (eCon (.int 0)) (aCons (eCon .non) aNil))) (eA pTup (aCons (eCon (.int 0)) (aCons (eCon (.int 0)) aNil)))))
  (sSeq (sSet 6 (eA pLst (aCons (e2 opMul (eA pTup (aCons (eVar 5) aNil)) (e2 opAdd (eVar 2) (eCon (.int 1)))) (aCons (eA pLst (aCons (eVar 5) aNil)) (aCons (eCon .non) (aCons (eCon (.int 0)) (aCons (eCon (.str "")) (aCons (eA pTup (aCons (e2 opAdd (eVar 5) (eA pTup (aCons (eCon (.int 0)) aNil))) aNil)) (aCons (eA pTup (aCons (eCut (eVar 5) oNone (oSome (eCon (.int 1)))) aNil)) (aCons (eA pTup (aCons (e1 bLst (eVar 5)) aNil)) (aCons (eA pTup (aCons (eCon .non) aNil)) aNil)))))))))))
  (sSeq (sSet 6 (e2 opAdd (eVar 6) (eA pLst (aCons (eA pTup (aCons (eA pTup (aCons (eVar 4) (aCons (e2 pIx (eVar 5) (eCon (.int 1))) aNil))) aNil)) (aCons (eA pTup (aCons (eA pTup (aCons (e1 opNeg (eCon (.int 1))) (aCons (e2 pIx (eVar 5) (eCon (.int 1))) aNil))) aNil)) (aCons (eA pTup (aCons (eA pTup (aCons (eCon (.bl true)) (aCons (e2 pIx (eVar 5) (eCon (.int 1))) aNil))) aNil)) aNil))))))
  (sSeq (sSet 6 (e2 opAdd (eVar 6) (eA pLst (aCons (eA pTup (aCons (eA pTup (aCons (eCon (.int 0)) (aCons (eCon (.bl true)) aNil))) aNil)) (aCons (eA pTup (aCons (eA pTup (aCons (eCon (.int 0)) (aCons (e2 opAdd (eVar 3) (eCon (.int 2))) aNil))) aNil)) (aCons (eA pTup (aCons (eA pTup (aCons (eCon (.int 0)) (aCons (eCon (.str "")) aNil))) aNil)) aNil))))))
  (sRet (e2 pIx (eVar 6) (dCall ar0__law_take Φ__law_take (aCons (eVar 0) (aCons (e1 bLen (eVar 6)) aNil))))))))))))
theorem ok__law_no_part {W : Wd} {P : Program} {w : World} {mg : Str → Option Value} {base : Heap} {k : Nat} (o : Wo W w mg) {Φ__law_take : Den} (P__law_take : PFn W P w mg base k o.a__law_take o.fd__law_take ["_law_bag_here", "_law_many"] Φ__law_take) : PFn W P w mg base (k + 1) o.a__law_no_part o.fd__law_no_part ["_law_bag_here", "_law_k", "_law_size", "_law_top"] (runD 7 (d__law_no_part Φ__law_take)) := by
  refine PFn.mk' (N := ["_law_bag_here", "_law_k", "_law_size", "_law_top", "_law_ends", "_law_right", "_law_some"]) (txt_of o.F__law_no_part) sc__law_no_part fun cdv A outer s H E cz => ?_
  exact dss_cons (ds_set cz.nd rfl (Or.inl rfl) (de_add cz.K (de_mul cz.K de_int (de_var 2)) de_int))
    (dss_cons (ds_if (dt_cmp (c_in cz.K cz.rm) (de_var 1) (de_tup (da_cons de_int (da_cons de_int da_nil))) (by rfl)) (dss_one (ds_ret (de_ix cz.K cz.rm (de_lst (da_cons (de_var 4) (da_cons (de_neg de_int) (da_cons de_bl (da_cons de_non (da_cons de_str (da_cons (de_tup (da_cons de_int da_nil)) (da_cons (de_pow de_int de_int) da_nil)))))))) (de_call cz P__law_take (pt0__law_take o) rfl o.g__law_take o.F__law_take.kp (da_cons (de_var 0) (da_cons de_int da_nil)) (hal := al_cons (al_cons al_nil))) (fun _ _ => rfl)))) dss_nil)
    (dss_cons (ds_if (dt_cmp (c_in cz.K cz.rm) (de_var 1) (de_tup (da_cons de_int (da_cons de_int da_nil))) (by rfl)) (dss_one (ds_ret (de_ix cz.K cz.rm (de_lst (da_cons de_int (da_cons (de_neg de_int) (da_cons de_bl (da_cons de_bl (da_cons de_non (da_cons de_str (da_cons (de_lst da_nil) da_nil)))))))) (de_call cz P__law_take (pt0__law_take o) rfl o.g__law_take o.F__law_take.kp (da_cons (de_var 0) (da_cons de_int da_nil)) (hal := al_cons (al_cons al_nil))) (fun _ _ => rfl)))) dss_nil)
    (dss_cons (ds_if (dt_cmp (c_in cz.K cz.rm) (de_var 1) (de_tup (da_cons de_int (da_cons de_int da_nil))) (by rfl)) (dss_one (ds_ret (de_ix cz.K cz.rm (de_lst (da_cons (de_var 3) (da_cons (de_neg de_int) (da_cons de_bl (da_cons de_bl (da_cons de_str (da_cons (de_tup (da_cons de_int da_nil)) (da_cons (de_lst da_nil) da_nil)))))))) (de_call cz P__law_take (pt0__law_take o) rfl o.g__law_take o.F__law_take.kp (da_cons (de_var 0) (da_cons de_int da_nil)) (hal := al_cons (al_cons al_nil))) (fun _ _ => rfl)))) dss_nil)
    (dss_cons (ds_set cz.nd rfl (Or.inl rfl) (de_if (dt_cmp (c_eq cz.K cz.rm) (de_var 1) de_int (nomark _)) (de_tup (da_cons de_int (da_cons de_non da_nil))) (de_tup (da_cons de_int (da_cons de_int da_nil)))))
    (dss_cons (ds_set cz.nd rfl (Or.inl rfl) (de_lst (da_cons (de_mul cz.K (de_tup (da_cons (de_var 5) da_nil)) (de_add cz.K (de_var 2) de_int)) (da_cons (de_lst (da_cons (de_var 5) da_nil)) (da_cons de_non (da_cons de_int (da_cons de_str (da_cons (de_tup (da_cons (de_add cz.K (de_var 5) (de_tup (da_cons de_int da_nil))) da_nil)) (da_cons (de_tup (da_cons (de_cut cz.K (de_var 5) do_none (do_some de_int)) da_nil)) (da_cons (de_tup (da_cons (de_lstc cz.K rfl o.n_list (de_var 5)) da_nil)) (da_cons (de_tup (da_cons de_non da_nil)) da_nil)))))))))))
    (dss_cons (ds_set cz.nd rfl (Or.inl rfl) (de_add cz.K (de_var 6) (de_lst (da_cons (de_tup (da_cons (de_tup (da_cons (de_var 4) (da_cons (de_ix cz.K cz.rm (de_var 5) de_int (fun _ _ => rfl)) da_nil))) da_nil)) (da_cons (de_tup (da_cons (de_tup (da_cons (de_neg de_int) (da_cons (de_ix cz.K cz.rm (de_var 5) de_int (fun _ _ => rfl)) da_nil))) da_nil)) (da_cons (de_tup (da_cons (de_tup (da_cons de_bl (da_cons (de_ix cz.K cz.rm (de_var 5) de_int (fun _ _ => rfl)) da_nil))) da_nil)) da_nil))))))
    (dss_cons (ds_set cz.nd rfl (Or.inl rfl) (de_add cz.K (de_var 6) (de_lst (da_cons (de_tup (da_cons (de_tup (da_cons de_int (da_cons de_bl da_nil))) da_nil)) (da_cons (de_tup (da_cons (de_tup (da_cons de_int (da_cons (de_add cz.K (de_var 3) de_int) da_nil))) da_nil)) (da_cons (de_tup (da_cons (de_tup (da_cons de_int (da_cons de_str da_nil))) da_nil)) da_nil))))))
    (dss_one (ds_ret (de_ix cz.K cz.rm (de_var 6) (de_call cz P__law_take (pt0__law_take o) rfl o.g__law_take o.F__law_take.kp (da_cons (de_var 0) (da_cons (de_len cz.K rfl o.n_len (de_var 6)) da_nil)) (hal := al_cons (al_cons al_nil))) (fun _ _ => rfl)))))))))))
theorem sc__law_no_store : FnScope ["_law_bag_here", "_law_size", "_law_top", "_law_drawn", "_law_k", "_law_some", "_law_turn"] ["_law_bag_here", "_law_size", "_law_top"] (defScope s__law_no_store) := ⟨rfl, rfl, rfl, by decide +kernel, rfl, by decide +kernel, by decide +kernel⟩
noncomputable def d__law_no_store_E1 (Φ__law_take : Den) (Φ__law_no_part : Den) (Φ__law_store : Den) : EF := e2 opAdd (e2 opAdd (eCut (eVar 3) oNone (oSome (eVar 4))) (eA pTup (aCons (dCall ar0__law_no_part Φ__law_no_part (aCons (eVar 0) (aCons (eVar 4) (aCons (eVar 1) (aCons (eVar 2) aNil))))) aNil))) (eCut (eVar 3) (oSome (e2 opAdd (eVar 4) (eCon (.int 1)))) oNone)
noncomputable def d__law_no_store (Φ__law_take : Den) (Φ__law_no_part : Den) (Φ__law_store : Den) : SF := sSeq (sSet 3 (dCall ar0__law_store Φ__law_store (aCons (eVar 0) (aCons (eVar 1) (aCons (eVar 2) aNil)))))
  (sSeq (sSet 4 (dCall ar0__law_take Φ__law_take (aCons (eVar 0) (aCons (eCon (.int 8)) aNil))))
  (sSeq (sSet 5 (eA pLst (aCons (e1 bLst (eVar 3)) (aCons (eCut (eVar 3) oNone (oSome (eCon (.int 7)))) (aCons (e2 opAdd (eVar 3) (eA pTup (aCons (eCon (.int 0)) aNil))) (aCons (eCon .non) (aCons (eCon (.int 0)) (aCons (eCon (.str "")) (aCons eD0 (aCons (eA pTup aNil) (aCons (eCut (eRevT (eVar 3) (oSome (e1 opNeg (eCon (.int 1))))) oNone (oSome (eCon (.int 5)))) aNil)))))))))))
  (sSeq (sSet 5 (e2 opAdd (eVar 5) (eLc (iRg1 (eCon (.int 16))) (gNm 6) tYesF (d__law_no_store_E1 Φ__law_take Φ__law_no_part Φ__law_store) [6])))
  (sRet (e2 pIx (eVar 5) (dCall ar0__law_take Φ__law_take (aCons (eVar 0) (aCons (e1 bLen (eVar 5)) aNil))))))))
theorem ok__law_no_store {W : Wd} {P : Program} {w : World} {mg : Str → Option Value} {base : Heap} {k : Nat} (o : Wo W w mg) {Φ__law_take : Den} {Φ__law_no_part : Den} {Φ__law_store : Den} (P__law_take : PFn W P w mg base k o.a__law_take o.fd__law_take ["_law_bag_here", "_law_many"] Φ__law_take) (P__law_no_part : PFn W P w mg base k o.a__law_no_part o.fd__law_no_part ["_law_bag_here", "_law_k", "_law_size", "_law_top"] Φ__law_no_part) (P__law_store : PFn W P w mg base k o.a__law_store o.fd__law_store ["_law_bag_here", "_law_size", "_law_top"] Φ__law_store) : PFn W P w mg base (k + 1) o.a__law_no_store o.fd__law_no_store ["_law_bag_here", "_law_size", "_law_top"] (runD 7 (d__law_no_store Φ__law_take Φ__law_no_part Φ__law_store)) := by
  refine PFn.mk' (N := ["_law_bag_here", "_law_size", "_law_top", "_law_drawn", "_law_k", "_law_some", "_law_turn"]) (txt_of o.F__law_no_store) sc__law_no_store fun cdv A outer s H E cz => ?_
  exact dss_cons (ds_set cz.nd rfl (Or.inr rfl) (de_call cz P__law_store (pt0__law_store o) rfl o.g__law_store o.F__law_store.kp (da_cons (de_var 0) (da_cons (de_var 1) (da_cons (de_var 2) da_nil))) (hal := al_cons (al_cons (al_cons al_nil)))))
    (dss_cons (ds_set cz.nd rfl (Or.inr rfl) (de_call cz P__law_take (pt0__law_take o) rfl o.g__law_take o.F__law_take.kp (da_cons (de_var 0) (da_cons de_int da_nil)) (hal := al_cons (al_cons al_nil))))
    (dss_cons (ds_set cz.nd rfl (Or.inl rfl) (de_lst (da_cons (de_lstc cz.K rfl o.n_list (de_var 3)) (da_cons (de_cut cz.K (de_var 3) do_none (do_some de_int)) (da_cons (de_add cz.K (de_var 3) (de_tup (da_cons de_int da_nil))) (da_cons de_non (da_cons de_int (da_cons de_str (da_cons de_dict0 (da_cons (de_tup da_nil) (da_cons (de_cut cz.K (de_revT cz.K (de_var 3) (do_some (de_neg de_int))) do_none (do_some de_int)) da_nil)))))))))))
    (dss_cons (ds_set cz.nd rfl (Or.inl rfl) (de_add cz.K (de_var 5) (de_lc [("_law_turn", 6)] cz (di_rg1 rfl o.n_range de_int) (by kernel_rfl) (fun _ _ _ _ _ cz => dg_name cz.nd) (fun _ _ _ _ _ cz => dts_nil) (fun _ _ _ _ _ cz => de_add cz.K (de_add cz.K (de_cut cz.K (de_var 3) do_none (do_some (de_var 4))) (de_tup (da_cons (de_call cz P__law_no_part (pt0__law_no_part o) rfl o.g__law_no_part o.F__law_no_part.kp (da_cons (de_var 0) (da_cons (de_var 4) (da_cons (de_var 1) (da_cons (de_var 2) da_nil)))) (hal := al_cons (al_cons (al_cons (al_cons al_nil))))) da_nil))) (de_cut cz.K (de_var 3) (do_some (de_add cz.K (de_var 4) de_int)) do_none)))))
    (dss_one (ds_ret (de_ix cz.K cz.rm (de_var 5) (de_call cz P__law_take (pt0__law_take o) rfl o.g__law_take o.F__law_take.kp (da_cons (de_var 0) (da_cons (de_len cz.K rfl o.n_len (de_var 5)) da_nil)) (hal := al_cons (al_cons al_nil))) (fun _ _ => rfl)))))))
theorem sc__law_as_due : FnScope ["_law_told", "_law_due"] ["_law_told", "_law_due"] (defScope s__law_as_due) := ⟨rfl, rfl, rfl, by decide +kernel, rfl, by decide +kernel, by decide +kernel⟩
noncomputable def d__law_as_due : SF := sRet (eAndV (e2 opIsNot (eVar 0) (eCon .non)) (eAndV (e2 opEq (e2 pIx (eVar 0) (eCon (.int 0))) (e2 pIx (eVar 1) (eCon (.int 0)))) (e2 opEq (e1 bRepr (e2 pIx (eVar 0) (eCon (.int 1)))) (e1 bRepr (e2 pIx (eVar 1) (eCon (.int 1)))))))
theorem ok__law_as_due {W : Wd} {P : Program} {w : World} {mg : Str → Option Value} {base : Heap} {k : Nat} (o : Wo W w mg) : PFn W P w mg base (k + 1) o.a__law_as_due o.fd__law_as_due ["_law_told", "_law_due"] (runD 2 (d__law_as_due)) := by
  refine PFn.mk' (N := ["_law_told", "_law_due"]) (txt_of o.F__law_as_due) sc__law_as_due fun cdv A outer s H E cz => ?_
  exact dss_one (ds_ret (de_and cz.K (de_cmp c_isnot (de_var 0) de_non (nomark _)) (de_and cz.K (de_cmp (c_eq cz.K cz.rm) (de_ix cz.K cz.rm (de_var 0) de_int (fun _ _ => rfl)) (de_ix cz.K cz.rm (de_var 1) de_int (fun _ _ => rfl)) (nomark _)) (de_one (de_cmp (c_eq cz.K cz.rm) (de_repr cz.K cz.rm cz.gd rfl o.n_repr (de_ix cz.K cz.rm (de_var 0) de_int (fun _ _ => rfl))) (de_repr cz.K cz.rm cz.gd rfl o.n_repr (de_ix cz.K cz.rm (de_var 1) de_int (fun _ _ => rfl))) (nomark _))))))
theorem sc__law_worn : FnScope ["_law_way", "_law_gap", "_law_side", "_law_pairs", "_law_turn"] ["_law_way", "_law_gap", "_law_side"] (defScope s__law_worn) := ⟨rfl, rfl, rfl, by decide +kernel, rfl, by decide +kernel, by decide +kernel⟩
noncomputable def d__law_worn_L1 (Φ_Way_store : Den) (Φ_Way_beat : Den) : SF := sSeq (sDrop (dMeth 0 "beat" ar0_Way_beat Φ_Way_beat (eVar 0) (aCons (e2 pIx (eVar 3) (eVar 2)) aNil)))
  (sIf (tAndF (etoT (e2 opEq (e2 pIx (dMeth 0 "store" ar0_Way_store Φ_Way_store (eVar 0) aNil) (eCon (.int 3))) (eA pTup aNil))) (etoT (e2 opGt (eVar 2) (eCon (.int 0))))) (sRet (eCon (.bl false))) sNext)
noncomputable def d__law_worn_L2 (Φ_Way_store : Den) (Φ_Way_beat : Den) : SF := sDrop (dMeth 0 "beat" ar1_Way_beat Φ_Way_beat (eVar 0) aNil)
noncomputable def d__law_worn (Φ_Way_store : Den) (Φ_Way_beat : Den) : SF := sSeq (sSet 3 (eA pLst (aCons (eA pTup (aCons (eCon (.bl true)) (aCons (eCon (.bl false)) aNil))) (aCons (eA pTup (aCons (eCon (.bl false)) (aCons (eCon (.bl true)) aNil))) (aCons (eA pTup (aCons (eCon (.bl true)) (aCons (eCon (.bl true)) aNil))) aNil)))))
  (sSeq (sFor (iRg1 (eCon (.int 2))) (gNm 4) (d__law_worn_L2 Φ_Way_store Φ_Way_beat))
  (sSeq (sFor (iRg1 (e2 opSub (eVar 1) (eCon (.int 1)))) (gNm 4) (d__law_worn_L1 Φ_Way_store Φ_Way_beat))
  (sRet (eOrV (e2 opNe (e2 pIx (dMeth 0 "store" ar0_Way_store Φ_Way_store (eVar 0) aNil) (eCon (.int 3))) (eA pTup aNil)) (e2 opEq (eVar 2) (eCon (.int 0)))))))
theorem ok__law_worn {W : Wd} {P : Program} {w : World} {mg : Str → Option Value} {base : Heap} {k : Nat} (o : Wo W w mg) {Φ_Way_store : Den} {Φ_Way_beat : Den} (P_Way_store : PFn W P w mg base k o.a_Way_store o.fd_Way_store ["self"] Φ_Way_store) (P_Way_beat : PFn W P w mg base k o.a_Way_beat o.fd_Way_beat ["self", "word", "taking", "lost"] Φ_Way_beat) : PFn W P w mg base (k + 1) o.a__law_worn o.fd__law_worn ["_law_way", "_law_gap", "_law_side"] (runD 5 (d__law_worn Φ_Way_store Φ_Way_beat)) := by
  refine PFn.mk' (N := ["_law_way", "_law_gap", "_law_side", "_law_pairs", "_law_turn"]) (txt_of o.F__law_worn) sc__law_worn fun cdv A outer s H E cz => ?_
  exact dss_cons (ds_set cz.nd rfl (Or.inl rfl) (de_lst (da_cons (de_tup (da_cons de_bl (da_cons de_bl da_nil))) (da_cons (de_tup (da_cons de_bl (da_cons de_bl da_nil))) (da_cons (de_tup (da_cons de_bl (da_cons de_bl da_nil))) da_nil)))))
    (dss_cons (ds_for cz (di_rg1 rfl o.n_range de_int) (dg_name cz.nd) (dss_one (ds_expr (de_meth0 cz o.cl_Way o.me_Way_beat P_Way_beat (pt1_Way_beat o) (de_var 0)))))
    (dss_cons (ds_for cz (di_rg1 rfl o.n_range (de_sub (de_var 1) de_int)) (dg_name cz.nd) (dss_cons (ds_expr (de_methK0 cz o.cl_Way o.me_Way_beat P_Way_beat (pt0_Way_beat o) (de_var 0) (dk_cons (de_ix cz.K cz.rm (de_var 3) (de_var 2) (fun _ _ => rfl)) dk_nil) (hbl := al_cons al_nil)))
    (dss_one (ds_if (dw_t (dw_and (dt_cmp (c_eq cz.K cz.rm) (de_ix cz.K cz.rm (de_meth0 cz o.cl_Way o.me_Way_store P_Way_store (pt0_Way_store o) (de_var 0)) de_int (fun _ _ => rfl)) (de_tup da_nil) (nomark _)) (dw_and1 (dt_cmp c_gt (de_var 2) de_int (nomark _))))) (dss_one (ds_ret de_bl)) dss_nil))))
    (dss_one (ds_ret (de_or cz.K (de_cmp (c_ne cz.K cz.rm) (de_ix cz.K cz.rm (de_meth0 cz o.cl_Way o.me_Way_store P_Way_store (pt0_Way_store o) (de_var 0)) de_int (fun _ _ => rfl)) (de_tup da_nil) (nomark _)) (de_one (de_cmp (c_eq cz.K cz.rm) (de_var 2) de_int (nomark _))))))))
abbrev qn_law : Str := ("law" : Str) ++ ".<locals>." ++ "<lambda>"
theorem sc_law : FnScope ["_law_script", "_law_at", "_law_bag_here", "_law_size", "_law_gap", "_law_top", "_law_side", "_law_way", "_law_twin", "_law_drawn", "_law_worn_here", "_law_is_worn", "_law_pair", "_law_odd_here", "_law_told", "_law_due", "_law_turn", "_law_thing", "_law_one"] ["_law_script"] (defScope s_law) := ⟨rfl, rfl, rfl, by decide +kernel, rfl, by decide +kernel, by decide +kernel⟩
noncomputable def d_law_L1 (Φ__law_refusal : D → (VH → R EV) → Den) (Φ_Way_beat : Den) (Φ_Way_spoil : Den) (Φ_Way_store : Den) (Φ__law_as_due : Den) (Φ_Way___eq__ : Den) (Φ__law_no_store : Den) (Φ__law_odd : Den) (Φ__law_worn : Den) (Φ__law_store : Den) (Φ_Way___init__ : Den) (Φ__law_take : Den) (Φ__law_bag : Den) (T : Addr) : SF := sSeq (sSet 17 (dCall ar0__law_no_store Φ__law_no_store (aCons (eVar 2) (aCons (eVar 3) (aCons (eVar 5) aNil)))))
  (sIf (tOrF (tNotF (etru (dCall ar0__law_as_due Φ__law_as_due (aCons (eLamC 0 T qn_law ar0__law_refusal Φ__law_refusal aNil (dMeth 0 "spoil" ar0_Way_spoil Φ_Way_spoil (eVar 7) (aCons (eVar 17) aNil))) (aCons (eA pTup (aCons (eCon (.str "NoStore")) (aCons (eCon .non) aNil))) aNil))))) (etoT (dCmpO 0 true ar0_Way___eq__ Φ_Way___eq__ (eVar 7) (eVar 8)))) (sRet (eCon (.bl false))) sNext)
noncomputable def d_law_E1 (Φ__law_refusal : D → (VH → R EV) → Den) (Φ_Way_beat : Den) (Φ_Way_spoil : Den) (Φ_Way_store : Den) (Φ__law_as_due : Den) (Φ_Way___eq__ : Den) (Φ__law_no_store : Den) (Φ__law_odd : Den) (Φ__law_worn : Den) (Φ__law_store : Den) (Φ_Way___init__ : Den) (Φ__law_take : Den) (Φ__law_bag : Den) (T : Addr) : EF := dCall ar0__law_worn Φ__law_worn (aCons (eVar 18) (aCons (eVar 4) (aCons (eVar 6) aNil)))
noncomputable def d_law_L2 (Φ__law_refusal : D → (VH → R EV) → Den) (Φ_Way_beat : Den) (Φ_Way_spoil : Den) (Φ_Way_store : Den) (Φ__law_as_due : Den) (Φ_Way___eq__ : Den) (Φ__law_no_store : Den) (Φ__law_odd : Den) (Φ__law_worn : Den) (Φ__law_store : Den) (Φ_Way___init__ : Den) (Φ__law_take : Den) (Φ__law_bag : Den) (T : Addr) : SF := sSeq (sAsg (eA pTup (aCons (dMake 0 ar0_Way___init__ Φ_Way___init__ (aApp (aCons (eVar 3) aNil) (aCons (eVar 4) (aCons (eVar 5) aNil)))) (aCons (dMake 0 ar0_Way___init__ Φ_Way___init__ (aApp (aCons (eVar 3) aNil) (aCons (eVar 4) (aCons (eVar 5) aNil)))) aNil))) (gUnp 2 (gsCons (gNm 7) (gsCons (gNm 8) gsNil))))
  (sSeq (sSet 9 (dCall ar0__law_store Φ__law_store (aCons (eVar 2) (aCons (eVar 3) (aCons (eVar 5) aNil)))))
  (sSeq (sDrop (dMeth 0 "spoil" ar0_Way_spoil Φ_Way_spoil (eVar 7) (aCons (eVar 9) aNil)))
  (sSeq (sDrop (dMeth 0 "spoil" ar0_Way_spoil Φ_Way_spoil (eVar 8) (aCons (eVar 9) aNil)))
  (sSeq (sSet 10 (eLc (iVal (eA pTup (aCons (eVar 7) (aCons (eVar 8) aNil)))) (gNm 18) tYesF (d_law_E1 Φ__law_refusal Φ_Way_beat Φ_Way_spoil Φ_Way_store Φ__law_as_due Φ_Way___eq__ Φ__law_no_store Φ__law_odd Φ__law_worn Φ__law_store Φ_Way___init__ Φ__law_take Φ__law_bag T) [18]))
  (sSeq (sSet 11 (e2 opEq (eVar 10) (eA pLst (aCons (eCon (.bl true)) (aCons (eCon (.bl true)) aNil)))))
  (sSeq (sAsg (eA pTup (aCons (e2 pIx (eA pLst (aCons (eA pTup (aCons (eCon (.bl true)) (aCons (eCon (.bl false)) aNil))) (aCons (eA pTup (aCons (eCon (.bl false)) (aCons (eCon (.bl true)) aNil))) (aCons (eA pTup (aCons (eCon (.bl true)) (aCons (eCon (.bl true)) aNil))) aNil)))) (eVar 6)) (aCons (dCall ar0__law_odd Φ__law_odd (aCons (eVar 2) (aCons (eVar 5) aNil))) aNil))) (gUnp 2 (gsCons (gNm 12) (gsCons (gNm 13) gsNil))))
  (sSeq (sSet 14 (eLamC 0 T qn_law ar0__law_refusal Φ__law_refusal aNil (dMeth 0 "beat" ar3_Way_beat Φ_Way_beat (eVar 7) (aCons (eVar 13) (aCons (eVar 12) aNil)))))
  (sSeq (sIf (tOrF (tNotF (etru (dCall ar0__law_as_due Φ__law_as_due (aCons (eVar 14) (aCons (eA pTup (aCons (eCon (.str "NoNumber")) (aCons (eVar 13) aNil))) aNil))))) (etoT (dCmpO 0 true ar0_Way___eq__ Φ_Way___eq__ (eVar 7) (eVar 8)))) (sRet (eCon (.bl false))) sNext)
  (sSeq (sSet 15 (eA pTup (aCons (eCon (.str "TooLost")) (aCons (e2 pIx (eA pLst (aCons (eCon (.str "letters")) (aCons (eCon (.str "echoes")) (aCons (eCon (.str "letters")) aNil)))) (eVar 6)) aNil))))
  (sSeq (sIf (tAndF (etru (eVar 11)) (tNotF (etru (dCall ar0__law_as_due Φ__law_as_due (aCons (eLamC 0 T qn_law ar0__law_refusal Φ__law_refusal aNil (dMeth 0 "beat" ar2_Way_beat Φ_Way_beat (eVar 7) (aCons (eCon (.bl true)) (aCons (eVar 12) aNil)))) (aCons (eVar 15) aNil)))))) (sRet (eCon (.bl false))) sNext)
  (sSeq (sFor (iRg1 (eCon (.int 4))) (gNm 16) (d_law_L1 Φ__law_refusal Φ_Way_beat Φ_Way_spoil Φ_Way_store Φ__law_as_due Φ_Way___eq__ Φ__law_no_store Φ__law_odd Φ__law_worn Φ__law_store Φ_Way___init__ Φ__law_take Φ__law_bag T))
  (sSeq (sIf (tOrF (tAndF (etru (eVar 11)) (tNotF (etru (dCall ar0__law_as_due Φ__law_as_due (aCons (eLamC 0 T qn_law ar0__law_refusal Φ__law_refusal aNil (dMeth 0 "beat" ar0_Way_beat Φ_Way_beat (eVar 7) (aCons (eVar 12) aNil))) (aCons (eVar 15) aNil)))))) (etoT (dCmpO 0 true ar0_Way___eq__ Φ_Way___eq__ (eVar 7) (eVar 8)))) (sRet (eCon (.bl false))) sNext)
  (sSeq (sDrop (dMeth 0 "spoil" ar0_Way_spoil Φ_Way_spoil (eVar 7) (aCons (dMeth 0 "store" ar0_Way_store Φ_Way_store (eVar 7) aNil) aNil)))
  (sIf (tAndF (etoT (e2 opGt (eVar 4) (eCon (.int 1)))) (etoT (e2 opNe (eLamC 0 T qn_law ar0__law_refusal Φ__law_refusal aNil (dMeth 0 "beat" ar0_Way_beat Φ_Way_beat (eVar 7) (aCons (eVar 12) aNil))) (eA pTup (aCons (eCon (.str "none")) (aCons (eCon .non) aNil)))))) (sRet (eCon (.bl false))) sNext))))))))))))))
noncomputable def d_law_L3 (Φ__law_refusal : D → (VH → R EV) → Den) (Φ_Way_beat : Den) (Φ_Way_spoil : Den) (Φ_Way_store : Den) (Φ__law_as_due : Den) (Φ_Way___eq__ : Den) (Φ__law_no_store : Den) (Φ__law_odd : Den) (Φ__law_worn : Den) (Φ__law_store : Den) (Φ_Way___init__ : Den) (Φ__law_take : Den) (Φ__law_bag : Den) (T : Addr) : SF := sSeq (sSet 2 (dCall ar0__law_bag Φ__law_bag (aCons (eVar 0) (aCons (eVar 1) aNil))))
  (sSeq (sAsg (eA pTup (aCons (e2 opAdd (eCon (.int 1)) (dCall ar0__law_take Φ__law_take (aCons (eVar 2) (aCons (eCon (.int 6)) aNil)))) (aCons (e2 opAdd (eCon (.int 1)) (dCall ar0__law_take Φ__law_take (aCons (eVar 2) (aCons (eCon (.int 4)) aNil)))) (aCons (e2 opAdd (eCon (.int 1)) (dCall ar0__law_take Φ__law_take (aCons (eVar 2) (aCons (eCon (.int 40)) aNil)))) aNil)))) (gUnp 3 (gsCons (gNm 3) (gsCons (gNm 4) (gsCons (gNm 5) gsNil)))))
  (sFor (iRg1 (eCon (.int 3))) (gNm 6) (d_law_L2 Φ__law_refusal Φ_Way_beat Φ_Way_spoil Φ_Way_store Φ__law_as_due Φ_Way___eq__ Φ__law_no_store Φ__law_odd Φ__law_worn Φ__law_store Φ_Way___init__ Φ__law_take Φ__law_bag T)))
noncomputable def d_law (Φ__law_refusal : D → (VH → R EV) → Den) (Φ_Way_beat : Den) (Φ_Way_spoil : Den) (Φ_Way_store : Den) (Φ__law_as_due : Den) (Φ_Way___eq__ : Den) (Φ__law_no_store : Den) (Φ__law_odd : Den) (Φ__law_worn : Den) (Φ__law_store : Den) (Φ_Way___init__ : Den) (Φ__law_take : Den) (Φ__law_bag : Den) (T : Addr) : SF := sSeq (sFor (iRg1 (e2 bMax (eCon (.int 1)) (e2 bMin (eCon (.int 4)) (e1 bLen (eVar 0))))) (gNm 1) (d_law_L3 Φ__law_refusal Φ_Way_beat Φ_Way_spoil Φ_Way_store Φ__law_as_due Φ_Way___eq__ Φ__law_no_store Φ__law_odd Φ__law_worn Φ__law_store Φ_Way___init__ Φ__law_take Φ__law_bag T))
  (sRet (eCon (.bl true)))
theorem ok_law {W : Wd} {P : Program} {w : World} {mg : Str → Option Value} {base : Heap} {k : Nat} (o : Wo W w mg) {Φ__law_refusal : D → (VH → R EV) → Den} {Φ_Way_beat : Den} {Φ_Way_spoil : Den} {Φ_Way_store : Den} {Φ__law_as_due : Den} {Φ_Way___eq__ : Den} {Φ__law_no_store : Den} {Φ__law_odd : Den} {Φ__law_worn : Den} {Φ__law_store : Den} {Φ_Way___init__ : Den} {Φ__law_take : Den} {Φ__law_bag : Den} (P__law_refusal : ∀ (A : Around) (outer : List Env) (s : Shared) (H : Hp) (L : D) (ψ : VH → R EV), (∀ (cdv : Value) (E : XK), Act W (k + 1) (cxOf (CX P w) P w W.K mg base ["_law_deed", "e"] "_law_refusal" (defScope s__law_refusal) o.a__law_refusal cdv A outer s H E) "_law_deed" (eAct 0 L ψ)) → PFnA W P w mg base (k + 2) o.a__law_refusal o.fd__law_refusal ["_law_deed"] (Φ__law_refusal L ψ) A outer s H) (PL_Way_beat : PFn W P w mg base k o.a_Way_beat o.fd_Way_beat ["self", "word", "taking", "lost"] Φ_Way_beat) (PL_Way_spoil : PFn W P w mg base k o.a_Way_spoil o.fd_Way_spoil ["self", "store"] Φ_Way_spoil) (P_Way_store : PFn W P w mg base (k + 2) o.a_Way_store o.fd_Way_store ["self"] Φ_Way_store) (P__law_as_due : PFn W P w mg base (k + 2) o.a__law_as_due o.fd__law_as_due ["_law_told", "_law_due"] Φ__law_as_due) (P_Way___eq__ : PFn W P w mg base (k + 1) o.a_Way___eq__ o.fd_Way___eq__ ["self", "other"] Φ_Way___eq__) (P__law_no_store : PFn W P w mg base (k + 2) o.a__law_no_store o.fd__law_no_store ["_law_bag_here", "_law_size", "_law_top"] Φ__law_no_store) (P__law_odd : PFn W P w mg base (k + 2) o.a__law_odd o.fd__law_odd ["_law_bag_here", "_law_top"] Φ__law_odd) (P__law_worn : PFn W P w mg base (k + 2) o.a__law_worn o.fd__law_worn ["_law_way", "_law_gap", "_law_side"] Φ__law_worn) (P__law_store : PFn W P w mg base (k + 2) o.a__law_store o.fd__law_store ["_law_bag_here", "_law_size", "_law_top"] Φ__law_store) (P_Way___init__ : PFn W P w mg base (k + 1) o.a_Way___init__ o.fd_Way___init__ ["self", "hold", "miss", "bound"] Φ_Way___init__) (P__law_take : PFn W P w mg base (k + 2) o.a__law_take o.fd__law_take ["_law_bag_here", "_law_many"] Φ__law_take) (P__law_bag : PFn W P w mg base (k + 2) o.a__law_bag o.fd__law_bag ["_law_script", "_law_at"] Φ__law_bag) {cc T : Addr} (M : MkT W.K o.a_law cc T) (TB : LamX.TabB base mg cc T) : PFn W P w mg base (k + 3) o.a_law o.fd_law ["_law_script"] (runD 19 (d_law Φ__law_refusal Φ_Way_beat Φ_Way_spoil Φ_Way_store Φ__law_as_due Φ_Way___eq__ Φ__law_no_store Φ__law_odd Φ__law_worn Φ__law_store Φ_Way___init__ Φ__law_take Φ__law_bag T)) := by
  have P_Way_beat := PL_Way_beat.mono (Nat.le_add_right k 2)
  have P_Way_spoil := PL_Way_spoil.mono (Nat.le_add_right k 2)
  refine PFn.mkT' (N := ["_law_script", "_law_at", "_law_bag_here", "_law_size", "_law_gap", "_law_top", "_law_side", "_law_way", "_law_twin", "_law_drawn", "_law_worn_here", "_law_is_worn", "_law_pair", "_law_odd_here", "_law_told", "_law_due", "_law_turn", "_law_thing", "_law_one"]) (txt_of o.F_law) M sc_law fun A outer s H E cz => ?_
  exact dss_cons (ds_for cz (di_rg1 rfl o.n_range (de_max cz.calm rfl o.n_max de_int (de_min cz.calm rfl o.n_min de_int (de_len cz.K rfl o.n_len (de_var 0))))) (dg_name cz.nd) (dss_cons (ds_set cz.nd rfl (Or.inl rfl) (de_call cz P__law_bag (pt0__law_bag o) rfl o.g__law_bag o.F__law_bag.kp (da_cons (de_var 0) (da_cons (de_var 1) da_nil)) (hal := al_cons (al_cons al_nil))))
    (dss_cons (ds_asg (de_tup (da_cons (de_add cz.K de_int (de_call cz P__law_take (pt0__law_take o) rfl o.g__law_take o.F__law_take.kp (da_cons (de_var 2) (da_cons de_int da_nil)) (hal := al_cons (al_cons al_nil)))) (da_cons (de_add cz.K de_int (de_call cz P__law_take (pt0__law_take o) rfl o.g__law_take o.F__law_take.kp (da_cons (de_var 2) (da_cons de_int da_nil)) (hal := al_cons (al_cons al_nil)))) (da_cons (de_add cz.K de_int (de_call cz P__law_take (pt0__law_take o) rfl o.g__law_take o.F__law_take.kp (da_cons (de_var 2) (da_cons de_int da_nil)) (hal := al_cons (al_cons al_nil)))) da_nil)))) (dg_tup cz (dgs_cons (dg_name cz.nd) (dgs_cons (dg_name cz.nd) (dgs_cons (dg_name cz.nd) dgs_nil)))))
    (dss_one (ds_for cz (di_rg1 rfl o.n_range de_int) (dg_name cz.nd) (dss_cons (ds_asg (de_tup (da_cons (de_makeK cz o.mk_Way P_Way___init__ (pt0_Way___init__ o) rfl o.gc_Way (da_cons (de_var 3) da_nil) (dk_cons (de_var 4) (dk_cons (de_var 5) dk_nil)) (hal := al_cons al_nil) (hbl := al_cons (al_cons al_nil))) (da_cons (de_makeK cz o.mk_Way P_Way___init__ (pt0_Way___init__ o) rfl o.gc_Way (da_cons (de_var 3) da_nil) (dk_cons (de_var 4) (dk_cons (de_var 5) dk_nil)) (hal := al_cons al_nil) (hbl := al_cons (al_cons al_nil))) da_nil))) (dg_tup cz (dgs_cons (dg_name cz.nd) (dgs_cons (dg_name cz.nd) dgs_nil))))
    (dss_cons (ds_set cz.nd rfl (Or.inl rfl) (de_call cz P__law_store (pt0__law_store o) rfl o.g__law_store o.F__law_store.kp (da_cons (de_var 2) (da_cons (de_var 3) (da_cons (de_var 5) da_nil))) (hal := al_cons (al_cons (al_cons al_nil)))))
    (dss_cons (ds_expr (de_meth cz o.cl_Way o.me_Way_spoil P_Way_spoil (pt0_Way_spoil o) (de_var 7) (da_cons (de_var 9) da_nil) (hal := al_cons al_nil)))
    (dss_cons (ds_expr (de_meth cz o.cl_Way o.me_Way_spoil P_Way_spoil (pt0_Way_spoil o) (de_var 8) (da_cons (de_var 9) da_nil) (hal := al_cons al_nil)))
    (dss_cons (ds_setLc [("_law_one", 18)] cz (di_val cz.K (de_tup (da_cons (de_var 7) (da_cons (de_var 8) da_nil)))) (by kernel_rfl) (fun _ _ _ _ _ cz => dg_name cz.nd) (fun _ _ _ _ _ cz => dts_nil) (fun _ _ _ _ _ cz => de_call cz P__law_worn (pt0__law_worn o) rfl o.g__law_worn o.F__law_worn.kp (da_cons (de_var 18) (da_cons (de_var 4) (da_cons (de_var 6) da_nil))) (hal := al_cons (al_cons (al_cons al_nil)))))
    (dss_cons (ds_set cz.nd rfl (Or.inl rfl) (de_cmp (c_eq cz.K cz.rm) (de_var 10) (de_lst (da_cons de_bl (da_cons de_bl da_nil))) (nomark _)))
    (dss_cons (ds_asg (de_tup (da_cons (de_ix cz.K cz.rm (de_lst (da_cons (de_tup (da_cons de_bl (da_cons de_bl da_nil))) (da_cons (de_tup (da_cons de_bl (da_cons de_bl da_nil))) (da_cons (de_tup (da_cons de_bl (da_cons de_bl da_nil))) da_nil)))) (de_var 6) (fun _ _ => rfl)) (da_cons (de_call cz P__law_odd (pt0__law_odd o) rfl o.g__law_odd o.F__law_odd.kp (da_cons (de_var 2) (da_cons (de_var 5) da_nil)) (hal := al_cons (al_cons al_nil))) da_nil))) (dg_tup cz (dgs_cons (dg_name cz.nd) (dgs_cons (dg_name cz.nd) dgs_nil))))
    (dss_cons (ds_set cz.nd rfl (Or.inl rfl) (de_lamcall cz (show LamX.LamS (defScope s_law) _ from LamX.lamS_by (by decide +kernel)) TB rfl rfl rfl (fun _ _ _ _ _ => rfl) (P__law_refusal _ _) rfl (Or.inl rfl) (by decide) (by decide) (pt0__law_refusal o) rfl o.g__law_refusal o.F__law_refusal.kp (fun A outer s1 HZ E f1 c1 cz => de_methK0 cz o.cl_Way o.me_Way_beat PL_Way_beat (pt3_Way_beat o) (de_var 7) (dk_cons (de_var 13) (dk_cons (de_var 12) dk_nil)) (hbl := al_cons (al_cons al_nil))) da_nil rfl (by decide) rfl rfl al_nil))
    (dss_cons (ds_if (dw_t (dw_or (dt_not (dt_truth cz.K (de_call cz P__law_as_due (pt0__law_as_due o) rfl o.g__law_as_due o.F__law_as_due.kp (da_cons (de_var 14) (da_cons (de_tup (da_cons de_str (da_cons (de_var 13) da_nil))) da_nil)) (hal := al_cons (al_cons al_nil))) (fun _ => rfl))) (dw_or1 (dt_neO cz o.cl_Way o.ne_Way o.me_Way___eq__ P_Way___eq__ (pt0_Way___eq__ o) (de_var 7) (de_var 8) (nomark _))))) (dss_one (ds_ret de_bl)) dss_nil)
    (dss_cons (ds_set cz.nd rfl (Or.inl rfl) (de_tup (da_cons de_str (da_cons (de_ix cz.K cz.rm (de_lst (da_cons de_str (da_cons de_str (da_cons de_str da_nil)))) (de_var 6) (fun _ _ => rfl)) da_nil))))
    (dss_cons (ds_if (dw_t (dw_and (dt_truth cz.K (de_var 11) (fun _ => rfl)) (dw_and1 (dt_not (dt_truth cz.K (de_call cz P__law_as_due (pt0__law_as_due o) rfl o.g__law_as_due o.F__law_as_due.kp (da_cons (de_lamcall cz (show LamX.LamS (defScope s_law) _ from LamX.lamS_by (by decide +kernel)) TB rfl rfl rfl (fun _ _ _ _ _ => rfl) (P__law_refusal _ _) rfl (Or.inl rfl) (by decide) (by decide) (pt0__law_refusal o) rfl o.g__law_refusal o.F__law_refusal.kp (fun A outer s1 HZ E f1 c1 cz => de_methK0 cz o.cl_Way o.me_Way_beat PL_Way_beat (pt2_Way_beat o) (de_var 7) (dk_cons de_bl (dk_cons (de_var 12) dk_nil)) (hbl := al_cons (al_cons al_nil))) da_nil rfl (by decide) rfl rfl al_nil) (da_cons (de_var 15) da_nil)) (hal := al_cons (al_cons al_nil))) (fun _ => rfl)))))) (dss_one (ds_ret de_bl)) dss_nil)
    (dss_cons (ds_for cz (di_rg1 rfl o.n_range de_int) (dg_name cz.nd) (dss_cons (ds_set cz.nd rfl (Or.inr rfl) (de_call cz P__law_no_store (pt0__law_no_store o) rfl o.g__law_no_store o.F__law_no_store.kp (da_cons (de_var 2) (da_cons (de_var 3) (da_cons (de_var 5) da_nil))) (hal := al_cons (al_cons (al_cons al_nil)))))
    (dss_one (ds_if (dw_t (dw_or (dt_not (dt_truth cz.K (de_call cz P__law_as_due (pt0__law_as_due o) rfl o.g__law_as_due o.F__law_as_due.kp (da_cons (de_lamcall cz (show LamX.LamS (defScope s_law) _ from LamX.lamS_by (by decide +kernel)) TB rfl rfl rfl (fun _ _ _ _ _ => rfl) (P__law_refusal _ _) rfl (Or.inl rfl) (by decide) (by decide) (pt0__law_refusal o) rfl o.g__law_refusal o.F__law_refusal.kp (fun A outer s1 HZ E f1 c1 cz => de_meth cz o.cl_Way o.me_Way_spoil PL_Way_spoil (pt0_Way_spoil o) (de_var 7) (da_cons (de_var 17) da_nil) (hal := al_cons al_nil)) da_nil rfl (by decide) rfl rfl al_nil) (da_cons (de_tup (da_cons de_str (da_cons de_non da_nil))) da_nil)) (hal := al_cons (al_cons al_nil))) (fun _ => rfl))) (dw_or1 (dt_neO cz o.cl_Way o.ne_Way o.me_Way___eq__ P_Way___eq__ (pt0_Way___eq__ o) (de_var 7) (de_var 8) (nomark _))))) (dss_one (ds_ret de_bl)) dss_nil))))
    (dss_cons (ds_if (dw_t (dw_or (dw_t (dw_and (dt_truth cz.K (de_var 11) (fun _ => rfl)) (dw_and1 (dt_not (dt_truth cz.K (de_call cz P__law_as_due (pt0__law_as_due o) rfl o.g__law_as_due o.F__law_as_due.kp (da_cons (de_lamcall cz (show LamX.LamS (defScope s_law) _ from LamX.lamS_by (by decide +kernel)) TB rfl rfl rfl (fun _ _ _ _ _ => rfl) (P__law_refusal _ _) rfl (Or.inl rfl) (by decide) (by decide) (pt0__law_refusal o) rfl o.g__law_refusal o.F__law_refusal.kp (fun A outer s1 HZ E f1 c1 cz => de_methK0 cz o.cl_Way o.me_Way_beat PL_Way_beat (pt0_Way_beat o) (de_var 7) (dk_cons (de_var 12) dk_nil) (hbl := al_cons al_nil)) da_nil rfl (by decide) rfl rfl al_nil) (da_cons (de_var 15) da_nil)) (hal := al_cons (al_cons al_nil))) (fun _ => rfl)))))) (dw_or1 (dt_neO cz o.cl_Way o.ne_Way o.me_Way___eq__ P_Way___eq__ (pt0_Way___eq__ o) (de_var 7) (de_var 8) (nomark _))))) (dss_one (ds_ret de_bl)) dss_nil)
    (dss_cons (ds_expr (de_meth cz o.cl_Way o.me_Way_spoil P_Way_spoil (pt0_Way_spoil o) (de_var 7) (da_cons (de_meth0 cz o.cl_Way o.me_Way_store P_Way_store (pt0_Way_store o) (de_var 7)) da_nil) (hal := al_cons al_nil)))
    (dss_one (ds_if (dw_t (dw_and (dt_cmp c_gt (de_var 4) de_int (nomark _)) (dw_and1 (dt_cmp (c_ne cz.K cz.rm) (de_lamcall cz (show LamX.LamS (defScope s_law) _ from LamX.lamS_by (by decide +kernel)) TB rfl rfl rfl (fun _ _ _ _ _ => rfl) (P__law_refusal _ _) rfl (Or.inl rfl) (by decide) (by decide) (pt0__law_refusal o) rfl o.g__law_refusal o.F__law_refusal.kp (fun A outer s1 HZ E f1 c1 cz => de_methK0 cz o.cl_Way o.me_Way_beat PL_Way_beat (pt0_Way_beat o) (de_var 7) (dk_cons (de_var 12) dk_nil) (hbl := al_cons al_nil)) da_nil rfl (by decide) rfl rfl al_nil) (de_tup (da_cons de_str (da_cons de_non da_nil))) (nomark _))))) (dss_one (ds_ret de_bl)) dss_nil)))))))))))))))))))))
    (dss_one (ds_ret de_bl))
theorem wo_of {K : PySem.W.Frag} {h h2 : Heap} {w : World} {mg : Str → Option Value} (X : K.In h) (G : h.Ns mainGlobals mg) (c2 : He.SaysX faD fnD tsD tfD exD w h2 K) : Nonempty (Wo ⟨K, fun _ => 0, clsOf K⟩ w mg) := by
  have c := c2.t.d
  obtain ⟨fd0, F0⟩ := c.def_ 0 (d := ⟨("is_whole", none), "is_whole", "is_whole", defArgs s_is_whole, defBody s_is_whole, defScope s_is_whole, [], []⟩) rfl
  obtain ⟨fd1, F1⟩ := c.def_ 1 (d := ⟨("marks", none), "marks", "marks", defArgs s_marks, defBody s_marks, defScope s_marks, [], []⟩) rfl
  obtain ⟨fd2, F2⟩ := c.def_ 2 (d := ⟨("is_borne", none), "is_borne", "is_borne", defArgs s_is_borne, defBody s_is_borne, defScope s_is_borne, [], []⟩) rfl
  obtain ⟨fd3, F3⟩ := c.def_ 3 (d := ⟨("is_store", none), "is_store", "is_store", defArgs s_is_store, defBody s_is_store, defScope s_is_store, [], []⟩) rfl
  obtain ⟨fd4, F4⟩ := c.def_ 4 (d := ⟨("Way", some "__init__"), "__init__", "Way.__init__", defArgs s_Way___init__, defBody s_Way___init__, defScope s_Way___init__, [], [("miss", .int 1), ("bound", .int 10)]⟩) rfl
  obtain ⟨fd5, F5⟩ := c.def_ 5 (d := ⟨("Way", some "put_down"), "put_down", "Way.put_down", defArgs s_Way_put_down, defBody s_Way_put_down, defScope s_Way_put_down, [], []⟩) rfl
  obtain ⟨fd6, F6⟩ := c.def_ 6 (d := ⟨("Way", some "store"), "store", "Way.store", defArgs s_Way_store, defBody s_Way_store, defScope s_Way_store, [], []⟩) rfl
  obtain ⟨fd7, F7⟩ := c.def_ 7 (d := ⟨("Way", some "spoil"), "spoil", "Way.spoil", defArgs s_Way_spoil, defBody s_Way_spoil, defScope s_Way_spoil, [], []⟩) rfl
  obtain ⟨fd8, F8⟩ := c.def_ 8 (d := ⟨("Way", some "would_lose"), "would_lose", "Way.would_lose", defArgs s_Way_would_lose, defBody s_Way_would_lose, defScope s_Way_would_lose, [], []⟩) rfl
  obtain ⟨fd9, F9⟩ := c.def_ 9 (d := ⟨("Way", some "must_bear"), "must_bear", "Way.must_bear", defArgs s_Way_must_bear, defBody s_Way_must_bear, defScope s_Way_must_bear, [], []⟩) rfl
  obtain ⟨fd10, F10⟩ := c.def_ 10 (d := ⟨("Way", some "taken_up"), "taken_up", "Way.taken_up", defArgs s_Way_taken_up, defBody s_Way_taken_up, defScope s_Way_taken_up, [], []⟩) rfl
  obtain ⟨fd11, F11⟩ := c.def_ 11 (d := ⟨("Way", some "heard"), "heard", "Way.heard", defArgs s_Way_heard, defBody s_Way_heard, defScope s_Way_heard, [], []⟩) rfl
  obtain ⟨fd12, F12⟩ := c.def_ 12 (d := ⟨("Way", some "end_round"), "end_round", "Way.end_round", defArgs s_Way_end_round, defBody s_Way_end_round, defScope s_Way_end_round, [], []⟩) rfl
  obtain ⟨fd13, F13⟩ := c.def_ 13 (d := ⟨("Way", some "beat"), "beat", "Way.beat", defArgs s_Way_beat, defBody s_Way_beat, defScope s_Way_beat, [], [("word", .non), ("taking", .bl false), ("lost", .adr (kwAt ("Way", some "beat") "lost"))]⟩) rfl
  obtain ⟨fd14, F14⟩ := c.def_ 14 (d := ⟨("Way", some "parts"), "parts", "Way.parts", defArgs s_Way_parts, defBody s_Way_parts, defScope s_Way_parts, [], []⟩) rfl
  obtain ⟨fd15, F15⟩ := c.def_ 15 (d := ⟨("Way", some "__eq__"), "__eq__", "Way.__eq__", defArgs s_Way___eq__, defBody s_Way___eq__, defScope s_Way___eq__, [], []⟩) rfl
  obtain ⟨fd16, F16⟩ := c.def_ 16 (d := ⟨("Way", some "__len__"), "__len__", "Way.__len__", defArgs s_Way___len__, defBody s_Way___len__, defScope s_Way___len__, [], []⟩) rfl
  obtain ⟨fd17, F17⟩ := c.def_ 17 (d := ⟨("Way", some "__repr__"), "__repr__", "Way.__repr__", defArgs s_Way___repr__, defBody s_Way___repr__, defScope s_Way___repr__, [], []⟩) rfl
  obtain ⟨fd18, F18⟩ := c.def_ 18 (d := ⟨("_law_bag", none), "_law_bag", "_law_bag", defArgs s__law_bag, defBody s__law_bag, defScope s__law_bag, [], []⟩) rfl
  obtain ⟨fd19, F19⟩ := c.def_ 19 (d := ⟨("_law_take", none), "_law_take", "_law_take", defArgs s__law_take, defBody s__law_take, defScope s__law_take, [], []⟩) rfl
  obtain ⟨fd20, F20⟩ := c.def_ 20 (d := ⟨("_law_store", none), "_law_store", "_law_store", defArgs s__law_store, defBody s__law_store, defScope s__law_store, [], []⟩) rfl
  obtain ⟨fd21, F21⟩ := c.def_ 21 (d := ⟨("_law_refusal", none), "_law_refusal", "_law_refusal", defArgs s__law_refusal, defBody s__law_refusal, defScope s__law_refusal, [], []⟩) rfl
  obtain ⟨fd22, F22⟩ := c.def_ 22 (d := ⟨("_law_odd", none), "_law_odd", "_law_odd", defArgs s__law_odd, defBody s__law_odd, defScope s__law_odd, [], []⟩) rfl
  obtain ⟨fd23, F23⟩ := c.def_ 23 (d := ⟨("_law_no_part", none), "_law_no_part", "_law_no_part", defArgs s__law_no_part, defBody s__law_no_part, defScope s__law_no_part, [], []⟩) rfl
  obtain ⟨fd24, F24⟩ := c.def_ 24 (d := ⟨("_law_no_store", none), "_law_no_store", "_law_no_store", defArgs s__law_no_store, defBody s__law_no_store, defScope s__law_no_store, [], []⟩) rfl
  obtain ⟨fd25, F25⟩ := c.def_ 25 (d := ⟨("_law_as_due", none), "_law_as_due", "_law_as_due", defArgs s__law_as_due, defBody s__law_as_due, defScope s__law_as_due, [], []⟩) rfl
  obtain ⟨fd26, F26⟩ := c.def_ 26 (d := ⟨("_law_worn", none), "_law_worn", "_law_worn", defArgs s__law_worn, defBody s__law_worn, defScope s__law_worn, [], []⟩) rfl
  obtain ⟨fd27, F27⟩ := c.def_ 27 (d := ⟨("law", none), "law", "law", defArgs s_law, defBody s_law, defScope s_law, [], []⟩) rfl
  obtain ⟨fd28, F28⟩ := c.def_ 28 (d := ⟨("NoNumber", some "__init__"), "__init__", "NoNumber.__init__", defArgs s_NoNumber___init__, defBody s_NoNumber___init__, defScope s_NoNumber___init__, [], []⟩) rfl
  obtain ⟨fd29, F29⟩ := c.def_ 29 (d := ⟨("TooLost", some "__init__"), "__init__", "TooLost.__init__", defArgs s_TooLost___init__, defBody s_TooLost___init__, defScope s_TooLost___init__, [], []⟩) rfl
  exact ⟨{
    a_is_whole := _, fd_is_whole := fd0, F_is_whole := F0, g_is_whole := He.glo_ok X G (c.fact 0 (f := .glo "is_whole") rfl)
    a_marks := _, fd_marks := fd1, F_marks := F1, g_marks := He.glo_ok X G (c.fact 1 (f := .glo "marks") rfl)
    a_is_borne := _, fd_is_borne := fd2, F_is_borne := F2, g_is_borne := He.glo_ok X G (c.fact 2 (f := .glo "is_borne") rfl)
    a_is_store := _, fd_is_store := fd3, F_is_store := F3, g_is_store := He.glo_ok X G (c.fact 3 (f := .glo "is_store") rfl)
    a_Way___init__ := _, fd_Way___init__ := fd4, F_Way___init__ := F4, me_Way___init__ := He.meth_ok (c.fact 4 (f := .meth "Way" "__init__") rfl)
    a_Way_put_down := _, fd_Way_put_down := fd5, F_Way_put_down := F5, me_Way_put_down := He.meth_ok (c.fact 5 (f := .meth "Way" "put_down") rfl)
    a_Way_store := _, fd_Way_store := fd6, F_Way_store := F6, me_Way_store := He.meth_ok (c.fact 6 (f := .meth "Way" "store") rfl)
    a_Way_spoil := _, fd_Way_spoil := fd7, F_Way_spoil := F7, me_Way_spoil := He.meth_ok (c.fact 7 (f := .meth "Way" "spoil") rfl)
    a_Way_would_lose := _, fd_Way_would_lose := fd8, F_Way_would_lose := F8, me_Way_would_lose := He.meth_ok (c.fact 8 (f := .meth "Way" "would_lose") rfl)
    a_Way_must_bear := _, fd_Way_must_bear := fd9, F_Way_must_bear := F9, me_Way_must_bear := He.meth_ok (c.fact 9 (f := .meth "Way" "must_bear") rfl)
    a_Way_taken_up := _, fd_Way_taken_up := fd10, F_Way_taken_up := F10, me_Way_taken_up := He.meth_ok (c.fact 10 (f := .meth "Way" "taken_up") rfl)
    a_Way_heard := _, fd_Way_heard := fd11, F_Way_heard := F11, me_Way_heard := He.meth_ok (c.fact 11 (f := .meth "Way" "heard") rfl)
    a_Way_end_round := _, fd_Way_end_round := fd12, F_Way_end_round := F12, me_Way_end_round := He.meth_ok (c.fact 12 (f := .meth "Way" "end_round") rfl)
    a_Way_beat := _, fd_Way_beat := fd13, F_Way_beat := F13, me_Way_beat := He.meth_ok (c.fact 13 (f := .meth "Way" "beat") rfl)
    a_Way_parts := _, fd_Way_parts := fd14, F_Way_parts := F14, me_Way_parts := He.meth_ok (c.fact 14 (f := .meth "Way" "parts") rfl)
    a_Way___eq__ := _, fd_Way___eq__ := fd15, F_Way___eq__ := F15, me_Way___eq__ := He.meth_ok (c.fact 15 (f := .meth "Way" "__eq__") rfl)
    a_Way___len__ := _, fd_Way___len__ := fd16, F_Way___len__ := F16, me_Way___len__ := He.meth_ok (c.fact 16 (f := .meth "Way" "__len__") rfl)
    a_Way___repr__ := _, fd_Way___repr__ := fd17, F_Way___repr__ := F17, me_Way___repr__ := He.meth_ok (c.fact 17 (f := .meth "Way" "__repr__") rfl)
    a__law_bag := _, fd__law_bag := fd18, F__law_bag := F18, g__law_bag := He.glo_ok X G (c.fact 18 (f := .glo "_law_bag") rfl)
    a__law_take := _, fd__law_take := fd19, F__law_take := F19, g__law_take := He.glo_ok X G (c.fact 19 (f := .glo "_law_take") rfl)
    a__law_store := _, fd__law_store := fd20, F__law_store := F20, g__law_store := He.glo_ok X G (c.fact 20 (f := .glo "_law_store") rfl)
    a__law_refusal := _, fd__law_refusal := fd21, F__law_refusal := F21, g__law_refusal := He.glo_ok X G (c.fact 21 (f := .glo "_law_refusal") rfl)
    a__law_odd := _, fd__law_odd := fd22, F__law_odd := F22, g__law_odd := He.glo_ok X G (c.fact 22 (f := .glo "_law_odd") rfl)
    a__law_no_part := _, fd__law_no_part := fd23, F__law_no_part := F23, g__law_no_part := He.glo_ok X G (c.fact 23 (f := .glo "_law_no_part") rfl)
    a__law_no_store := _, fd__law_no_store := fd24, F__law_no_store := F24, g__law_no_store := He.glo_ok X G (c.fact 24 (f := .glo "_law_no_store") rfl)
    a__law_as_due := _, fd__law_as_due := fd25, F__law_as_due := F25, g__law_as_due := He.glo_ok X G (c.fact 25 (f := .glo "_law_as_due") rfl)
    a__law_worn := _, fd__law_worn := fd26, F__law_worn := F26, g__law_worn := He.glo_ok X G (c.fact 26 (f := .glo "_law_worn") rfl)
    a_law := _, fd_law := fd27, F_law := F27, g_law := He.glo_ok X G (c.fact 27 (f := .glo "law") rfl)
    a_NoNumber___init__ := _, fd_NoNumber___init__ := fd28, F_NoNumber___init__ := F28, me_NoNumber___init__ := He.meth_ok (c.fact 28 (f := .meth "NoNumber" "__init__") rfl)
    a_TooLost___init__ := _, fd_TooLost___init__ := fd29, F_TooLost___init__ := F29, me_TooLost___init__ := He.meth_ok (c.fact 29 (f := .meth "TooLost" "__init__") rfl)
    gc_Way := He.glo_ok X G (c.fact 45 (f := .glo "Way") rfl), cl_Way := He.cls_ok (c.fact 46 (f := .cls "Way") rfl)
    ne_Way := ne_of (ex_at c2.more 6 (f := fun K => neB (He.ga K "Way") K) rfl)
    ik_Way := ins_ofB (He.cls_ok (c.fact 46 (f := .cls "Way") rfl)) (ex_at c2.more 7 (f := fun K => insB (He.ga K "Way") K) rfl)
    mk_Way := He.mkr_ok (c.fact 47 (f := .mkr "Way") rfl)
    gx_NoWay := He.glo_ok X G (c.fact 61 (f := .glo "NoWay") rfl)
    gx_NoNumber := He.glo_ok X G (c.fact 62 (f := .glo "NoNumber") rfl)
    xc_NoNumber := xc_of PySem.F.excBase_ValueError PySem.F.store_ValueError (ex_at c2.more 8 (f := fun K => xcB [.type "ValueError", .type "Exception", .type "BaseException", .type "object"] "ValueError.__new__" (He.ga K "NoNumber") K) rfl)
    xm_NoNumber := xm_of fun c' h1 h2 => by
      have hc : c' = 1 ∨ c' = 2 ∨ c' = 3 ∨ c' = 4 ∨ c' = 5 := by omega
      rcases hc with rfl | rfl | rfl | rfl | rfl
      · exact exm_ok (c.fact 76 (f := .exm "NoWay" "NoNumber" false) rfl)
      · exact exm_ok (c.fact 77 (f := .exm "NoNumber" "NoNumber" true) rfl)
      · exact exm_ok (c.fact 78 (f := .exm "TooLost" "NoNumber" false) rfl)
      · exact exm_ok (c.fact 79 (f := .exm "NoStore" "NoNumber" false) rfl)
      · exact exm_ok (c.fact 80 (f := .exm "NoYard" "NoNumber" false) rfl)
    xf_NoNumber := xfB_ok (ex_at c2.more 9 (f := fun K => xfB K (He.ga K "NoNumber")) rfl), ec_NoNumber := ecc_of (ex_at c2.more 10 (f := fun K => eccB (He.ga K "NoNumber") K) rfl)
    gx_TooLost := He.glo_ok X G (c.fact 63 (f := .glo "TooLost") rfl)
    xc_TooLost := xc_of PySem.F.excBase_RuntimeError PySem.F.store_RuntimeError (ex_at c2.more 11 (f := fun K => xcB [.type "RuntimeError", .type "Exception", .type "BaseException", .type "object"] "RuntimeError.__new__" (He.ga K "TooLost") K) rfl)
    xm_TooLost := xm_of fun c' h1 h2 => by
      have hc : c' = 1 ∨ c' = 2 ∨ c' = 3 ∨ c' = 4 ∨ c' = 5 := by omega
      rcases hc with rfl | rfl | rfl | rfl | rfl
      · exact exm_ok (c.fact 66 (f := .exm "NoWay" "TooLost" false) rfl)
      · exact exm_ok (c.fact 67 (f := .exm "NoNumber" "TooLost" false) rfl)
      · exact exm_ok (c.fact 68 (f := .exm "TooLost" "TooLost" true) rfl)
      · exact exm_ok (c.fact 69 (f := .exm "NoStore" "TooLost" false) rfl)
      · exact exm_ok (c.fact 70 (f := .exm "NoYard" "TooLost" false) rfl)
    xf_TooLost := xfB_ok (ex_at c2.more 12 (f := fun K => xfB K (He.ga K "TooLost")) rfl), ec_TooLost := ecc_of (ex_at c2.more 13 (f := fun K => eccB (He.ga K "TooLost") K) rfl)
    gx_NoStore := He.glo_ok X G (c.fact 64 (f := .glo "NoStore") rfl)
    x0_NoStore := x0_of PySem.F.excBase_ValueError (ex_at c2.more 14 (f := fun K => x0B [.type "ValueError", .type "Exception", .type "BaseException", .type "object"] "ValueError.__new__" (He.ga K "NoStore") K) rfl)
    xm_NoStore := xm_of fun c' h1 h2 => by
      have hc : c' = 1 ∨ c' = 2 ∨ c' = 3 ∨ c' = 4 ∨ c' = 5 := by omega
      rcases hc with rfl | rfl | rfl | rfl | rfl
      · exact exm_ok (c.fact 71 (f := .exm "NoWay" "NoStore" false) rfl)
      · exact exm_ok (c.fact 72 (f := .exm "NoNumber" "NoStore" false) rfl)
      · exact exm_ok (c.fact 73 (f := .exm "TooLost" "NoStore" false) rfl)
      · exact exm_ok (c.fact 74 (f := .exm "NoStore" "NoStore" true) rfl)
      · exact exm_ok (c.fact 75 (f := .exm "NoYard" "NoStore" false) rfl)
    xf_NoStore := xfB_ok (ex_at c2.more 15 (f := fun K => xfB K (He.ga K "NoStore")) rfl), ec_NoStore := ecc_of (ex_at c2.more 16 (f := fun K => eccB (He.ga K "NoStore") K) rfl)
    gx_NoYard := He.glo_ok X G (c.fact 65 (f := .glo "NoYard") rfl)
    na_NoNumber_word := noat_at (c.fact 81 (f := .noat "NoNumber" "word") rfl)
    na_TooLost_side := noat_at (c.fact 82 (f := .noat "TooLost" "side") rfl)
    ki_0 := kit1_of (C := fun K => .ref (He.ga K "TooLost")) (u := fun K => .type "RuntimeError") (ex_at c2.more 17 (f := fun K => kitB1 (fun K => .ref (He.ga K "TooLost")) (fun K => .type "RuntimeError") true K) rfl)
    ki_1 := kit1_of (C := fun K => .ref (He.ga K "TooLost")) (u := fun K => .type "ValueError") (ex_at c2.more 18 (f := fun K => kitB1 (fun K => .ref (He.ga K "TooLost")) (fun K => .type "ValueError") false K) rfl)
    ki_2 := kit1_of (C := fun K => .ref (He.ga K "NoStore")) (u := fun K => .type "ValueError") (ex_at c2.more 19 (f := fun K => kitB1 (fun K => .ref (He.ga K "NoStore")) (fun K => .type "ValueError") true K) rfl)
    ki_3 := kitA_of (C := fun K => .ref (He.ga K "NoStore")) (u := fun K => [.ref (He.ga K "NoYard"), .ref (He.ga K "NoWay")]) (ex_at c2.more 20 (f := fun K => kitBA (fun K => .ref (He.ga K "NoStore")) (fun K => [.ref (He.ga K "NoYard"), .ref (He.ga K "NoWay")]) false K) rfl)
    ki_4 := kit1_of (C := fun K => .ref (He.ga K "NoNumber")) (u := fun K => .type "ValueError") (ex_at c2.more 21 (f := fun K => kitB1 (fun K => .ref (He.ga K "NoNumber")) (fun K => .type "ValueError") true K) rfl)
    ki_5 := kitA_of (C := fun K => .ref (He.ga K "NoNumber")) (u := fun K => [.ref (He.ga K "NoStore"), .ref (He.ga K "NoWay")]) (ex_at c2.more 22 (f := fun K => kitBA (fun K => .ref (He.ga K "NoNumber")) (fun K => [.ref (He.ga K "NoStore"), .ref (He.ga K "NoWay")]) false K) rfl)
    flds := ⟨fun i f h => match i, h with | 0, h => fl_of h (He.cls_ok (c.fact 46 (f := .cls "Way") rfl)) (List.forall_mem_cons.mpr ⟨He.noat_ok (c.fact 48 (f := .noat "Way" "lost_letters") rfl), (List.forall_mem_cons.mpr ⟨He.noat_ok (c.fact 49 (f := .noat "Way" "lost_echoes") rfl), (List.forall_mem_cons.mpr ⟨He.noat_ok (c.fact 50 (f := .noat "Way" "hold") rfl), (List.forall_mem_cons.mpr ⟨He.noat_ok (c.fact 51 (f := .noat "Way" "miss") rfl), (List.forall_mem_cons.mpr ⟨He.noat_ok (c.fact 52 (f := .noat "Way" "bound") rfl), (List.forall_mem_cons.mpr ⟨He.noat_ok (c.fact 53 (f := .noat "Way" "letters") rfl), (List.forall_mem_cons.mpr ⟨He.noat_ok (c.fact 54 (f := .noat "Way" "echoes") rfl), (List.forall_mem_cons.mpr ⟨He.noat_ok (c.fact 55 (f := .noat "Way" "mark") rfl), (List.forall_mem_cons.mpr ⟨He.noat_ok (c.fact 56 (f := .noat "Way" "bears") rfl), (List.forall_mem_cons.mpr ⟨He.noat_ok (c.fact 57 (f := .noat "Way" "slot") rfl), (List.forall_mem_cons.mpr ⟨He.noat_ok (c.fact 58 (f := .noat "Way" "last") rfl), (List.forall_mem_cons.mpr ⟨He.noat_ok (c.fact 59 (f := .noat "Way" "took") rfl), (List.forall_mem_cons.mpr ⟨He.noat_ok (c.fact 60 (f := .noat "Way" "box") rfl), (fun _ h => nomatch h)⟩)⟩)⟩)⟩)⟩)⟩)⟩)⟩)⟩)⟩)⟩)⟩)⟩) | _ + 1, h => nomatch h⟩
    kd_Way_beat_lost := fun g H => kw_rep (ex_at c2.more 5 (f := fun K => kwB ("Way", some "beat") "lost" (.tup [.bl false, .bl false]) K) rfl) ⟨K, fun _ => 0, clsOf K⟩ rfl g H
    n_RuntimeError := He.free_ok X G (c.fact 30 (f := .free "RuntimeError") rfl)
    n_ValueError := He.free_ok X G (c.fact 31 (f := .free "ValueError") rfl)
    n_abs := He.free_ok X G (c.fact 32 (f := .free "abs") rfl)
    n_all := He.free_ok X G (c.fact 33 (f := .free "all") rfl)
    n_bool := He.free_ok X G (c.fact 34 (f := .free "bool") rfl)
    n_int := He.free_ok X G (c.fact 35 (f := .free "int") rfl)
    n_isinstance := He.free_ok X G (c.fact 36 (f := .free "isinstance") rfl)
    n_len := He.free_ok X G (c.fact 37 (f := .free "len") rfl)
    n_list := He.free_ok X G (c.fact 38 (f := .free "list") rfl)
    n_max := He.free_ok X G (c.fact 39 (f := .free "max") rfl)
    n_min := He.free_ok X G (c.fact 40 (f := .free "min") rfl)
    n_range := He.free_ok X G (c.fact 41 (f := .free "range") rfl)
    n_repr := He.free_ok X G (c.fact 42 (f := .free "repr") rfl)
    n_tuple := He.free_ok X G (c.fact 43 (f := .free "tuple") rfl)
    n_zip := He.free_ok X G (c.fact 44 (f := .free "zip") rfl)
    c_FIRST := glV_of X G (ex_at c2.more 0 (f := fun K => glB K "FIRST" gv_FIRST) rfl)
    c_MOST_BOUND := glV_of X G (ex_at c2.more 1 (f := fun K => glB K "MOST_BOUND" gv_MOST_BOUND) rfl)
    c_MOST_HOLD := glV_of X G (ex_at c2.more 2 (f := fun K => glB K "MOST_HOLD" gv_MOST_HOLD) rfl)
    c_MOST_MISS := glV_of X G (ex_at c2.more 3 (f := fun K => glB K "MOST_MISS" gv_MOST_MISS) rfl)
    c_PARTS := glV_of X G (ex_at c2.more 4 (f := fun K => glB K "PARTS" gv_PARTS) rfl)
  }⟩
end PM

namespace PM
open PySem L2
/-! the way as an instance -/
structure WS where
  hold : Int
  miss : Int
  bound : Int
  ll : Int
  le : Int
  mark : Int
  bears : Int
  slot : Option Int
  last : Int
  took : Int
  box : Option Int
  letters : List (Int × Option Int)
  echoes : List (Int × Int)
def oD : Option Int → D
  | none => .non
  | some i => .int i
def pD (p : Int × Option Int) : D := .tup [.int p.1, oD p.2]
def qD (p : Int × Int) : D := .tup [.int p.1, .int p.2]
def fsW (w : WS) (l e : Nat) : List (Str × D) := [("hold", .int w.hold), ("miss", .int w.miss), ("bound", .int w.bound), ("lost_letters", .int w.ll), ("lost_echoes", .int w.le), ("mark", .int w.mark), ("bears", .int w.bears), ("slot", oD w.slot), ("last", .int w.last),
  ("took", .int w.took), ("box", oD w.box), ("letters", .ref l), ("echoes", .ref e)]
def wO (w : WS) (l e : Nat) : O := .ins 0 (fsW w l e)
def wD (w : WS) (l e : Nat) : D := .ins 0 (fsW w l e)
structure WayAt (vh : VH) (n l e : Nat) (w : WS) : Prop where
  at_ : vh[n]? = some (wO w l e)
  lt : vh[l]? = some (.lst (w.letters.map pD))
  ec : vh[e]? = some (.lst (w.echoes.map qD))
  ne : l ≠ e
section
variable {w : WS} {l e : Nat} {i : Int} {s : Option Int} {d : D} {m : Str}
theorem wD_eq : (wO w l e).toD = wD w l e := rfl
theorem fg_eq {f g : String} {d : D} {r : List (Str × D)} : fget ((Str.ofString g, d) :: r) (Str.ofString f) = if f = g then some d else fget r (Str.ofString f) := by
  rw [fget]; simp only [ofS_inj]
theorem fp_eq {f g : String} {d x : D} {r : List (Str × D)} : fput (Str.ofString f) d ((Str.ofString g, x) :: r) = if g = f then (Str.ofString g, d) :: r else (Str.ofString g, x) :: fput (Str.ofString f) d r := by
  rw [fput]; simp only [ofS_inj]
@[simp] theorem g_hold : pFld faT "hold" (wD w l e) = some (.v (.int w.hold)) := by simp [pFld, wD, fsW, faT, fg_eq]
@[simp] theorem g_miss : pFld faT "miss" (wD w l e) = some (.v (.int w.miss)) := by simp [pFld, wD, fsW, faT, fg_eq]
@[simp] theorem g_bound : pFld faT "bound" (wD w l e) = some (.v (.int w.bound)) := by simp [pFld, wD, fsW, faT, fg_eq]
@[simp] theorem g_ll : pFld faT "lost_letters" (wD w l e) = some (.v (.int w.ll)) := by simp [pFld, wD, fsW, faT, fg_eq]
@[simp] theorem g_le : pFld faT "lost_echoes" (wD w l e) = some (.v (.int w.le)) := by simp [pFld, wD, fsW, faT, fg_eq]
@[simp] theorem g_mark : pFld faT "mark" (wD w l e) = some (.v (.int w.mark)) := by simp [pFld, wD, fsW, faT, fg_eq]
@[simp] theorem g_bears : pFld faT "bears" (wD w l e) = some (.v (.int w.bears)) := by simp [pFld, wD, fsW, faT, fg_eq]
@[simp] theorem g_slot : pFld faT "slot" (wD w l e) = some (.v (oD w.slot)) := by simp [pFld, wD, fsW, faT, fg_eq]
@[simp] theorem g_last : pFld faT "last" (wD w l e) = some (.v (.int w.last)) := by simp [pFld, wD, fsW, faT, fg_eq]
@[simp] theorem g_took : pFld faT "took" (wD w l e) = some (.v (.int w.took)) := by simp [pFld, wD, fsW, faT, fg_eq]
@[simp] theorem g_box : pFld faT "box" (wD w l e) = some (.v (oD w.box)) := by simp [pFld, wD, fsW, faT, fg_eq]
@[simp] theorem g_letters : pFld faT "letters" (wD w l e) = some (.v (.ref l)) := by simp [pFld, wD, fsW, faT, fg_eq]
@[simp] theorem g_echoes : pFld faT "echoes" (wD w l e) = some (.v (.ref e)) := by simp [pFld, wD, fsW, faT, fg_eq]
@[simp] theorem p_ll : ofld faT "lost_letters" (.int i) (wO w l e) = some (wO { w with ll := i } l e) := by simp [ofld, wO, fsW, faT, fp_eq, oD]
@[simp] theorem p_le_ : ofld faT "lost_echoes" (.int i) (wO w l e) = some (wO { w with le := i } l e) := by simp [ofld, wO, fsW, faT, fp_eq, oD]
@[simp] theorem p_mark : ofld faT "mark" (.int i) (wO w l e) = some (wO { w with mark := i } l e) := by simp [ofld, wO, fsW, faT, fp_eq, oD]
@[simp] theorem p_bears : ofld faT "bears" (.int i) (wO w l e) = some (wO { w with bears := i } l e) := by simp [ofld, wO, fsW, faT, fp_eq, oD]
@[simp] theorem p_slot : ofld faT "slot" (oD s) (wO w l e) = some (wO { w with slot := s } l e) := by simp [ofld, wO, fsW, faT, fp_eq, oD]
@[simp] theorem p_slot0 : ofld faT "slot" .non (wO w l e) = some (wO { w with slot := none } l e) := by simp [ofld, wO, fsW, faT, fp_eq, oD]
@[simp] theorem p_slot1 : ofld faT "slot" (.int i) (wO w l e) = some (wO { w with slot := some i } l e) := by simp [ofld, wO, fsW, faT, fp_eq, oD]
@[simp] theorem p_last : ofld faT "last" (.int i) (wO w l e) = some (wO { w with last := i } l e) := by simp [ofld, wO, fsW, faT, fp_eq, oD]
@[simp] theorem p_took : ofld faT "took" (.int i) (wO w l e) = some (wO { w with took := i } l e) := by simp [ofld, wO, fsW, faT, fp_eq, oD]
@[simp] theorem p_box : ofld faT "box" (oD s) (wO w l e) = some (wO { w with box := s } l e) := by simp [ofld, wO, fsW, faT, fp_eq, oD]
@[simp] theorem p_box0 : ofld faT "box" .non (wO w l e) = some (wO { w with box := none } l e) := by simp [ofld, wO, fsW, faT, fp_eq, oD]
@[simp] theorem p_box1 : ofld faT "box" (.int i) (wO w l e) = some (wO { w with box := some i } l e) := by simp [ofld, wO, fsW, faT, fp_eq, oD]
@[simp] theorem p_letters {j : Nat} : ofld faT "letters" (.ref j) (wO w l e) = some (wO w j e) := by simp [ofld, wO, fsW, faT, fp_eq, oD]
@[simp] theorem p_echoes {j : Nat} : ofld faT "echoes" (.ref j) (wO w l e) = some (wO w l j) := by simp [ofld, wO, fsW, faT, fp_eq, oD]
@[simp] theorem isI {m : String} (h : m ∉ ["hold", "miss", "bound", "lost_letters", "lost_echoes", "mark", "bears", "slot", "last", "took", "box", "letters", "echoes"]) : isIns 0 m (wD w l e) = true := by
  simp only [List.mem_cons, List.not_mem_nil, or_false, not_or] at h
  obtain ⟨h1, h2, h3, h4, h5, h6, h7, h8, h9, h10, h11, h12, h13⟩ := h
  simp [isIns, wD, fsW, fg_eq, fget, *]
@[simp] theorem is_nn : opIs .non .non = some (.v (.bl true)) := rfl
@[simp] theorem isn_nn : opIsNot .non .non = some (.v (.bl false)) := rfl
@[simp] theorem is_in : opIs (.int i) .non = some (.v (.bl false)) := rfl
@[simp] theorem isn_in : opIsNot (.int i) .non = some (.v (.bl true)) := rfl
@[simp] theorem tru_b {b : Bool} : truD (.bl b) = some b := rfl
@[simp] theorem tru_n : truD .non = some false := rfl
@[simp] theorem tru_lb {b : Bool} {vh : VH} : liftB (some b) vh = .ok b vh := rfl
@[simp] theorem is_oD : opIs (oD s) .non = some (.v (.bl s.isNone)) := by cases s <;> rfl
@[simp] theorem isn_oD : opIsNot (oD s) .non = some (.v (.bl s.isSome)) := by cases s <;> rfl
@[simp] theorem oD_none : oD none = .non := rfl
@[simp] theorem vw_oD {vh : VH} : view vh (oD s) = oD s := by cases s <;> rfl
end
@[simp] theorem x_gFld {fa : Nat → Str → Bool} {f : Str} {φ : EF} {d : D} {sl : Sl} {vh : VH} : gFld fa f φ d sl vh = (match φ sl vh with | .ok ev vh1 => (dfst fa f ev.d d vh1).map fun vh2 => (sl, vh2) | _ => none) := rfl
@[simp] theorem x_dMeth {c : Nat} {m : Str} {arr : List D → List D} {Φ : Den} {φ : EF} {α : AF} {sl : Sl} {vh : VH} : dMeth c m arr Φ φ α sl vh = (match φ sl vh with
  | .ok x vh0 => (if isIns c m (view vh0 x.d) = true then
  (match α sl vh0 with
    | .ok ds vh' => (match Φ (arr (x.d :: ds)) vh' with
      | .ok r vh2 => .ok (.v r) vh2
      | .exc x vh2 => .exc x vh2
      | .bad => .bad)
    | .exc x vh' => .exc x vh'
    | .bad => .bad) else .bad)
  | .exc x vh' => .exc x vh'
  | .bad => .bad) := rfl
theorem vw_w {vh : VH} {n l e : Nat} {w : WS} (h : vh[n]? = some (wO w l e)) : view vh (.ref n) = wD w l e := vw_ref h
theorem vw_set {vh : VH} {n : Nat} {o : O} (h : n < vh.length) : view (vh.set n o) (.ref n) = o.toD := vw_ref (by simp [h])
theorem dfst_at {vh : VH} {n : Nat} {o o' : O} {fa : Nat → Str → Bool} {f : Str} {d : D} (h : vh[n]? = some o) (h2 : ofld fa f d o = some o') : dfst fa f (.ref n) d vh = some (vh.set n o') := by simp [dfst, h, h2]
theorem dfst_set {vh : VH} {n : Nat} {o o' : O} {fa : Nat → Str → Bool} {f : Str} {d : D} (h : n < vh.length) (h2 : ofld fa f d o = some o') : dfst fa f (.ref n) d (vh.set n o) = some (vh.set n o') := by simp [dfst, h, h2]

/-! what a way does -/
def WS.lost (w : WS) (a b : Bool) : Int × Int := (if a then w.ll + 1 else 0, if w.letters = [] then w.le else if b then w.le + 1 else 0)
def WS.takes (w : WS) : WS := match w.letters with
  | [] => w
  | (m, p) :: r => if m = w.last then { w with letters := r } else
    { w with letters := r, last := m, took := if p.isSome && w.box.isNone then 1 else 0, box := if p.isSome && w.box.isNone then p else w.box }
def WS.told (w : WS) : List (Int × Int) := match w.letters with
  | [] => []
  | _ :: _ => [(w.takes.last, w.takes.took)]
def WS.ends (w : WS) (b : Int) (s : Option Int) : WS := { w with mark := (w.mark + 1) % (2 * w.hold + 1), bears := b, slot := s }
def WS.hears (w : WS) : WS := match w.echoes with
  | [] => w
  | (m, t) :: r => if m = w.mark then (if w.bears = 1 ∧ t = 1 then { w with echoes := r }.ends 0 none else { w with echoes := r }.ends (if w.slot.isSome then 1 else 0) w.slot) else { w with echoes := r }
noncomputable def Dlose : Den := runD 3 d_Way_would_lose
theorem lose_ok {vh : VH} {n l e : Nat} {w : WS} (h : WayAt vh n l e w) {a b : Bool} (hr : Rps 3 100000 (w.letters.map pD)) : Dlose [.ref n, .tup [.bl a, .bl b]] vh = .ok (.tup [.int (w.lost a b).1, .int (w.lost a b).2]) vh := by
  have l2 : (2 : Nat) ≤ lim := le_lim (by decide)
  have l0 : (0 : Nat) ≤ lim := le_lim (by decide)
  have e := hr.eq_nilL (by decide)
  cases a <;> cases b <;> cases hl : w.letters <;> simp [hl] at e <;> simp [Dlose, d_Way_would_lose, slots, vw_w h.at_, vw_ref h.lt, pTup, pLst, l2, l0, e, truD, liftB, WS.lost, hl]
theorem WayAt.nl {vh : VH} {n l e : Nat} {w : WS} (h : WayAt vh n l e w) : n ≠ l := fun x => by
  subst x; have := h.at_.symm.trans h.lt; simp [wO] at this
theorem WayAt.nE {vh : VH} {n l e : Nat} {w : WS} (h : WayAt vh n l e w) : n ≠ e := fun x => by
  subst x; have := h.at_.symm.trans h.ec; simp [wO] at this
theorem ltOf {α : Type} {l : List α} {n : Nat} {x : α} (h : l[n]? = some x) : n < l.length := (List.getElem?_eq_some_iff.mp h).1
/-- a way's step: what else there is stays -/
structure Go (vh : VH) (n l e : Nat) (vh' : VH) (l' e' : Nat) (w' : WS) : Prop where
  way : WayAt vh' n l' e' w'
  len : vh.length ≤ vh'.length
  fr : ∀ j < vh.length, j ≠ n → j ≠ l → j ≠ e → vh'[j]? = vh[j]?
  hl : l' = l ∨ vh.length ≤ l'
  he : e' = e ∨ vh.length ≤ e'
theorem Go.trans {vh vh1 vh2 : VH} {n l e l1 e1 l2 e2 : Nat} {w1 w2 : WS} (a : Go vh n l e vh1 l1 e1 w1) (b : Go vh1 n l1 e1 vh2 l2 e2 w2) : Go vh n l e vh2 l2 e2 w2 := by
  refine ⟨b.way, Nat.le_trans a.len b.len, fun j h1 h2 h3 h4 => ?_, ?_, ?_⟩
  · rw [b.fr j (Nat.lt_of_lt_of_le h1 a.len) h2 (by have := a.hl; omega) (by have := a.he; omega)]
    exact a.fr j h1 h2 h3 h4
  · have := a.hl; have := b.hl; have := a.len; omega
  · have := a.he; have := b.he; have := a.len; omega
/-- only the instance is changed -/
theorem WayAt.put {vh : VH} {n l e : Nat} {w w' : WS} (h : WayAt vh n l e w) (h1 : w'.letters = w.letters) (h2 : w'.echoes = w.echoes) : Go vh n l e (vh.set n (wO w' l e)) l e w' := by
  have hn := ltOf h.at_
  refine ⟨⟨by simp [hn], ?_, ?_, h.ne⟩, by simp, fun j a b c d => List.getElem?_set_ne (Ne.symm b), .inl rfl, .inl rfl⟩
  · rw [List.getElem?_set_ne h.nl, h1]; exact h.lt
  · rw [List.getElem?_set_ne h.nE, h2]; exact h.ec
/-- a new list of letters -/
theorem WayAt.putL {vh : VH} {n l e : Nat} {w w' : WS} (h : WayAt vh n l e w) (h2 : w'.echoes = w.echoes) : Go vh n l e ((vh ++ [O.lst (w'.letters.map pD)]).set n (wO w' vh.length e)) vh.length e w' := by
  have hn := ltOf h.at_
  have he := ltOf h.ec
  refine ⟨⟨by simp [List.getElem?_set_self, show n < vh.length + 1 by omega], ?_, ?_, by omega⟩, by simp, fun j a b c d => ?_, .inr (Nat.le_refl _), .inl rfl⟩
  · rw [List.getElem?_set_ne (by omega)]; simp
  · rw [List.getElem?_set_ne h.nE, h2, List.getElem?_append_left he]; exact h.ec
  · rw [List.getElem?_set_ne (Ne.symm b), List.getElem?_append_left a]
theorem WayAt.putE {vh : VH} {n l e : Nat} {w w' : WS} (h : WayAt vh n l e w) (h2 : w'.letters = w.letters) : Go vh n l e ((vh ++ [O.lst (w'.echoes.map qD)]).set n (wO w' l vh.length)) l vh.length w' := by
  have hn := ltOf h.at_
  have he := ltOf h.lt
  refine ⟨⟨by simp [List.getElem?_set_self, show n < vh.length + 1 by omega], ?_, ?_, by omega⟩, by simp, fun j a b c d => ?_, .inl rfl, .inr (Nat.le_refl _)⟩
  · rw [List.getElem?_set_ne h.nl, h2, List.getElem?_append_left he]; exact h.lt
  · rw [List.getElem?_set_ne (by omega)]; simp
  · rw [List.getElem?_set_ne (Ne.symm b), List.getElem?_append_left a]
noncomputable def Dbear : Den := runD 4 (d_Way_must_bear Dlose)
theorem bear_ok {vh : VH} {n l e : Nat} {w : WS} (h : WayAt vh n l e w) {a b : Bool} (hr : Rps 3 100000 (w.letters.map pD)) (h1 : (w.lost a b).1 < w.miss) (h2 : (w.lost a b).2 < w.miss) : Dbear [.ref n, .tup [.bl a, .bl b]] vh = .ok .non vh := by
  have l2 : (2 : Nat) ≤ lim := le_lim (by decide)
  have e1 := lose_ok h (a := a) (b := b) hr
  have n1 : ¬ w.miss ≤ (w.lost a b).1 := by omega
  have n2 : ¬ w.miss ≤ (w.lost a b).2 := by omega
  simp [Dbear, d_Way_must_bear, d_Way_must_bear_L1, slots, vw_w h.at_, wD_eq, isI, pTup, l2, e1, iZip, zipIV, pairs, sLoop, n1, n2, ar0_Way_would_lose]
theorem rest2 {x : D} {xs : List D} : restL 2 1 (x :: xs) = xs := by simp [restL]
theorem last2 {x : D} {xs : List D} : lastL 2 1 (x :: xs) = [] := by simp [lastL]
noncomputable def Dtakes : Den := runD 5 d_Way_taken_up
theorem takes_ok {vh : VH} {n l e : Nat} {w : WS} (h : WayAt vh n l e w) (hr : Rps 3 100000 (w.letters.map pD)) (hk : w.letters.length ≤ 100) :
    ∃ vh' l', Dtakes [.ref n] vh = .ok (.lst (w.told.map qD)) vh' ∧ Go vh n l e vh' l' e w.takes := by
  have l2 : (2 : Nat) ≤ lim := le_lim (by decide)
  have l1 : (1 : Nat) ≤ lim := le_lim (by decide)
  have l0 : (0 : Nat) ≤ lim := le_lim (by decide)
  have q := hr.eq_nilL (by decide)
  cases hl : w.letters with
  | nil =>
    simp [hl] at q
    refine ⟨vh, l, ?_, ?_⟩
    · simp [Dtakes, d_Way_taken_up, slots, vw_w h.at_, vw_ref h.lt, pLst, l0, q, hl, WS.told]
    · simp only [WS.takes, hl]
      exact ⟨h, Nat.le_refl _, fun _ _ _ _ _ => rfl, .inl rfl, .inl rfl⟩
  | cons p r =>
    obtain ⟨m, p⟩ := p
    simp only [hl, List.map_cons, List.isEmpty_cons, pD] at q
    rw [hl, List.length_cons] at hk
    have hn := ltOf h.at_
    obtain ⟨vh1, ev⟩ : ∃ v, vh ++ [O.lst (r.map pD)] = v := ⟨_, rfl⟩
    have h1 : vh1[n]? = some (wO w l e) := by rw [← ev, List.getElem?_append_left hn]; exact h.at_
    have hn1 : n < vh1.length := ltOf h1
    have hw : w.takes.letters = r := by simp only [WS.takes, hl]; split <;> rfl
    have hk2 : r.length + 1 ≤ 16384 := by omega
    refine ⟨vh1.set n (wO w.takes vh.length e), vh.length, ?_, ?_⟩
    · by_cases hm : m = w.last
      · subst hm
        simp [Dtakes, d_Way_taken_up, slots, vw_w h.at_, vw_ref h.lt, pLst, pTup, l0, l1, l2, q, hl, WS.told, WS.takes, gStrH, pD, qD, vw_w h1, dfst_at h1, dfst_set hn1, ev, vw_set hn1, wD_eq, rest2, last2, hk2]
        rfl
      · cases p <;> cases hb : w.box <;> simp only [oD] at q <;> simp [Dtakes, d_Way_taken_up, slots, vw_w h.at_, vw_ref h.lt, pLst, pTup, l0, l1, l2, q, hl, WS.told, WS.takes, gStrH, pD, qD, hm, vw_w h1, dfst_at h1, dfst_set hn1, ev, vw_set hn1, wD_eq, hb, oD, truD, liftB, rest2, last2, hk2] <;> rfl
    · rw [← ev, ← hw]
      exact h.putL (by simp only [WS.takes, hl]; split <;> rfl)
end PM

namespace PM
open PySem L2
noncomputable def Dmarks : Den := runD 1 d_marks
theorem marks_ok {i : Int} {vh : VH} : Dmarks [.int i] vh = .ok (.int (2 * i + 1)) vh := by
  simp [Dmarks, d_marks, slots, o_mul (mulOk_l (i := 2) (j := i) (by decide))]
noncomputable def Dends : Den := runD 3 (d_Way_end_round Dmarks)
theorem ends_ok {vh : VH} {n l e : Nat} {w : WS} (h : WayAt vh n l e w) (hh : 1 ≤ w.hold) {b : Int} {s : Option Int} : Dends [.ref n, .int b, oD s] vh = .ok .non (vh.set n (wO (w.ends b s) l e)) := by
  have l2 : (2 : Nat) ≤ lim := le_lim (by decide)
  have hn := ltOf h.at_
  have hm : ∀ i : Int, opMod (.int i) (.int (2 * w.hold + 1)) = some (.v (.int (i % (2 * w.hold + 1)))) := fun i => o_mod (by omega)
  simp [Dends, d_Way_end_round, slots, vw_w h.at_, ar0_marks, marks_ok, hm, dfst_at h.at_, pTup, l2, dfst_set hn, vw_set hn, WS.ends]
theorem cut_a {x : D} {xs : List D} : cutL (x :: xs) none (some 1) = [x] := by simp [cutL, HT.sIx]
theorem cut_b {x : D} {xs : List D} : cutL (x :: xs) (some 1) none = xs := by
  simp [cutL, HT.sIx]
theorem cut_0 {a b : Option Int} : cutL ([] : List D) a b = [] := by simp [cutL]
noncomputable def Dhears : Den := runD 5 (d_Way_heard Dends)
theorem hears_ok {vh : VH} {n l e : Nat} {w : WS} (h : WayAt vh n l e w) (hh : 1 ≤ w.hold) (hk : w.echoes.length ≤ 100) : ∃ vh' e', Dhears [.ref n] vh = .ok .non vh' ∧ Go vh n l e vh' l e' w.hears := by
  have hn := ltOf h.at_
  have lk : w.echoes.length ≤ lim := le_lim (by omega)
  cases hl : w.echoes with
  | nil =>
    obtain ⟨vh1, ev⟩ : ∃ v, vh ++ [O.lst []] = v := ⟨_, rfl⟩
    have h1 : vh1[n]? = some (wO w l e) := by rw [← ev, List.getElem?_append_left hn]; exact h.at_
    have g := h.putE (w' := w.hears) (by simp [WS.hears, hl])
    have e0 : w.hears.echoes = [] := by simp [WS.hears, hl]
    rw [e0, List.map_nil, ev] at g
    refine ⟨_, vh.length, ?_, g⟩
    simp [Dhears, d_Way_heard, slots, vw_w h.at_, vw_ref h.ec, hl, pCut, cut_0, dfst_at h1, ev, sLoop, WS.hears]
  | cons p r =>
    obtain ⟨m, t⟩ := p
    obtain ⟨vh1, ev⟩ : ∃ v, vh ++ [O.lst (r.map qD)] = v := ⟨_, rfl⟩
    have h1 : vh1[n]? = some (wO w l e) := by rw [← ev, List.getElem?_append_left hn]; exact h.at_
    have hn1 : n < vh1.length := ltOf h1
    have g := h.putE (w' := { w with echoes := r }) rfl
    simp only [ev] at g
    have e0 : wO { w with echoes := r } l vh.length = wO w l vh.length := rfl
    rw [e0] at g
    have en := fun b s => ends_ok (b := b) (s := s) g.way hh
    by_cases hm : m = w.mark
    · by_cases hb : w.bears = 1 ∧ t = 1
      · have hw : w.hears = { w with echoes := r }.ends 0 none := by simp [WS.hears, hl, hm, hb]
        rw [hw]
        have g2 := g.trans (g.way.put (w' := WS.ends { w with echoes := r } 0 none) rfl rfl)
        have en := ends_ok (b := 0) (s := none) g.way hh
        simp only [oD_none] at en
        refine ⟨_, vh.length, ?_, g2⟩
        simp [Dhears, d_Way_heard, d_Way_heard_L1, slots, vw_w h.at_, vw_ref h.ec, hl, pCut, cut_a, cut_b, dfst_at h1, ev, sLoop, qD, vw_set hn1, wD_eq, hm, hb, isI, ar0_Way_end_round, en]
      · have hw : w.hears = { w with echoes := r }.ends (if w.slot.isSome then 1 else 0) w.slot := by simp [WS.hears, hl, hm, hb]
        rw [hw]
        have g2 := g.trans (g.way.put (w' := WS.ends { w with echoes := r } (if w.slot.isSome then 1 else 0) w.slot) rfl rfl)
        have en := ends_ok (b := if w.slot.isSome then 1 else 0) (s := w.slot) g.way hh
        have hb' : w.bears = 1 → ¬ t = 1 := fun a b => hb ⟨a, b⟩
        refine ⟨_, vh.length, ?_, g2⟩
        by_cases hb1 : w.bears = 1
        · simp [Dhears, d_Way_heard, d_Way_heard_L1, slots, vw_w h.at_, vw_ref h.ec, hl, pCut, cut_a, cut_b, dfst_at h1, ev, sLoop, qD, vw_set hn1, wD_eq, hm, hb1, hb' hb1, isI, ar0_Way_end_round, en]
        · simp [Dhears, d_Way_heard, d_Way_heard_L1, slots, vw_w h.at_, vw_ref h.ec, hl, pCut, cut_a, cut_b, dfst_at h1, ev, sLoop, qD, vw_set hn1, wD_eq, hm, hb1, isI, ar0_Way_end_round, en]
    · have hw : w.hears = { w with echoes := r } := by simp [WS.hears, hl, hm]
      rw [hw]
      refine ⟨_, vh.length, ?_, g⟩
      simp [Dhears, d_Way_heard, d_Way_heard_L1, slots, vw_w h.at_, vw_ref h.ec, hl, pCut, cut_a, cut_b, dfst_at h1, ev, sLoop, qD, vw_set hn1, wD_eq, hm]
end PM

namespace PM
open PySem L2
theorem WayAt.extL {vh : VH} {n l e : Nat} {w w' : WS} (h : WayAt vh n l e w) (hw : wO w' l e = wO w l e) (h2 : w'.echoes = w.echoes) : Go vh n l e (vh.set l (.lst (w'.letters.map pD))) l e w' := by
  have hl := ltOf h.lt
  refine ⟨⟨?_, by simp [hl], ?_, h.ne⟩, by simp, fun j a b c d => List.getElem?_set_ne (Ne.symm c), .inl rfl, .inl rfl⟩
  · rw [List.getElem?_set_ne (Ne.symm h.nl), hw]; exact h.at_
  · rw [List.getElem?_set_ne h.ne, h2]; exact h.ec
theorem WayAt.extE {vh : VH} {n l e : Nat} {w w' : WS} (h : WayAt vh n l e w) (hw : wO w' l e = wO w l e) (h2 : w'.letters = w.letters) : Go vh n l e (vh.set e (.lst (w'.echoes.map qD))) l e w' := by
  have hl := ltOf h.ec
  refine ⟨⟨?_, ?_, by simp [hl], h.ne⟩, by simp, fun j a b c d => List.getElem?_set_ne (Ne.symm d), .inl rfl, .inl rfl⟩
  · rw [List.getElem?_set_ne (Ne.symm h.nE), hw]; exact h.at_
  · rw [List.getElem?_set_ne (Ne.symm h.ne), h2]; exact h.lt
noncomputable def Dwhole : Den := runD 3 d_is_whole
theorem whole_ok {i a b : Int} {vh : VH} : Dwhole [.int i, .int a, .int b] vh = .ok (.bl (decide (a ≤ i) && decide (i ≤ b))) vh := by
  by_cases h : a ≤ i <;> simp [Dwhole, d_is_whole, slots, bIsi, isD, tyN, isT, eChain, eb, h]
noncomputable def Dborne : Den := runD 2 (d_is_borne Dwhole)
theorem borne_ok {s : Option Int} {b : Int} {vh : VH} (h : ∀ i, s = some i → 0 ≤ i ∧ i < b) : Dborne [oD s, .int b] vh = .ok (.bl true) vh := by
  cases s with
  | none => simp [Dborne, d_is_borne, slots]
  | some i =>
    obtain ⟨h0, h1⟩ := h i rfl
    have : i ≤ b - 1 := by omega
    simp [Dborne, d_is_borne, slots, oD, ar0_is_whole, whole_ok, h0, this]
@[simp] theorem takes_hold {w : WS} : w.takes.hold = w.hold := by
  unfold WS.takes; split
  · rfl
  · split <;> rfl
@[simp] theorem takes_miss {w : WS} : w.takes.miss = w.miss := by
  unfold WS.takes; split
  · rfl
  · split <;> rfl
@[simp] theorem takes_bound {w : WS} : w.takes.bound = w.bound := by
  unfold WS.takes; split
  · rfl
  · split <;> rfl
@[simp] theorem takes_ll {w : WS} : w.takes.ll = w.ll := by
  unfold WS.takes; split
  · rfl
  · split <;> rfl
@[simp] theorem takes_le {w : WS} : w.takes.le = w.le := by
  unfold WS.takes; split
  · rfl
  · split <;> rfl
@[simp] theorem takes_mark {w : WS} : w.takes.mark = w.mark := by
  unfold WS.takes; split
  · rfl
  · split <;> rfl
@[simp] theorem takes_bears {w : WS} : w.takes.bears = w.bears := by
  unfold WS.takes; split
  · rfl
  · split <;> rfl
@[simp] theorem takes_slot {w : WS} : w.takes.slot = w.slot := by
  unfold WS.takes; split
  · rfl
  · split <;> rfl
@[simp] theorem takes_echoes {w : WS} : w.takes.echoes = w.echoes := by
  unfold WS.takes; split
  · rfl
  · split <;> rfl
@[simp] theorem takes_letters {w : WS} : w.takes.letters = w.letters.tail := by
  unfold WS.takes; split
  · rename_i h; simp [h]
  · rename_i h; split <;> simp [h]
@[simp] theorem hears_hold {w : WS} : w.hears.hold = w.hold := by
  unfold WS.hears; split
  · rfl
  · split
    · split <;> rfl
    · rfl
@[simp] theorem hears_miss {w : WS} : w.hears.miss = w.miss := by
  unfold WS.hears; split
  · rfl
  · split
    · split <;> rfl
    · rfl
@[simp] theorem hears_bound {w : WS} : w.hears.bound = w.bound := by
  unfold WS.hears; split
  · rfl
  · split
    · split <;> rfl
    · rfl
@[simp] theorem hears_ll {w : WS} : w.hears.ll = w.ll := by
  unfold WS.hears; split
  · rfl
  · split
    · split <;> rfl
    · rfl
@[simp] theorem hears_le {w : WS} : w.hears.le = w.le := by
  unfold WS.hears; split
  · rfl
  · split
    · split <;> rfl
    · rfl
@[simp] theorem hears_last {w : WS} : w.hears.last = w.last := by
  unfold WS.hears; split
  · rfl
  · split
    · split <;> rfl
    · rfl
@[simp] theorem hears_took {w : WS} : w.hears.took = w.took := by
  unfold WS.hears; split
  · rfl
  · split
    · split <;> rfl
    · rfl
@[simp] theorem hears_box {w : WS} : w.hears.box = w.box := by
  unfold WS.hears; split
  · rfl
  · split
    · split <;> rfl
    · rfl
@[simp] theorem hears_letters {w : WS} : w.hears.letters = w.letters := by
  unfold WS.hears; split
  · rfl
  · split
    · split <;> rfl
    · rfl
@[simp] theorem hears_echoes {w : WS} : w.hears.echoes = w.echoes.tail := by
  unfold WS.hears; split
  · rename_i h; simp [h]
  · rename_i h; split
    · split <;> simp [h, WS.ends]
    · simp [h]
@[simp] theorem oD_some {i : Int} : oD (some i) = .int i := rfl
def WS.spent (w : WS) (a b : Bool) : WS := { w with ll := (w.lost a b).1, le := (w.lost a b).2 }
def WS.letter (w : WS) : Int × Option Int := (w.mark, if w.bears = 1 then w.slot else none)
def WS.sends (w : WS) (p : Int × Option Int) (q : List (Int × Int)) (a b : Bool) : WS := { w with letters := w.letters ++ (if a then [] else [p]), echoes := w.echoes ++ (if b then [] else q) }
def WS.fills (w : WS) (free : Bool) (word : Option Int) (taken : Option Int) : WS :=
  { w with slot := if free && word.isSome then word else w.slot, box := if taken.isSome then none else w.box }
def WS.beat (w : WS) (word : Option Int) (taking a b : Bool) : WS :=
  ((((w.spent a b).takes.hears).sends w.letter w.told a b).fills w.slot.isNone word (if taking then w.box else none))
def oB : Option Bool → D
  | none => .non
  | some b => .bl b
theorem ite_R {c : Prop} [Decidable c] {x y : EV} {vh : VH} : (if c then R.ok x vh else R.ok y vh) = R.ok (if c then x else y) vh := by split <;> rfl
theorem ite_d {c : Prop} [Decidable c] {x y : D} : (if c then EV.v x else EV.v y) = EV.v (if c then x else y) := by split <;> rfl
theorem ite_o {c : Prop} [Decidable c] {s t : Option Int} : (if c then oD s else oD t) = oD (if c then s else t) := by split <;> rfl
theorem told_spent {w : WS} {a b : Bool} : (w.spent a b).told = w.told := by
  cases h : w.letters with
  | nil => simp [WS.told, WS.spent, h]
  | cons p r => obtain ⟨m, p⟩ := p; simp only [WS.told, WS.spent, WS.takes, h]; split <;> rfl
theorem set_same {vh : VH} {n : Nat} {o o' : O} (h : vh[n]? = some o) (h2 : o = o') : vh = vh.set n o' := by
  subst h2
  obtain ⟨a, b⟩ := List.getElem?_eq_some_iff.mp h
  rw [← b, List.set_getElem_self]
noncomputable def Dbeat : Den := runD 8 (d_Way_beat Dhears Dtakes Dlose Dbear Dborne)
theorem beat_ok {vh : VH} {n l e : Nat} {w : WS} (h : WayAt vh n l e w) (hh : 1 ≤ w.hold) (hr : Rps 3 100000 (w.letters.map pD)) (hk : w.letters.length ≤ 90) (hk2 : w.echoes.length ≤ 90) {word : Option Int} {taking a b : Bool}
    (hw : ∀ i, word = some i → 0 ≤ i ∧ i < w.bound) (h1 : (w.lost a b).1 < w.miss) (h2 : (w.lost a b).2 < w.miss) :
    ∃ vh' l' e', Dbeat [.ref n, oD word, .bl taking, .tup [.bl a, .bl b]] vh = .ok (.tup [oB (word.map fun _ => w.slot.isNone), oD (if taking then w.box else none)]) vh' ∧ Go vh n l e vh' l' e' (w.beat word taking a b) := by
  have l2 : (2 : Nat) ≤ lim := le_lim (by decide)
  have l1 : (1 : Nat) ≤ lim := le_lim (by decide)
  have l0 : (0 : Nat) ≤ lim := le_lim (by decide)
  have e1 := borne_ok (vh := vh) hw
  have e2 := bear_ok h hr h1 h2
  have e3 := lose_ok h (a := a) (b := b) hr
  have hn := ltOf h.at_
  have g1 := h.put (w' := w.spent a b) rfl rfl
  obtain ⟨vh1, ev1⟩ : ∃ v, vh.set n (wO (w.spent a b) l e) = v := ⟨_, rfl⟩
  rw [ev1] at g1
  obtain ⟨vh2, l2', e4, g2⟩ := takes_ok g1.way hr (by show w.letters.length ≤ 100; omega)
  rw [told_spent] at e4
  obtain ⟨vh3, e3', e5, g3⟩ := hears_ok g2.way (by simpa [WS.spent] using hh) (by simp [WS.spent]; omega)
  obtain ⟨w3, ew3⟩ : ∃ v, (w.spent a b).takes.hears = v := ⟨_, rfl⟩
  rw [ew3] at g3
  have kl : w3.letters.length ≤ 100 := by rw [← ew3]; simp [WS.spent]; omega
  have ke : w3.echoes.length ≤ 100 := by rw [← ew3]; simp [WS.spent]; omega
  have kt : w.told.length ≤ 1 := by unfold WS.told; split <;> simp
  have q1 : w3.letters.length + 1 ≤ lim := le_lim (by omega)
  have q1' : w3.letters.length ≤ lim := le_lim (by omega)
  have q2 : w3.echoes.length + w.told.length ≤ lim := le_lim (by omega)
  have q2' : w3.echoes.length ≤ lim := le_lim (by omega)
  have g4 := g3.way.extL (w' := { w3 with letters := w3.letters ++ (if a then [] else [w.letter]) }) rfl rfl
  obtain ⟨vh4, ev4⟩ : ∃ v, vh3.set l2' (.lst ((w3.letters ++ (if a then [] else [w.letter])).map pD)) = v := ⟨_, rfl⟩
  simp only [ev4] at g4
  have g5 := g4.way.extE (w' := w3.sends w.letter w.told a b) rfl rfl
  obtain ⟨vh5, ev5⟩ : ∃ v, vh4.set e3' (.lst ((w3.sends w.letter w.told a b).echoes.map qD)) = v := ⟨_, rfl⟩
  rw [ev5] at g5
  have g6 := g5.way.put (w' := (w3.sends w.letter w.told a b).fills w.slot.isNone word (if taking then w.box else none)) rfl rfl
  have hn5 := ltOf g5.way.at_
  have hbeat : w.beat word taking a b = (w3.sends w.letter w.told a b).fills w.slot.isNone word (if taking then w.box else none) := by rw [← ew3]; rfl
  rw [hbeat]
  refine ⟨_, l2', e3', ?_, ((((g1.trans g2).trans g3).trans g4).trans g5).trans g6⟩
  clear hbeat
  simp only [WS.sends] at ev5
  simp only [WS.spent] at ev1
  have t4 : tyVH "list" vh3 (.ref l2') = true := by simp [tyVH, vw_ref g3.way.lt, tyD]
  have t5 : tyVH "list" vh4 (.ref e3') = true := by simp [tyVH, vw_ref g4.way.ec, tyD]
  cases a <;> cases b <;> simp only [if_true, if_false, List.append_nil, Bool.false_eq_true] at ev4 ev5 <;> cases taking <;> cases word <;> simp only [oD] at e1 <;> cases hs : w.slot <;> cases hx : w.box <;> by_cases hb : w.bears = 1 <;> simp only [hs, hx, hb] at ev1 <;> (try simp [pD, WS.letter, hs, hb] at ev4) <;> (try simp at ev5) <;>
    simp [Dbeat, d_Way_beat, slots, vw_w h.at_, vw_w g1.way.at_, vw_w g2.way.at_, vw_w g3.way.at_, vw_w g4.way.at_, vw_w g5.way.at_, wD_eq, isI, ar0_is_borne, e1, e2, e3, e4, e5, hs, hx, oD_some, oB, WS.spent, WS.fills, WS.sends, ar0_Way_must_bear, ar0_Way_would_lose, ar0_Way_taken_up, ar0_Way_heard, pTup, pLst, l0, l1, l2, dfst_at h.at_, dfst_set hn, vw_set hn, ev1,
      ite_R, ite_d, ite_o, t4, t5, mExtend, ev4, ev5, g3.way.lt, g4.way.ec, q1, q1', q2, q2', hb, dfst_at g5.way.at_, dfst_set hn5, vw_set hn5] <;> first | rfl | exact set_same g5.way.at_ rfl
end PM

namespace PM
open PySem L2
def sD (w : WS) : D := .tup [.int w.mark, .int w.bears, oD w.slot, .tup (w.letters.map pD), .int w.last, .int w.took, oD w.box, .tup (w.echoes.map qD)]
noncomputable def Dstore : Den := runD 2 d_Way_store
theorem store_ok {vh : VH} {n l e : Nat} {w : WS} (h : WayAt vh n l e w) : Dstore [.ref n] vh = .ok (sD w) vh := by
  have l2 : (2 : Nat) ≤ lim := le_lim (by decide)
  have l8 : (8 : Nat) ≤ lim := le_lim (by decide)
  simp [Dstore, d_Way_store, slots, vw_w h.at_, vw_ref h.lt, vw_ref h.ec, pTup, l2, l8, sD]
/-- what put_down makes of a store -/
def WS.puts (w v : WS) : WS := { v with hold := w.hold, miss := w.miss, bound := w.bound, ll := w.ll, le := w.le }
noncomputable def Dput : Den := runD 4 d_Way_put_down
@[simp] theorem b_lstT {xs : List D} : bLst (.tup xs) = some (.f (.lst xs)) := rfl
theorem put_gen {vh : VH} {n : Nat} {v w' : WS} {o0 o1 o2 o3 o4 o5 o6 : O} {o7 : Nat → O} (h : vh[n]? = some o0) (h1 : ofld faT "mark" (.int v.mark) o0 = some o1) (h2 : ofld faT "bears" (.int v.bears) o1 = some o2) (h3 : ofld faT "slot" (oD v.slot) o2 = some o3)
    (h4 : ofld faT "last" (.int v.last) o3 = some o4) (h5 : ofld faT "took" (.int v.took) o4 = some o5) (h6 : ofld faT "box" (oD v.box) o5 = some o6) (h7 : ∀ j, ofld faT "letters" (.ref j) o6 = some (o7 j)) (h8 : ∀ j k, ofld faT "echoes" (.ref k) (o7 j) = some (wO w' j k)) :
    ∃ vh', Dput [.ref n, sD v] vh = .ok .non vh' ∧ vh'[n]? = some (wO w' vh.length (vh.length + 1)) ∧ vh'[vh.length]? = some (.lst (v.letters.map pD)) ∧ vh'[vh.length + 1]? = some (.lst (v.echoes.map qD)) ∧ vh'.length = vh.length + 2 ∧ ∀ j < vh.length, j ≠ n → vh'[j]? = vh[j]? := by
  have hn := ltOf h
  obtain ⟨vh1, e1⟩ : ∃ x, vh.set n o6 = x := ⟨_, rfl⟩
  have k1 : vh1[n]? = some o6 := by rw [← e1]; simp [hn]
  have l1 : vh1.length = vh.length := by rw [← e1]; simp
  have hn1 : n < vh1.length := by omega
  obtain ⟨vh2, e2⟩ : ∃ x, vh1 ++ [O.lst (v.letters.map pD)] = x := ⟨_, rfl⟩
  have k2 : vh2[n]? = some o6 := by rw [← e2, List.getElem?_append_left hn1]; exact k1
  have m2 : vh2[vh.length]? = some (.lst (v.letters.map pD)) := by rw [← e2, ← l1]; simp
  have l2 : vh2.length = vh.length + 1 := by rw [← e2]; simp [l1]
  have hn2 : n < vh2.length := by omega
  obtain ⟨vh3, e3⟩ : ∃ x, vh2.set n (o7 vh.length) = x := ⟨_, rfl⟩
  have k3 : vh3[n]? = some (o7 vh.length) := by rw [← e3]; simp [hn2]
  have l3 : vh3.length = vh.length + 1 := by rw [← e3]; simp [l2]
  obtain ⟨vh4, e4⟩ : ∃ x, vh3 ++ [O.lst (v.echoes.map qD)] = x := ⟨_, rfl⟩
  have k4 : vh4[n]? = some (o7 vh.length) := by rw [← e4, List.getElem?_append_left (by omega)]; exact k3
  have l4 : vh4.length = vh.length + 2 := by rw [← e4]; simp [l3]
  have hn4 : n < vh4.length := by omega
  refine ⟨vh4.set n (wO w' vh.length (vh.length + 1)), ?_, by simp [hn4], ?_, ?_, by simp [l4], fun j hj hne => ?_⟩
  · simp [Dput, d_Way_put_down, slots, sD, dfst_at h, dfst_set hn, h1, h2, h3, h4, h5, h6, e1, e2, dfst_at k2 (h7 _), l1, e3, e4, l3, dfst_at k4 (h8 _ _)]
  · rw [List.getElem?_set_ne (by omega), ← e4, List.getElem?_append_left (by omega), ← e3, List.getElem?_set_ne (by omega)]; exact m2
  · rw [List.getElem?_set_ne (by omega), ← e4, ← l3]; simp
  · rw [List.getElem?_set_ne (by omega), ← e4, List.getElem?_append_left (by omega), ← e3, List.getElem?_set_ne (by omega), ← e2, List.getElem?_append_left (by omega), ← e1, List.getElem?_set_ne (by omega)]
theorem put_ok {vh : VH} {n l e : Nat} {w v : WS} (h : WayAt vh n l e w) : ∃ vh', Dput [.ref n, sD v] vh = .ok .non vh' ∧ Go vh n l e vh' vh.length (vh.length + 1) (w.puts v) := by
  obtain ⟨vh', a, b, c, d, f, g⟩ := put_gen (v := v) (w' := w.puts v) h.at_ p_mark p_bears p_slot p_last p_took p_box (fun j => p_letters) (fun j k => p_echoes)
  exact ⟨vh', a, ⟨b, c, d, by omega⟩, by omega, fun j h1 h2 _ _ => g j h1 h2, .inr (Nat.le_refl _), .inr (by omega)⟩
def o5 (w : WS) : O := .ins 0 [("hold", .int w.hold), ("miss", .int w.miss), ("bound", .int w.bound), ("lost_letters", .int 0), ("lost_echoes", .int 0)]
def WS.fresh (h m b : Int) : WS := ⟨h, m, b, 0, 0, 0, 0, none, 0, 0, none, [], []⟩
noncomputable def Dinit : Den := runD 7 (d_Way___init__ Dput Dwhole)
theorem init_ok {vh : VH} {n : Nat} {h m b : Int} (hv : vh[n]? = some (.ins 0 [])) (h0 : 1 ≤ h) (h1 : h ≤ 6) (m0 : 1 ≤ m) (m1 : m ≤ 4) (b0 : 1 ≤ b) (b1 : b ≤ 40) :
    ∃ vh', Dinit [.ref n, .int h, .int m, .int b] vh = .ok .non vh' ∧ WayAt vh' n vh.length (vh.length + 1) (WS.fresh h m b) ∧ vh.length ≤ vh'.length ∧ ∀ j < vh.length, j ≠ n → vh'[j]? = vh[j]? := by
  have hn := ltOf hv
  have l3 : (3 : Nat) ≤ lim := le_lim (by decide)
  obtain ⟨vh1, e1⟩ : ∃ x, vh.set n (o5 (WS.fresh h m b)) = x := ⟨_, rfl⟩
  have k1 : vh1[n]? = some (o5 (WS.fresh h m b)) := by rw [← e1]; simp [hn]
  have n1 : vh1.length = vh.length := by rw [← e1]; simp
  obtain ⟨vh', a, b', c, d, f, g⟩ := put_gen (v := WS.fresh h m b) (w' := WS.fresh h m b) k1 (by simp [ofld, o5, faT, fp_eq, fput]; rfl) (by simp [ofld, faT, fp_eq, fput]; rfl) (by simp [ofld, faT, fp_eq, fput]; rfl) (by simp [ofld, faT, fp_eq, fput]; rfl)
    (by simp [ofld, faT, fp_eq, fput]; rfl) (by simp [ofld, faT, fp_eq, fput]; rfl) (fun j => by simp [ofld, faT, fp_eq, fput]; rfl) (fun j k => by simp [ofld, faT, fp_eq, fput]; rfl)
  rw [n1] at b' c d f g
  have q1 : ofld faT "hold" (.int h) (.ins 0 []) = some (.ins 0 [("hold", .int h)]) := by simp [ofld, faT, fp_eq, fput]
  have q2 : ofld faT "miss" (.int m) (.ins 0 [("hold", .int h)]) = some (.ins 0 [("hold", .int h), ("miss", .int m)]) := by simp [ofld, faT, fp_eq, fput]
  have q3 : ofld faT "bound" (.int b) (.ins 0 [("hold", .int h), ("miss", .int m)]) = some (.ins 0 [("hold", .int h), ("miss", .int m), ("bound", .int b)]) := by simp [ofld, faT, fp_eq, fput]
  have q4 : ofld faT "lost_letters" (.int 0) (.ins 0 [("hold", .int h), ("miss", .int m), ("bound", .int b)]) = some (.ins 0 [("hold", .int h), ("miss", .int m), ("bound", .int b), ("lost_letters", .int 0)]) := by simp [ofld, faT, fp_eq, fput]
  have q5 : ofld faT "lost_echoes" (.int 0) (.ins 0 [("hold", .int h), ("miss", .int m), ("bound", .int b), ("lost_letters", .int 0)]) = some (.ins 0 [("hold", .int h), ("miss", .int m), ("bound", .int b), ("lost_letters", .int 0), ("lost_echoes", .int 0)]) := by simp [ofld, faT, fp_eq, fput]
  have e1' : vh.set n (.ins 0 [("hold", .int h), ("miss", .int m), ("bound", .int b), ("lost_letters", .int 0), ("lost_echoes", .int 0)]) = vh1 := e1
  have ha : Dput [.ref n, gv_FIRST] vh1 = .ok .non vh' := a
  have hp : isIns 0 "put_down" (O.ins 0 [("hold", .int h), ("miss", .int m), ("bound", .int b), ("lost_letters", .int 0), ("lost_echoes", .int 0)]).toD = true := by simp [isIns, O.toD, fg_eq, fget]
  have hvw : view vh1 (.ref n) = (O.ins 0 [("hold", .int h), ("miss", .int m), ("bound", .int b), ("lost_letters", .int 0), ("lost_echoes", .int 0)]).toD := vw_ref k1
  refine ⟨vh', ?_, ⟨b', c, d, by omega⟩, by omega, fun j hj hne => ?_⟩
  · simp [Dinit, d_Way___init__, d_Way___init___L1, slots, pTup, l3, sLoop, ar0_is_whole, whole_ok, h0, h1, m0, m1, b0, b1, dfst_at hv q1, dfst_set hn q2, dfst_set hn q3, dfst_set hn q4, dfst_set hn q5, sAsg2, e1', ha, hp, hvw, ar0_Way_put_down]
  · rw [g j hj hne, ← e1, List.getElem?_set_ne (Ne.symm hne)]
end PM

namespace PM
open PySem L2
def InB (b : Int) (s : Option Int) : Prop := ∀ i, s = some i → 0 ≤ i ∧ i < b
structure Okay (v : WS) (hold bound : Int) : Prop where
  mk0 : 0 ≤ v.mark
  mk1 : v.mark ≤ 2 * hold
  la0 : 0 ≤ v.last
  la1 : v.last ≤ 2 * hold
  be : v.bears = 0 ∨ v.bears = 1
  tk : v.took = 0 ∨ v.took = 1
  sl : InB bound v.slot
  bx : InB bound v.box
  ll : v.letters.length ≤ hold
  el : v.echoes.length ≤ hold
  lt : ∀ p ∈ v.letters, 0 ≤ p.1 ∧ p.1 ≤ 2 * hold ∧ InB bound p.2
  ec : ∀ p ∈ v.echoes, 0 ≤ p.1 ∧ p.1 ≤ 2 * hold ∧ (p.2 = 0 ∨ p.2 = 1)
noncomputable abbrev FS (φ : Den → Den → α) : α := φ Dborne Dwhole
theorem all_true : ∀ l : List D, bAll (.lst (l.map fun _ => D.bl true)) = some (.v (.bl true)) := by
  intro l
  have : ∀ l : List D, blsOf (l.map fun _ => D.bl true) = some (l.map fun _ => true) := by
    intro l; induction l with
    | nil => rfl
    | cons d l ih => simp [blsOf, ih]
  simp [bAll, this]
theorem whole_t {i a b : Int} {vh : VH} (h0 : a ≤ i) (h1 : i ≤ b) : Dwhole [.int i, .int a, .int b] vh = .ok (.bl true) vh := by rw [whole_ok]; simp [h0, h1]
section
variable {vh : VH} {sl : Sl} {hold bound : Int}
theorem lc4 (h : sl.length = 18) {items acc : List D} (hl : acc.length + items.length ≤ lim) : lcLoop none (gNm 14) tYesF (FS d_is_store_E4) sl items acc vh = .ok (acc ++ items) vh := by
  have := lcLoop_map (γ := gNm 14) (φ := FS d_is_store_E4) (sl := sl) (vh := vh) (f := id) (items := items) (acc := acc) hl fun d hd => ⟨_, _, rfl, by simp [d_is_store_E4, h]; rfl, rfl⟩
  simpa using this
theorem lc3 (h : sl.length = 18) (h1 : sl[1]? = some (some (.int hold))) {items : List D} (hl : items.length ≤ lim) (hi : ∀ d ∈ items, ∃ m x, d = .tup [.int m, x] ∧ 0 ≤ m ∧ m ≤ 2 * hold) : lcLoop none (gNm 14) tYesF (FS d_is_store_E3) sl items [] vh = .ok (items.map fun _ => .bl true) vh := by
  have := lcLoop_map (γ := gNm 14) (φ := FS d_is_store_E3) (sl := sl) (vh := vh) (f := fun _ => .bl true) (items := items) (acc := []) (by simpa using hl) fun d hd => by
    obtain ⟨m, x, rfl, m0, m1⟩ := hi d hd
    refine ⟨_, .v (.bl true), rfl, ?_, rfl⟩
    have g14 : ∀ x, (sl.set 14 x)[14]? = some x := fun x => by simp [h]
    simp [d_is_store_E3, g14, h1, bIsi, isD, tyN, isT, ar0_is_whole, whole_t m0 m1, o_mul (mulOk_l (i := 2) (j := hold) (by decide))]
  simpa using this
theorem lcA (h : sl.length = 18) (h1 : sl[2]? = some (some (.int bound))) {items : List (Int × Option Int)} (hl : items.length ≤ lim) (hi : ∀ p ∈ items, InB bound p.2) :
    lcLoop none (gUnp 2 (gsCons (gNm 15) (gsCons (gNm 16) gsNil))) tYesF (FS d_is_store_E1) sl (items.map pD) [] vh = .ok ((items.map pD).map fun _ => .bl true) vh := by
  have := lcLoop_map (γ := gUnp 2 (gsCons (gNm 15) (gsCons (gNm 16) gsNil))) (φ := FS d_is_store_E1) (sl := sl) (vh := vh) (f := fun _ => .bl true) (items := items.map pD) (acc := []) (by simpa using hl) fun d hd => by
    obtain ⟨p, hp, rfl⟩ := List.mem_map.mp hd
    refine ⟨(sl.set 15 (some (.int p.1))).set 16 (some (oD p.2)), .v (.bl true), by simp [pD], ?_, rfl⟩
    have g16 : ∀ x y, ((sl.set 15 x).set 16 y)[16]? = some y := fun x y => by simp [h]
    simp [d_is_store_E1, g16, h1, ar0_is_borne, borne_ok (hi p hp)]
  simpa using this
theorem lcB (h : sl.length = 18) {items : List (Int × Int)} (hl : items.length ≤ lim) (hi : ∀ p ∈ items, p.2 = 0 ∨ p.2 = 1) :
    lcLoop none (gUnp 2 (gsCons (gNm 15) (gsCons (gNm 17) gsNil))) tYesF (FS d_is_store_E2) sl (items.map qD) [] vh = .ok ((items.map qD).map fun _ => .bl true) vh := by
  have := lcLoop_map (γ := gUnp 2 (gsCons (gNm 15) (gsCons (gNm 17) gsNil))) (φ := FS d_is_store_E2) (sl := sl) (vh := vh) (f := fun _ => .bl true) (items := items.map qD) (acc := []) (by simpa using hl) fun d hd => by
    obtain ⟨p, hp, rfl⟩ := List.mem_map.mp hd
    refine ⟨(sl.set 15 (some (.int p.1))).set 17 (some (.int p.2)), .v (.bl true), by simp [qD], ?_, rfl⟩
    have := hi p hp
    simp [d_is_store_E2, h, ar0_is_whole, whole_t (i := p.2) (a := 0) (b := 1) (by omega) (by omega)]
  simpa using this
end
noncomputable def Dis : Den := runD 18 (FS d_is_store)
theorem isst_ok {v : WS} {hold bound : Int} {vh : VH} (k : Okay v hold bound) (hh : hold ≤ 6) : Dis [sD v, .int hold, .int bound] vh = .ok (.bl true) vh := by
  have l2 : (2 : Nat) ≤ lim := le_lim (by decide)
  have l4 : (4 : Nat) ≤ lim := le_lim (by decide)
  have k1 := k.ll
  have k2 := k.el
  have b1 : v.letters.length ≤ lim := le_lim (by omega)
  have b2 : v.echoes.length ≤ lim := le_lim (by omega)
  have b3 : v.letters.length + v.echoes.length ≤ lim := le_lim (by omega)
  have e1 := whole_t (vh := vh) k.mk0 k.mk1
  have e2 := whole_t (vh := vh) k.la0 k.la1
  have e3 := whole_t (vh := vh) (i := v.bears) (a := 0) (b := 1) (by have := k.be; omega) (by have := k.be; omega)
  have e4 := whole_t (vh := vh) (i := v.took) (a := 0) (b := 1) (by have := k.tk; omega) (by have := k.tk; omega)
  have e5 := borne_ok (vh := vh) k.sl
  have e6 := borne_ok (vh := vh) k.bx
  have m2 := o_mul (mulOk_l (i := 2) (j := hold) (by decide))
  have c3 : ∀ sl : Sl, sl.length = 18 → sl[1]? = some (some (.int hold)) → lcLoop none (gNm 14) tYesF (FS d_is_store_E3) sl (v.letters.map pD ++ v.echoes.map qD) [] vh = .ok ((v.letters.map pD ++ v.echoes.map qD).map fun _ => .bl true) vh := fun sl h h1 => lc3 h h1 (by simpa using b3) (fun d hd => by
    rcases List.mem_append.mp hd with hd | hd
    · obtain ⟨p, hp, rfl⟩ := List.mem_map.mp hd
      obtain ⟨a, b, _⟩ := k.lt p hp
      exact ⟨_, _, rfl, a, b⟩
    · obtain ⟨p, hp, rfl⟩ := List.mem_map.mp hd
      obtain ⟨a, b, _⟩ := k.ec p hp
      exact ⟨_, _, rfl, a, b⟩)
  have c1 : ∀ sl : Sl, sl.length = 18 → sl[2]? = some (some (.int bound)) → _ := fun sl h h1 => lcA (vh := vh) (sl := sl) h h1 (items := v.letters) b1 (fun p hp => (k.lt p hp).2.2)
  have c2 : ∀ sl : Sl, sl.length = 18 → _ := fun sl h => lcB (vh := vh) (sl := sl) h (items := v.echoes) b2 (fun p hp => (k.ec p hp).2.2)
  have c4 : ∀ (sl : Sl) (items acc : List D), sl.length = 18 → acc.length + items.length ≤ lim → _ := fun sl items acc h hl => lc4 (vh := vh) (sl := sl) h (items := items) (acc := acc) hl
  simp only [FS] at c1 c2 c3 c4
  have a3 := all_true (v.letters.map pD ++ v.echoes.map qD)
  rw [List.map_append] at a3
  simp only [List.map_map] at a3
  have bl4 : bAll (.lst [.bl true, .bl true, .bl true, .bl true]) = some (.v (.bl true)) := rfl
  have bl2 : bAll (.lst [.bl true, .bl true]) = some (.v (.bl true)) := rfl
  have n0 : 0 < lim := by omega
  have n1 : 1 < lim := by omega
  simp [Dis, FS, d_is_store, slots, sD, bIsi, isD, tyN, isT, ar0_is_whole, ar0_is_borne, m2, e1, e2, e3, e4, e5, e6, pTup, l2, l4, lcLoop, wipeS, d_is_store_E6, d_is_store_E7, bl4, bl2, n0, n1, d_is_store_E5, k1, k2, eLc2, lc2Loop, c1, c2, c3, c4, a3, b1, b2, b3]
noncomputable def Dspoil : Den := runD 2 (d_Way_spoil Dput Dis)
theorem spoil_ok {vh : VH} {n l e : Nat} {w v : WS} (h : WayAt vh n l e w) (k : Okay v w.hold w.bound) (hh : w.hold ≤ 6) :
    ∃ vh', Dspoil [.ref n, sD v] vh = .ok .non vh' ∧ Go vh n l e vh' vh.length (vh.length + 1) { w.puts v with ll := 0, le := 0 } := by
  have e1 := isst_ok (vh := vh) k hh
  obtain ⟨vh1, e2, g⟩ := put_ok (v := v) h
  have hn := ltOf g.way.at_
  have vsd : ∀ vh, view vh (sD v) = sD v := fun vh => rfl
  refine ⟨_, ?_, g.trans (g.way.put rfl rfl)⟩
  simp [Dspoil, d_Way_spoil, slots, vw_w h.at_, vw_w g.way.at_, ar0_is_store, e1, e2, isI, ar0_Way_put_down, sAsg2, dfst_at g.way.at_, dfst_set hn]
end PM

namespace PM
open PySem L2
def BagAt (vh : VH) (n b : Nat) : Prop := ∃ x y z : Int, vh[n]? = some (.lst [.int x, .int y, .int z]) ∧ 0 ≤ x ∧ 0 ≤ y ∧ y < 2 ^ 70 ∧ 0 ≤ z ∧ z + b ≤ 2 ^ 40
/-- the bag at n has b draws left, all else is as in vh0 -/
def BG (vh0 : VH) (vh : VH) (n b : Nat) : Prop := BagAt vh n b ∧ vh.length = vh0.length ∧ ∀ k, k ≠ n → vh[k]? = vh0[k]?
theorem BagAt.mono {vh : VH} {n b c : Nat} (h : BagAt vh n c) (hb : b ≤ c) : BagAt vh n b := by
  obtain ⟨x, y, z, a1, a2, a3, a4, a5, a6⟩ := h
  exact ⟨x, y, z, a1, a2, a3, a4, a5, by omega⟩
theorem BagAt.app {vh : VH} {n b : Nat} {l : VH} (h : BagAt vh n b) : BagAt (vh ++ l) n b := by
  obtain ⟨x, y, z, e, r⟩ := h
  exact ⟨x, y, z, by rw [List.getElem?_append_left (List.getElem?_eq_some_iff.mp e).1]; exact e, r⟩
theorem BagAt.set {vh : VH} {n b i : Nat} {o : O} (h : BagAt vh n b) (hi : i ≠ n) : BagAt (vh.set i o) n b := by
  obtain ⟨x, y, z, e, r⟩ := h
  exact ⟨x, y, z, by rw [List.getElem?_set_ne hi]; exact e, r⟩
theorem BagAt.lt {vh : VH} {n b : Nat} (h : BagAt vh n b) : n < vh.length := by
  obtain ⟨x, y, z, e, r⟩ := h
  exact (List.getElem?_eq_some_iff.mp e).1
theorem BG.mono {vh0 vh : VH} {n b c : Nat} (h : BG vh0 vh n c) (hb : b ≤ c) : BG vh0 vh n b := ⟨h.1.mono hb, h.2⟩
theorem BG.of {vh : VH} {n b : Nat} (h : BagAt vh n b) : BG vh vh n b := ⟨h, rfl, fun _ _ => rfl⟩
abbrev primesD : List D := [.int 2147483647, .int 2147483629, .int 2147483587, .int 2147483579, .int 2147483563, .int 2147483549, .int 2147483543]
theorem prime_at (z : Int) : ∃ p : Int, atI primesD (z % 7) = some (D.int p) ∧ 2147483543 ≤ p ∧ p ≤ 2147483647 := by
  have : z % 7 = 0 ∨ z % 7 = 1 ∨ z % 7 = 2 ∨ z % 7 = 3 ∨ z % 7 = 4 ∨ z % 7 = 5 ∨ z % 7 = 6 := by omega
  rcases this with h | h | h | h | h | h | h <;> rw [h] <;> exact ⟨_, rfl, by decide, by decide⟩
noncomputable def Dtake : Den := runD 7 d__law_take
theorem take_ok {n b : Nat} {vh0 vh : VH} {m : Int} (h : BG vh0 vh n (b + 1)) (h0 : 0 < m) (h1 : m < 2 ^ 60) : ∃ r vh', Dtake [.ref n, .int m] vh = .ok (.int r) vh' ∧ 0 ≤ r ∧ r < m ∧ BG vh0 vh' n b := by
  obtain ⟨⟨x, y, z, hv, x0, y0, y1, z0, z1⟩, hlen, hfr⟩ := h
  have hl : n < vh.length := (List.getElem?_eq_some_iff.mp hv).1
  have hd : divOk m = true := divOk_of (k := 60) h0 (by omega) (by omega)
  by_cases hx : 0 < x
  · refine ⟨x % m, vh.set n (.lst [.int (x / m), .int y, .int z]), ?_, Int.emod_nonneg _ (by omega), Int.emod_lt_of_pos _ h0, ⟨x / m, y, z, ?_, Int.ediv_nonneg x0 (by omega), y0, y1, z0, by omega⟩, by simpa using hlen, fun k hk => by rw [List.getElem?_set_ne (Ne.symm hk)]; exact hfr k hk⟩
    · simp [Dtake, d__law_take, slots, vw_ref hv, atI, ixN, hx, o_mod h0, o_div hd, dstore, hv, ostore]
    · simp [hl]
  · have ex : x = 0 := by omega
    subst ex
    obtain ⟨p, hp, p0, p1⟩ := prime_at (z + 1)
    obtain ⟨q, hq, q0, q1⟩ := prime_at (z + 1 + 4)
    obtain ⟨vh2, ev⟩ : ∃ v, List.set vh n (O.lst [D.int 0, D.int y, D.int (z + 1)]) = v := ⟨_, rfl⟩
    have hv2 : vh2[n]? = some (.lst [.int 0, .int y, .int (z + 1)]) := by rw [← ev]; simp [hl]
    have hb : 0 ≤ y * (2 * (z + 1) + 1) + 4523 * (z + 1) * (z + 1) + 31 ∧ y * (2 * (z + 1) + 1) + 4523 * (z + 1) * (z + 1) + 31 < 2 ^ 200 := by
      have a1 : y * (2 * (z + 1) + 1) ≤ 2 ^ 70 * 2 ^ 44 := Int.mul_le_mul (by omega) (by omega) (by omega) (by decide)
      have a2 : 4523 * (z + 1) * (z + 1) ≤ 2 ^ 60 * 2 ^ 43 := Int.mul_le_mul (by omega) (by omega) (by omega) (by decide)
      have a3 : 0 ≤ y * (2 * (z + 1) + 1) := Int.mul_nonneg y0 (by omega)
      have a4 : 0 ≤ 4523 * (z + 1) * (z + 1) := Int.mul_nonneg (by omega) (by omega)
      omega
    obtain ⟨hb0, hb1⟩ := hb
    generalize hB : y * (2 * (z + 1) + 1) + 4523 * (z + 1) * (z + 1) + 31 = B at hb0 hb1
    have pw : powOk B 3 = true := powOk_of (k := 200) (by omega) (by omega) (by omega) (by omega)
    have m0 := Int.emod_nonneg (B ^ 3) (show p ≠ 0 by omega)
    have m1 := Int.emod_lt_of_pos (B ^ 3) (show 0 < p by omega)
    refine ⟨B ^ 3 % p * (B ^ 3 % p / 4096 + 3 * (z + 1) + 1) % q / 16 % m, vh2, ?_, Int.emod_nonneg _ (by omega), Int.emod_lt_of_pos _ h0, ⟨0, y, z + 1, hv2, by omega, y0, y1, by omega, by omega⟩, by rw [← ev]; simpa using hlen, fun k hk => by rw [← ev, List.getElem?_set_ne (Ne.symm hk)]; exact hfr k hk⟩
    have k1 : mulOk y (2 * (z + 1) + 1) = true := mulOk_r (by omega)
    have k2 : mulOk 2 (z + 1) = true := mulOk_l (by decide)
    have k2' : mulOk 3 (z + 1) = true := mulOk_l (by decide)
    have k3 : mulOk 4523 (z + 1) = true := mulOk_l (by decide)
    have k4 : mulOk (4523 * (z + 1)) (z + 1) = true := mulOk_r (by omega)
    have k6 : mulOk (B ^ 3 % p) (B ^ 3 % p / 4096 + 3 * (z + 1) + 1) = true := mulOk_l (by omega)
    have l7 : (7 : Nat) ≤ lim := le_lim (by decide)
    have e2 : view vh2 (.ref n) = .lst [.int 0, .int y, .int (z + 1)] := vw_ref hv2
    have a0 : ∀ a b c : D, atI [a, b, c] 0 = some a := fun _ _ _ => rfl
    have a1 : ∀ a b c : D, atI [a, b, c] 1 = some b := fun _ _ _ => rfl
    have a2 : ∀ a b c : D, atI [a, b, c] 2 = some c := fun _ _ _ => rfl
    have i2 : ixN 3 2 = some 2 := rfl
    have o7 : ∀ i : Int, opMod (.int i) (.int 7) = some (.v (.int (i % 7))) := fun i => o_mod (by decide)
    have o8 : ∀ i : Int, opDiv (.int i) (.int 16) = some (.v (.int (i / 16))) := fun i => o_div (divOk_of (k := 20) (by decide) (by decide) (by decide))
    have o9 : ∀ i : Int, opDiv (.int i) (.int 4096) = some (.v (.int (i / 4096))) := fun i => o_div (divOk_of (k := 20) (by decide) (by decide) (by decide))
    have op : ∀ i : Int, opMod (.int i) (.int p) = some (.v (.int (i % p))) := fun i => o_mod (by omega)
    have oq : ∀ i : Int, opMod (.int i) (.int q) = some (.v (.int (i % q))) := fun i => o_mod (by omega)
    simp [Dtake, d__law_take, slots, vw_ref hv, a0, a1, a2, i2, dstore, hv, ostore, pTup, l7, e2, ev, o_mul k1, o_mul k2, o_mul k2', o_mul k3, o_mul k4, o_mul k6, hB, o_pow pw, hp, hq, o7, o8, o9, op, oq, o_mod h0]

theorem bag_key (c : Int) {i : Nat} (hi : i < 100) : 0 ≤ (if c < 0 then -c else c) * (if 1000000000000000000 ≤ (if c < 0 then -c else c) then 1 else 0) ∧
    0 ≤ c % 1000000000000000003 + 4019 * i * i + 23 * i + 17 ∧ c % 1000000000000000003 + 4019 * i * i + 23 * i + 17 < 2 ^ 70 := by
  refine ⟨?_, ?_, ?_⟩
  · refine Int.mul_nonneg (by split <;> omega) (by split <;> omega)
  · have a := Int.emod_nonneg c (show (1000000000000000003 : Int) ≠ 0 by decide)
    have b : (0 : Int) ≤ 4019 * i * i := Int.mul_nonneg (by omega) (by omega)
    omega
  · have a := Int.emod_lt_of_pos c (show (0 : Int) < 1000000000000000003 by decide)
    have b : (4019 : Int) * i * i ≤ 1000000 * 100 := Int.mul_le_mul (by omega) (by omega) (by omega) (by omega)
    omega
noncomputable def Dbag : Den := runD 4 d__law_bag
theorem bag_ok {ns : List Int} {i : Nat} {vh : VH} (hi : i < 100) : ∃ o, Dbag [.scr ns, .int i] vh = .ok (.ref vh.length) (vh ++ [o]) ∧ BagAt (vh ++ [o]) vh.length (2 ^ 40) := by
  have fin : ∀ c : Int, BagAt (vh ++ [O.lst [.int ((if c < 0 then -c else c) * (if 1000000000000000000 ≤ (if c < 0 then -c else c) then 1 else 0)), .int (c % 1000000000000000003 + 4019 * i * i + 23 * i + 17), .int 0]]) vh.length (2 ^ 40) := by
    intro c
    obtain ⟨a, b, d⟩ := bag_key c hi
    exact ⟨_, _, 0, by simp, a, b, d, by omega, by omega⟩
  have k1 : ∀ c : Int, mulOk (if c < 0 then -c else c) (if 1000000000000000000 ≤ (if c < 0 then -c else c) then 1 else 0) = true := fun c => mulOk_r (by generalize (if c < 0 then -c else c) = z; split <;> decide)
  have k2 : mulOk 4019 i = true := mulOk_l (by decide)
  have k3 : mulOk (4019 * i) i = true := mulOk_r (by omega)
  have k4 : mulOk 23 i = true := mulOk_l (by decide)
  have k0 : mulOk 0 i = true := mulOk_l (by decide)
  have k5 : powOk 10 18 = true := powOk_of (k := 10) (by decide) (by decide) (by decide) (by decide)
  have k6 : ∀ c : Int, opMod (.int c) (.int 1000000000000000003) = some (.v (.int (c % 1000000000000000003))) := fun c => o_mod (by decide)
  have l3 : (3 : Nat) ≤ lim := le_lim (by decide)
  by_cases h : i < ns.length
  · refine ⟨_, ?_, fin ns[i]⟩
    have e : pIx (.scr ns) (.int i) = some (.v (.int ns[i])) := by simp [pIx, atI_nat (i := (i : Int)) rfl h, h]
    simp [Dbag, d__law_bag, slots, h, e, o_mul k0, o_mul (k1 _), o_mul k2, o_mul k3, o_mul k4, o_pow k5, k6, pLst, l3]
  · have f0 := fin 0
    have m0 : opMul (.int 0) (.int 0) = some (.v (.int 0)) := o_mul (mulOk_l (by decide))
    simp at f0
    refine ⟨_, ?_, f0⟩
    simp [Dbag, d__law_bag, slots, h, o_mul k0, m0, o_mul k2, o_mul k3, o_mul k4, o_pow k5, k6, pLst, l3]
end PM

namespace PM
open PySem L2
theorem BG.at_ {vh0 vh : VH} {n b j : Nat} {o : O} (h : BG vh0 vh n b) (hj : j ≠ n) (e : vh0[j]? = some o) : vh[j]? = some o := by rw [h.2.2 j hj]; exact e
end PM

namespace PM
open PySem L2
theorem word_ok {sl : Sl} {b k : Nat} {top : Int} {vh0 vh : VH} (h0 : sl[0]? = some (some (.ref b))) (h2 : sl[2]? = some (some (.int top))) (h : BG vh0 vh b (k + 2)) (t0 : 1 ≤ top) (t1 : top ≤ 40) :
    ∃ s vh', d__law_store_E1 Dtake sl vh = .ok (.v (oD s)) vh' ∧ InB top s ∧ BG vh0 vh' b k := by
  have l2 : (2 : Nat) ≤ lim := le_lim (by decide)
  obtain ⟨r, vh1, e1, r0, r1, g1⟩ := take_ok (m := top) h (by omega) (by omega)
  obtain ⟨q, vh2, e2, q0, q1, g2⟩ := take_ok (m := 2) g1 (by omega) (by omega)
  have : q = 0 ∨ q = 1 := by omega
  rcases this with rfl | rfl
  · exact ⟨none, vh2, by simp [d__law_store_E1, h0, h2, ar0__law_take, e1, e2, pLst, l2], (fun i hi => by cases hi), g2⟩
  · exact ⟨some r, vh2, by simp [d__law_store_E1, h0, h2, ar0__law_take, e1, e2, pLst, l2], (fun i hi => by cases hi; exact ⟨r0, r1⟩), g2⟩
theorem L1_eq : d__law_store_L1 Dtake = sDrop (eM "list" mAppend (eVar 4) (aCons (eA pTup (aCons (dCall ar0__law_take Dtake (aCons (eVar 0) (aCons (eVar 3) aNil))) (aCons (d__law_store_E1 Dtake) aNil))) aNil)) := rfl
theorem stL1_ok {sl : Sl} {b m k : Nat} {top mg : Int} {vh : VH} {xs : List D} (h0 : sl[0]? = some (some (.ref b))) (h2 : sl[2]? = some (some (.int top))) (h3 : sl[3]? = some (some (.int mg))) (h4 : sl[4]? = some (some (.ref m)))
    (h : BagAt vh b (k + 3)) (hm : vh[m]? = some (.lst xs)) (hmb : m ≠ b) (hx : xs.length ≤ 100) (t0 : 1 ≤ top) (t1 : top ≤ 40) (g0 : 1 ≤ mg) (g1 : mg ≤ 13) :
    ∃ p vh', d__law_store_L1 Dtake sl vh = .nx sl vh' ∧ BagAt vh' b k ∧ vh'[m]? = some (.lst (xs ++ [pD p])) ∧ (0 ≤ p.1 ∧ p.1 < mg ∧ InB top p.2) ∧ vh'.length = vh.length ∧ ∀ j, j ≠ b → j ≠ m → vh'[j]? = vh[j]? := by
  have l2 : (2 : Nat) ≤ lim := le_lim (by decide)
  have lx : xs.length + 1 ≤ lim := le_lim (by omega)
  have lx' : xs.length < lim := lx
  obtain ⟨r, vh1, e1, r0, r1, a1⟩ := take_ok (m := mg) (BG.of h) (by omega) (by omega)
  obtain ⟨s, vh2, e2, s0, a2⟩ := word_ok h0 h2 a1 t0 t1
  have hm2 : vh2[m]? = some (.lst xs) := a2.at_ hmb hm
  have hl := ltOf hm2
  have ty : tyVH "list" vh (.ref m) = true := by simp [tyVH, vw_ref hm, tyD]
  refine ⟨(r, s), vh2.set m (.lst (xs ++ [pD (r, s)])), ?_, a2.1.set hmb, by simp [hl], ⟨r0, r1, s0⟩, by simpa using a2.2.1, fun j h1 h2 => by rw [List.getElem?_set_ne (Ne.symm h2)]; exact a2.2.2 j h1⟩
  rw [L1_eq]
  simp [h0, h3, h4, ar0__law_take, e1, e2, pTup, l2, ty, mAppend, hm2, lx', pD]
noncomputable def Dlstore : Den := runD 9 (d__law_store Dtake)
/-- at most i of the letters drawn -/
theorem lets_ok {r : Nat} {b m k : Nat} {size top : Int} {sl0 : Sl} {vh : VH} (hr : (r : Int) ≤ size) (s1 : size ≤ 6) (s0 : 1 ≤ size) (hl : sl0.length = 9) (h0 : sl0[0]? = some (some (.ref b))) (h2 : sl0[2]? = some (some (.int top))) (h3 : sl0[3]? = some (some (.int (2 * size + 1)))) (h4 : sl0[4]? = some (some (.ref m)))
    (h : BagAt vh b (k + 30)) (hm : vh[m]? = some (.lst [])) (hmb : m ≠ b) (t0 : 1 ≤ top) (t1 : top ≤ 40) :
    ∃ sl' vh', ∃ ps : List (Int × Option Int), sLoop none (gNm 5) (d__law_store_L1 Dtake) (rngI 0 r) sl0 vh = .nx sl' vh' ∧ (∃ x, sl' = sl0.set 5 x) ∧ BagAt vh' b k ∧ vh'[m]? = some (.lst (ps.map pD)) ∧ ps.length = r ∧ (∀ p ∈ ps, 0 ≤ p.1 ∧ p.1 ≤ 2 * size ∧ InB top p.2) ∧ vh'.length = vh.length ∧ ∀ j, j ≠ b → j ≠ m → vh'[j]? = vh[j]? := by
  obtain ⟨sl2, vh2, e, ⟨x, rfl⟩, hb, ps, hp, hpl, hpr, hlen, hfr⟩ := sLoop_inv (γ := gNm 5) (δ := d__law_store_L1 Dtake) (sl := sl0) (vh := vh) (items := rngI 0 r)
    (fun i s v => (∃ x, s = sl0.set 5 x) ∧ BagAt v b (k + (30 - 3 * i)) ∧ ∃ ps : List (Int × Option Int), v[m]? = some (.lst (ps.map pD)) ∧ ps.length = i ∧ (∀ p ∈ ps, 0 ≤ p.1 ∧ p.1 ≤ 2 * size ∧ InB top p.2) ∧ v.length = vh.length ∧ ∀ j, j ≠ b → j ≠ m → v[j]? = vh[j]?)
    ⟨⟨sl0[5], by simp⟩, h, [], by simpa using hm, rfl, by simp, rfl, fun _ _ _ => rfl⟩ (by
    rintro i hi s v ⟨⟨x, rfl⟩, hb, ps, hp, hpl, hpr, hlen, hfr⟩
    have hi : i < r := by simpa [rngI] using hi
    have hb2 : BagAt v b (k + (30 - 3 * (i + 1)) + 3) := hb.mono (by omega)
    obtain ⟨p, v2, e, b2, p2, pr, l2, f2⟩ := stL1_ok (sl := (sl0.set 5 x).set 5 (some ((rngI 0 r)[i]))) (b := b) (m := m) (top := top) (mg := 2 * size + 1) (by simpa using h0) (by simpa using h2) (by simpa using h3) (by simpa using h4) hb2 hp hmb (by simp; omega) t0 t1 (by omega) (by omega)
    refine ⟨_, v, _, v2, rfl, e, ⟨some ((rngI 0 r)[i]), by simp⟩, b2, ps ++ [p], by simpa using p2, by simp [hpl], ?_, by omega, fun j h1 h2 => by rw [f2 j h1 h2, hfr j h1 h2]⟩
    intro q hq
    rcases List.mem_append.mp hq with hq | hq
    · exact hpr q hq
    · have := List.mem_singleton.mp hq
      subst this
      exact ⟨pr.1, by omega, pr.2.2⟩)
  have : (rngI 0 r).length = r := by simp [rngI]
  rw [this] at hb hpl
  exact ⟨_, vh2, ps, e, ⟨x, rfl⟩, hb.mono (by omega), hp, hpl, hpr, hlen, hfr⟩
theorem echs_ok {r : Nat} {b k : Nat} {size : Int} {sl : Sl} {vh : VH} (hr : (r : Int) ≤ size) (s1 : size ≤ 6) (s0 : 1 ≤ size) (h0 : sl[0]? = some (some (.ref b))) (h3 : sl[3]? = some (some (.int (2 * size + 1))))
    (h : BagAt vh b (k + 20)) : ∃ vh', ∃ ps : List (Int × Int), lcLoop none (gNm 5) tYesF (d__law_store_E2 Dtake) sl (rngI 0 r) [] vh = .ok (ps.map qD) vh' ∧ BG vh vh' b k ∧ ps.length = r ∧ ∀ p ∈ ps, 0 ≤ p.1 ∧ p.1 ≤ 2 * size ∧ (p.2 = 0 ∨ p.2 = 1) := by
  have l2 : (2 : Nat) ≤ lim := le_lim (by decide)
  obtain ⟨acc, vh2, e, hl, hg, ps, rfl, hp⟩ := lcLoop_inv (γ := gNm 5) (τ := tYesF) (φ := d__law_store_E2 Dtake) (sl := sl) (vh := vh) (items := rngI 0 r)
    (fun i acc v => BG vh v b (k + (20 - 2 * i)) ∧ ∃ ps : List (Int × Int), acc = ps.map qD ∧ ∀ p ∈ ps, 0 ≤ p.1 ∧ p.1 ≤ 2 * size ∧ (p.2 = 0 ∨ p.2 = 1))
    ⟨BG.of h, [], rfl, by simp⟩ (le_lim (by simp [rngI]; omega)) (by
    rintro i hi acc v ha ⟨hg, ps, rfl, hp⟩
    have hi : i < r := by simpa [rngI] using hi
    obtain ⟨x, v1, e1, x0, x1, g1⟩ := take_ok (m := 2 * size + 1) (b := k + (20 - 2 * (i + 1)) + 1) (hg.mono (by omega)) (by omega) (by omega)
    obtain ⟨y, v2, e2, y0, y1, g2⟩ := take_ok (m := 2) g1 (by omega) (by omega)
    refine ⟨_, v, .v (qD (x, y)), v2, rfl, rfl, ?_, g2, ps ++ [(x, y)], by simp, ?_⟩
    · simp [d__law_store_E2, h0, h3, ar0__law_take, e1, e2, pTup, l2, qD]
    · intro q hq
      rcases List.mem_append.mp hq with hq | hq
      · exact hp q hq
      · have := List.mem_singleton.mp hq
        subst this
        exact ⟨x0, by show x ≤ 2 * size; omega, by show y = 0 ∨ y = 1; omega⟩)
  have e3 : (rngI 0 r).length = r := by simp [rngI]
  rw [e3] at hg hl
  exact ⟨vh2, ps, e, hg.mono (by omega), by simpa using hl, hp⟩
theorem two_ok {b k : Nat} {top : Int} {sl : Sl} {vh : VH} (h0 : sl[0]? = some (some (.ref b))) (h2 : sl[2]? = some (some (.int top))) (t0 : 1 ≤ top) (t1 : top ≤ 40)
    (h : BagAt vh b (k + 4)) : ∃ s t vh', lcLoop none (gNm 5) tYesF (d__law_store_E1 Dtake) sl (rngI 0 2) [] vh = .ok [oD s, oD t] vh' ∧ BG vh vh' b k ∧ InB top s ∧ InB top t := by
  have n0 : 0 < lim := by have := le_lim (n := 2) (by decide); omega
  have n1 : 1 < lim := by have := le_lim (n := 2) (by decide); omega
  have hr : rngI 0 2 = [.int 0, .int 1] := rfl
  obtain ⟨s, v1, e1, a1, g1⟩ := word_ok (sl := sl.set 5 (some (.int 0))) (by simpa using h0) (by simpa using h2) (BG.of h) t0 t1
  obtain ⟨t, v2, e2, a2, g2⟩ := word_ok (sl := sl.set 5 (some (.int 1))) (by simpa using h0) (by simpa using h2) g1 t0 t1
  exact ⟨s, t, v2, by simp [hr, lcLoop, e1, e2, n0, n1], g2, a1, a2⟩
theorem tru_i01 {q : Int} (h0 : 0 ≤ q) (h1 : q < 2) : q = 0 ∨ q = 1 := by omega
theorem lstore_ok {b k : Nat} {size top : Int} {vh : VH} (h : BagAt vh b (k + 100)) (s0 : 1 ≤ size) (s1 : size ≤ 6) (t0 : 1 ≤ top) (t1 : top ≤ 40) :
    ∃ v vh', Dlstore [.ref b, .int size, .int top] vh = .ok (sD v) vh' ∧ Okay v size top ∧ BagAt vh' b k ∧ vh.length ≤ vh'.length ∧ ∀ j < vh.length, j ≠ b → vh'[j]? = vh[j]? := by
  have l2 : (2 : Nat) ≤ lim := le_lim (by decide)
  have l4 : (4 : Nat) ≤ lim := le_lim (by decide)
  have l0 : (0 : Nat) ≤ lim := le_lim (by decide)
  have l8 : (8 : Nat) ≤ lim := le_lim (by decide)
  have hb := h.lt
  have m2 := o_mul (mulOk_l (i := 2) (j := size) (by decide))
  obtain ⟨vh1, e1⟩ : ∃ x, vh ++ [O.lst []] = x := ⟨_, rfl⟩
  have k1 : vh1[vh.length]? = some (.lst []) := by rw [← e1]; simp
  have b1 : BagAt vh1 b (k + 100) := by rw [← e1]; exact h.app
  have len1 : vh1.length = vh.length + 1 := by rw [← e1]; simp
  obtain ⟨r, vh2, e2, r0, r1, g2⟩ := take_ok (m := size + 1) (BG.of b1) (by omega) (by omega)
  have k2 : vh2[vh.length]? = some (.lst []) := g2.at_ (by omega) k1
  obtain ⟨sl3, vh3, ps, e3, ⟨x3, rfl⟩, b3, k3, pl, pr, len3, f3⟩ := lets_ok (r := r.toNat) (b := b) (m := vh.length) (k := k + 60) (size := size) (top := top)
    (sl0 := [some (.ref b), some (.int size), some (.int top), some (.int (2 * size + 1)), some (.ref vh.length), none, none, none, none]) (by omega) s1 s0 rfl rfl rfl rfl rfl (g2.1.mono (by omega)) k2 (by omega) t0 t1
  simp only [List.set_cons_succ, List.set_cons_zero] at e3
  obtain ⟨q, vh4, e4, q0, q1, g4⟩ := take_ok (m := size + 1) (b := k + 59) (BG.of b3) (by omega) (by omega)
  obtain ⟨vh5, qs, e5, g5, ql, qr⟩ := echs_ok (r := q.toNat) (b := b) (k := k + 39) (size := size) (vh := vh4)
    (sl := [some (.ref b), some (.int size), some (.int top), some (.int (2 * size + 1)), some (.ref vh.length), none, none, none, none]) (by omega) s1 s0 rfl rfl (g4.1.mono (by omega))
  obtain ⟨s, t, vh6, e6, g6, s6, t6⟩ := two_ok (b := b) (k := k + 20) (top := top) (vh := vh5)
    (sl := [some (.ref b), some (.int size), some (.int top), some (.int (2 * size + 1)), some (.ref vh.length), none, some (.lst (qs.map qD)), none, none]) rfl rfl t0 t1 (g5.1.mono (by omega))
  obtain ⟨mk, vh7, e7, mk0, mk1, g7⟩ := take_ok (m := 2 * size + 1) (b := k + 19) (BG.of g6.1) (by omega) (by omega)
  obtain ⟨be, vh8, e8, be0, be1, g8⟩ := take_ok (m := 2) (b := k + 18) g7 (by omega) (by omega)
  obtain ⟨la, vh9, e9, la0, la1, g9⟩ := take_ok (m := 2 * size + 1) (b := k + 17) g8 (by omega) (by omega)
  obtain ⟨tk, vhA, eA, tk0, tk1, gA⟩ := take_ok (m := 2) (b := k + 16) g9 (by omega) (by omega)
  have k6 : vh6[vh.length]? = some (.lst (ps.map pD)) := g6.at_ (by omega) (g5.at_ (by omega) (g4.at_ (by omega) k3))
  have k8 : vh8[vh.length]? = some (.lst (ps.map pD)) := g8.at_ (by omega) k6
  have rb : r < 4611686018427387904 ∧ -4611686018427387904 ≤ r := by omega
  have qb : q < 4611686018427387904 ∧ -4611686018427387904 ≤ q := by omega
  refine ⟨⟨0, 0, 0, 0, 0, mk, be, s, la, tk, t, ps, qs⟩, vhA, ?_, ⟨mk0, by show mk ≤ _; omega, la0, by show la ≤ _; omega, tru_i01 be0 be1, tru_i01 tk0 tk1, s6, t6, by show (ps.length : Int) ≤ size; omega, by show (qs.length : Int) ≤ size; omega, pr, qr⟩, gA.1.mono (by omega), ?_, fun j hj hjb => ?_⟩
  · simp [Dlstore, d__law_store, slots, m2, pTup, pLst, l0, l2, l4, l8, e1, e2, rb, e3, e4, qb, wipeS, e5, e6, e7, e8, e9, eA, vw_ref k8, sD, ar0__law_take]
  · have := gA.2.1; have := g6.2.1; have := g5.2.1; have := g4.2.1; have := g2.2.1; omega
  · rw [gA.2.2 j hjb, g6.2.2 j hjb, g5.2.2 j hjb, g4.2.2 j hjb, f3 j hjb (by omega), g2.2.2 j hjb, ← e1, List.getElem?_append_left hj]
end PM

namespace PM
open PySem L2
/-- things of built-in kinds -/
def Plain : D → Prop
  | .non => True | .bl _ => True | .int _ => True | .str _ => True | .tup _ => True | .lst _ => True | .dct _ => True | _ => False
def wholeB (a b : Int) : D → Bool
  | .int i => decide (a ≤ i) && decide (i ≤ b)
  | _ => false
def bornB (b : Int) : D → Bool
  | .non => true
  | d => wholeB 0 (b - 1) d
theorem vw_plain {d : D} (h : Plain d) (vh : VH) : view vh d = d := by cases d <;> simp only [Plain] at h <;> rfl
theorem wholeG {d : D} (h : Plain d) (a b : Int) (vh : VH) : Dwhole [d, .int a, .int b] vh = .ok (.bl (wholeB a b d)) vh := by
  cases d <;> simp only [Plain] at h
  case int i => rw [whole_ok]; rfl
  all_goals simp [Dwhole, d_is_whole, slots, bIsi, isD, tyN, isT, wholeB]
theorem borneG {d : D} (h : Plain d) (b : Int) (vh : VH) : Dborne [d, .int b] vh = .ok (.bl (bornB b d)) vh := by
  have w := wholeG h 0 (b - 1) vh
  cases d <;> simp only [Plain] at h <;> simp [Dborne, d_is_borne, slots, ar0_is_whole, opIs, isNon, bornB, w, wholeB]
/-! ### is_store of anything -/
def elts : D → List D
  | .tup xs => xs
  | _ => []
def rowB (h : Int) : D → Bool
  | .tup xs => decide ((xs.length : Int) ≤ h)
  | _ => false
def itmB (h : Int) : D → Bool
  | .tup [x, _] => wholeB 0 (2 * h) x
  | _ => false
def sndD : D → D
  | .tup [_, y] => y
  | d => d
/-- rows whose parts are of built-in kinds -/
def Shp (d : D) : Prop := Plain d ∧ ∀ x ∈ elts d, Plain x ∧ ∀ a b, x = .tup [a, b] → Plain a ∧ Plain b
def stB (hold bound : Int) (a b c l e f g r : D) : Bool :=
  (wholeB 0 (2 * hold) a && wholeB 0 (2 * hold) e) && (((wholeB 0 1 b && wholeB 0 1 f) && (bornB bound c && bornB bound g)) && ((rowB hold l && rowB hold r) &&
    ((elts l ++ elts r).all (itmB hold) && ((elts l).all (fun d => bornB bound (sndD d)) && (elts r).all (fun d => wholeB 0 1 (sndD d))))))
theorem bls_mapB {α : Type} (f : α → Bool) : ∀ xs : List α, blsOf (xs.map fun x => D.bl (f x)) = some (xs.map f)
  | [] => rfl
  | x :: xs => by simp [blsOf, bls_mapB f xs]
theorem all_mapB {α : Type} (f : α → Bool) (xs : List α) : bAll (.lst (xs.map fun x => D.bl (f x))) = some (.v (.bl (xs.all f))) := by
  simp only [bAll, bls_mapB, Option.map_some]
  congr 3
  simp [List.all_map]
section
variable {vh : VH} {sl : Sl} {hold bound : Int}
theorem plain_tup {d : D} (h : Plain d) : bIsi [] "tuple" d = some (.v (.bl (match d with | .tup _ => true | _ => false))) := by
  cases d <;> simp only [Plain] at h <;> rfl
theorem lcG3 (h : sl.length = 18) (h1 : sl[1]? = some (some (.int hold))) {items : List D} (hl : items.length ≤ lim) (hi : ∀ x ∈ items, Plain x ∧ ∀ a b, x = .tup [a, b] → Plain a ∧ Plain b) : lcLoop none (gNm 14) tYesF (FS d_is_store_E3) sl items [] vh = .ok (items.map fun d => .bl (itmB hold d)) vh := by
  have := lcLoop_map (γ := gNm 14) (φ := FS d_is_store_E3) (sl := sl) (vh := vh) (f := fun d => .bl (itmB hold d)) (items := items) (acc := []) (by simpa using hl) fun d hd => by
    obtain ⟨pd, pp⟩ := hi d hd
    refine ⟨_, .v (.bl (itmB hold d)), rfl, ?_, rfl⟩
    have g14 : ∀ x, (sl.set 14 x)[14]? = some x := fun x => by simp [h]
    have hm := o_mul (mulOk_l (i := 2) (j := hold) (by decide))
    cases d <;> simp only [Plain] at pd
    case tup xs =>
      by_cases h2 : xs.length = 2
      · obtain ⟨a, b, rfl⟩ : ∃ a b, xs = [a, b] := by
          match xs, h2 with | [a, b], _ => exact ⟨a, b, rfl⟩
        have w := wholeG (pp a b rfl).1 0 (2 * hold) vh
        have va := vw_plain (pp a b rfl).1 vh
        simp [d_is_store_E3, g14, h1, bIsi, isD, tyN, isT, ar0_is_whole, hm, w, itmB]
      · have e : itmB hold (.tup xs) = false := by
          match xs, h2 with
          | [], _ => rfl
          | [_], _ => rfl
          | [_, _], h => exact absurd rfl h
          | _ :: _ :: _ :: _, _ => rfl
        have h2' : ¬ ((xs.length : Int) = 2) := by omega
        rw [e]
        simp [d_is_store_E3, g14, h1, bIsi, isD, tyN, isT, h2, h2']
    all_goals simp [d_is_store_E3, g14, bIsi, isD, tyN, isT, itmB]
  simpa using this
end
end PM

namespace PM
open PySem L2
section
variable {vh : VH} {sl : Sl} {hold bound : Int}
theorem pair_of {h : Int} {x : D} (e : itmB h x = true) : ∃ m y, x = .tup [.int m, y] := by
  cases x with
  | tup xs =>
    match xs, e with
    | [], e => cases e
    | [_], e => cases e
    | [a, y], e =>
      cases a <;> simp [itmB, wholeB] at e
      exact ⟨_, y, rfl⟩
    | _ :: _ :: _ :: _, e => cases e
  | _ => cases e
theorem lcGA (h : sl.length = 18) (h1 : sl[2]? = some (some (.int bound))) {items : List D} (hl : items.length ≤ lim) (hi : ∀ x ∈ items, ∃ m y, x = .tup [.int m, y] ∧ Plain y) :
    lcLoop none (gUnp 2 (gsCons (gNm 15) (gsCons (gNm 16) gsNil))) tYesF (FS d_is_store_E1) sl items [] vh = .ok (items.map fun d => .bl (bornB bound (sndD d))) vh := by
  have := lcLoop_map (γ := gUnp 2 (gsCons (gNm 15) (gsCons (gNm 16) gsNil))) (φ := FS d_is_store_E1) (sl := sl) (vh := vh) (f := fun d => .bl (bornB bound (sndD d))) (items := items) (acc := []) (by simpa using hl) fun d hd => by
    obtain ⟨m, y, rfl, py⟩ := hi d hd
    refine ⟨(sl.set 15 (some (.int m))).set 16 (some y), .v (.bl (bornB bound y)), by simp, ?_, rfl⟩
    have g16 : ∀ x y, ((sl.set 15 x).set 16 y)[16]? = some y := fun x y => by simp [h]
    simp [d_is_store_E1, g16, h1, ar0_is_borne, borneG py]
  simpa using this
theorem lcGB (h : sl.length = 18) {items : List D} (hl : items.length ≤ lim) (hi : ∀ x ∈ items, ∃ m y, x = .tup [.int m, y] ∧ Plain y) :
    lcLoop none (gUnp 2 (gsCons (gNm 15) (gsCons (gNm 17) gsNil))) tYesF (FS d_is_store_E2) sl items [] vh = .ok (items.map fun d => .bl (wholeB 0 1 (sndD d))) vh := by
  have := lcLoop_map (γ := gUnp 2 (gsCons (gNm 15) (gsCons (gNm 17) gsNil))) (φ := FS d_is_store_E2) (sl := sl) (vh := vh) (f := fun d => .bl (wholeB 0 1 (sndD d))) (items := items) (acc := []) (by simpa using hl) fun d hd => by
    obtain ⟨m, y, rfl, py⟩ := hi d hd
    refine ⟨(sl.set 15 (some (.int m))).set 17 (some y), .v (.bl (wholeB 0 1 y)), by simp, ?_, rfl⟩
    simp [d_is_store_E2, h, ar0_is_whole, wholeG py]
  simpa using this
end
theorem isst_not {d : D} {hold bound : Int} {vh : VH} (h : Plain d) (hn : ∀ xs, d = .tup xs → xs.length ≠ 8) : Dis [d, .int hold, .int bound] vh = .ok (.bl false) vh := by
  cases d <;> simp only [Plain] at h
  case tup xs =>
    have h8 := hn xs rfl
    have h8' : ¬ ((xs.length : Int) = 8) := by omega
    simp [Dis, FS, d_is_store, slots, bIsi, isD, tyN, isT, gv_PARTS, h8, h8']
  all_goals simp [Dis, FS, d_is_store, slots, bIsi, isD, tyN, isT]
section
variable {hold bound : Int} {vh : VH} {a b c l e f g r : D}
theorem isst_gen (ha : Plain a) (hb : Plain b) (hc : Plain c) (hl : Shp l) (he : Plain e) (hf : Plain f) (hg : Plain g) (hr : Shp r) (hh : hold ≤ 6) : Dis [.tup [a, b, c, l, e, f, g, r], .int hold, .int bound] vh = .ok (.bl (stB hold bound a b c l e f g r)) vh := by
  have l2 : (2 : Nat) ≤ lim := le_lim (by decide)
  have l4 : (4 : Nat) ≤ lim := le_lim (by decide)
  have n0 : 0 < lim := by omega
  have n1 : 1 < lim := by omega
  have m2 := o_mul (mulOk_l (i := 2) (j := hold) (by decide))
  have e1 := wholeG ha 0 (2 * hold) vh
  have e2 := wholeG he 0 (2 * hold) vh
  have e3 := wholeG hb 0 1 vh
  have e4 := wholeG hf 0 1 vh
  have e5 := borneG hc bound vh
  have e6 := borneG hg bound vh
  unfold stB
  cases q1 : wholeB 0 (2 * hold) a with
  | false =>
    rw [q1] at e1
    simp [Dis, FS, d_is_store, slots, bIsi, isD, tyN, isT, gv_PARTS, ar0_is_whole, m2, e1]
  | true =>
    cases q2 : wholeB 0 (2 * hold) e with
    | false =>
      rw [q1] at e1
      rw [q2] at e2
      simp [Dis, FS, d_is_store, slots, bIsi, isD, tyN, isT, gv_PARTS, ar0_is_whole, m2, e1, e2]
    | true =>
      rw [q1] at e1
      rw [q2] at e2
      have bl4 : ∀ P Q R S : Bool, bAll (.lst [.bl P, .bl Q, .bl R, .bl S]) = some (.v (.bl ((P && Q) && (R && S)))) := fun P Q R S => by cases P <;> cases Q <;> cases R <;> cases S <;> rfl
      have bl2 : ∀ P Q : Bool, bAll (.lst [.bl P, .bl Q]) = some (.v (.bl (P && Q))) := fun P Q => by cases P <;> cases Q <;> rfl
      cases q3 : ((wholeB 0 1 b && wholeB 0 1 f) && (bornB bound c && bornB bound g)) with
      | false =>
        have b4 := bl4 (wholeB 0 1 b) (wholeB 0 1 f) (bornB bound c) (bornB bound g)
        rw [q3] at b4
        simp [Dis, FS, d_is_store, slots, bIsi, isD, tyN, isT, gv_PARTS, ar0_is_whole, ar0_is_borne, m2, e1, e2, e3, e4, e5, e6, pTup, l2, l4, lcLoop, wipeS, d_is_store_E6, d_is_store_E7, b4, n0, n1]
      | true =>
        have b4 := bl4 (wholeB 0 1 b) (wholeB 0 1 f) (bornB bound c) (bornB bound g)
        rw [q3] at b4
        have e5r : ∀ d : D, Plain d → ∀ sl : Sl, sl[13]? = some (some d) → sl[1]? = some (some (.int hold)) → FS d_is_store_E5 sl vh = .ok (.v (.bl (rowB hold d))) vh := fun d pd sl g13 h1 => by
          cases d <;> simp only [Plain] at pd <;> simp [FS, d_is_store_E5, g13, h1, bIsi, isD, tyN, isT, rowB]
        have r1 := fun sl a => e5r l hl.1 sl a
        have r2 := fun sl a => e5r r hr.1 sl a
        simp only [FS] at r1 r2
        cases q4 : (rowB hold l && rowB hold r) with
        | false =>
          have b2 := bl2 (rowB hold l) (rowB hold r)
          rw [q4] at b2
          simp [Dis, FS, d_is_store, slots, bIsi, isD, tyN, isT, gv_PARTS, ar0_is_whole, ar0_is_borne, m2, e1, e2, e3, e4, e5, e6, pTup, l2, l4, lcLoop, wipeS, d_is_store_E6, d_is_store_E7, b4, n0, n1, r1, r2, b2]
        | true =>
          have b2 := bl2 (rowB hold l) (rowB hold r)
          rw [q4] at b2
          rw [Bool.and_eq_true] at q4
          obtain ⟨xs, rfl, lx⟩ : ∃ xs, l = .tup xs ∧ xs.length ≤ 6 := by
            have := q4.1
            cases l <;> simp [rowB] at this
            exact ⟨_, rfl, by omega⟩
          obtain ⟨ys, rfl, ly⟩ : ∃ ys, r = .tup ys ∧ ys.length ≤ 6 := by
            have := q4.2
            cases r <;> simp [rowB] at this
            exact ⟨_, rfl, by omega⟩
          have hxs : ∀ x ∈ xs, Plain x ∧ ∀ a b, x = .tup [a, b] → Plain a ∧ Plain b := hl.2
          have hys : ∀ x ∈ ys, Plain x ∧ ∀ a b, x = .tup [a, b] → Plain a ∧ Plain b := hr.2
          have b1 : xs.length ≤ lim := le_lim (by omega)
          have b2' : ys.length ≤ lim := le_lim (by omega)
          have b3 : xs.length + ys.length ≤ lim := le_lim (by omega)
          have c4 : ∀ (sl : Sl) (items acc : List D), sl.length = 18 → acc.length + items.length ≤ lim → _ := fun sl items acc h hl => lc4 (vh := vh) (sl := sl) h (items := items) (acc := acc) hl
          have c3 : ∀ sl : Sl, sl.length = 18 → sl[1]? = some (some (.int hold)) → _ := fun sl h h1 => lcG3 (vh := vh) (sl := sl) h h1 (items := xs ++ ys) (by simpa using b3) (fun x hx => (List.mem_append.mp hx).elim (hxs x) (hys x))
          have a3 := all_mapB (itmB hold) (xs ++ ys)
          have k1 : (xs.length : Int) ≤ hold := by have := q4.1; simpa [rowB] using this
          have k2 : (ys.length : Int) ≤ hold := by have := q4.2; simpa [rowB] using this
          have rw1 : rowB hold (.tup xs) = true := q4.1
          have rw2 : rowB hold (.tup ys) = true := q4.2
          simp only [FS] at c3 c4
          rw [List.map_append] at a3
          have el : elts (.tup xs) = xs := rfl
          have er : elts (.tup ys) = ys := rfl
          simp only [el, er, rw1, rw2, Bool.true_and]
          rw [rw1, rw2] at b2
          cases q5 : (xs ++ ys).all (itmB hold) with
          | false =>
            rw [q5] at a3
            simp [Dis, FS, d_is_store, slots, bIsi, isD, tyN, isT, gv_PARTS, ar0_is_whole, ar0_is_borne, m2, e1, e2, e3, e4, e5, e6, pTup, l2, l4, lcLoop, wipeS, d_is_store_E6, d_is_store_E7, b4, n0, n1, r1, r2, rw1, rw2, b2, eLc2, lc2Loop, c3, c4, b1, b2', b3, a3]
          | true =>
            rw [q5] at a3
            have q5' := List.all_eq_true.mp q5
            have hx2 : ∀ x ∈ xs, ∃ m y, x = .tup [.int m, y] ∧ Plain y := fun x hx => by
              obtain ⟨m, y, rfl⟩ := pair_of (q5' x (List.mem_append_left _ hx))
              exact ⟨m, y, rfl, ((hxs _ hx).2 _ _ rfl).2⟩
            have hy2 : ∀ x ∈ ys, ∃ m y, x = .tup [.int m, y] ∧ Plain y := fun x hx => by
              obtain ⟨m, y, rfl⟩ := pair_of (q5' x (List.mem_append_right _ hx))
              exact ⟨m, y, rfl, ((hys _ hx).2 _ _ rfl).2⟩
            have c1 : ∀ sl : Sl, sl.length = 18 → sl[2]? = some (some (.int bound)) → _ := fun sl h h1 => lcGA (vh := vh) (sl := sl) h h1 (items := xs) b1 hx2
            have c2 : ∀ sl : Sl, sl.length = 18 → _ := fun sl h => lcGB (vh := vh) (sl := sl) h (items := ys) b2' hy2
            simp only [FS] at c1 c2
            have a6 : bAll (.lst ((xs.map fun d => D.bl (bornB bound (sndD d))) ++ ys.map fun d => D.bl (wholeB 0 1 (sndD d)))) = some (.v (.bl ((xs.all fun d => bornB bound (sndD d)) && ys.all fun d => wholeB 0 1 (sndD d)))) := by
              have bb : ∀ as bs : List Bool, bAll (.lst ((as.map D.bl) ++ (bs.map D.bl))) = some (.v (.bl (as.all id && bs.all id))) := fun as bs => by
                have := all_mapB id (as ++ bs)
                rw [List.map_append, List.all_append] at this
                exact this
              have := bb (xs.map fun d => bornB bound (sndD d)) (ys.map fun d => wholeB 0 1 (sndD d))
              rw [List.map_map, List.map_map, List.all_map, List.all_map] at this
              exact this
            generalize ((xs.all fun d => bornB bound (sndD d)) && ys.all fun d => wholeB 0 1 (sndD d)) = B at a6 ⊢
            simp [Dis, FS, d_is_store, slots, bIsi, isD, tyN, isT, gv_PARTS, ar0_is_whole, ar0_is_borne, m2, e1, e2, e3, e4, e5, e6, pTup, l2, l4, lcLoop, wipeS, d_is_store_E6, d_is_store_E7, b4, n0, n1, r1, r2, rw1, rw2, b2, eLc2, lc2Loop, c1, c2, c3, c4, b1, b2', b3, a3, a6]
end
end PM

namespace PM
open PySem L2
section
variable {vh : VH} {n l e : Nat} {w : WS} {a b : Bool}
theorem bear_let (h : WayAt vh n l e w) (hr : Rps 3 100000 (w.letters.map pD)) (h1 : w.miss ≤ (w.lost a b).1) : Dbear [.ref n, .tup [.bl a, .bl b]] vh = .exc ⟨3, [("side", .str "letters")]⟩ vh := by
  have l2 : (2 : Nat) ≤ lim := le_lim (by decide)
  have e1 := lose_ok h (a := a) (b := b) hr
  simp [Dbear, d_Way_must_bear, d_Way_must_bear_L1, slots, vw_w h.at_, isI, ar0_Way_would_lose, e1, pTup, l2, sLoop, h1, iZip, zipIV, ivOf, pairs, sRaise, mExc, mk1]
theorem bear_ech (h : WayAt vh n l e w) (hr : Rps 3 100000 (w.letters.map pD)) (h1 : (w.lost a b).1 < w.miss) (h2 : w.miss ≤ (w.lost a b).2) : Dbear [.ref n, .tup [.bl a, .bl b]] vh = .exc ⟨3, [("side", .str "echoes")]⟩ vh := by
  have l2 : (2 : Nat) ≤ lim := le_lim (by decide)
  have e1 := lose_ok h (a := a) (b := b) hr
  have n1 : ¬ w.miss ≤ (w.lost a b).1 := by omega
  simp [Dbear, d_Way_must_bear, d_Way_must_bear_L1, slots, vw_w h.at_, isI, ar0_Way_would_lose, e1, pTup, l2, sLoop, n1, h2, iZip, zipIV, ivOf, pairs, sRaise, mExc, mk1]
theorem beat_word (h : WayAt vh n l e w) {d x y : D} (hd : Plain d) (hb : bornB w.bound d = false) : Dbeat [.ref n, d, x, y] vh = .exc ⟨2, [("word", d)]⟩ vh := by
  have e1 := borneG hd w.bound vh
  rw [hb] at e1
  simp [Dbeat, d_Way_beat, slots, vw_w h.at_, isI, ar0_is_borne, e1, sRaise, mExc, mk1]
theorem beat_lost (h : WayAt vh n l e w) {y : D} {x : XV} (e2 : Dbear [.ref n, .tup [.bl a, .bl b]] vh = .exc x vh) : Dbeat [.ref n, .non, y, .tup [.bl a, .bl b]] vh = .exc x vh := by
  have e1 := borneG (d := .non) trivial w.bound vh
  simp [Dbeat, d_Way_beat, slots, vw_w h.at_, isI, ar0_is_borne, e1, bornB, ar0_Way_must_bear, e2]
theorem spoil_no (h : WayAt vh n l e w) {d : D} (e1 : Dis [d, .int w.hold, .int w.bound] vh = .ok (.bl false) vh) : Dspoil [.ref n, d] vh = .exc ⟨4, []⟩ vh := by
  simp [Dspoil, d_Way_spoil, slots, vw_w h.at_, ar0_is_store, e1, sRaise, mExc, mk0]
end
end PM

namespace PM
open PySem L2
theorem bt_mark {w : WS} {a c : Bool} : (w.spent a c).takes.hears.mark = w.hears.mark ∧ (w.spent a c).takes.hears.bears = w.hears.bears ∧ (w.spent a c).takes.hears.slot = w.hears.slot := by
  cases h : w.echoes with
  | nil => simp [WS.hears, WS.spent, h]
  | cons p r =>
    obtain ⟨m, t⟩ := p
    simp only [WS.hears, takes_echoes, takes_mark, takes_bears, takes_slot, WS.spent, h]
    split
    · split <;> simp [WS.ends]
    · simp
theorem bt_last {w : WS} {a c : Bool} : (w.spent a c).takes.last = w.takes.last ∧ (w.spent a c).takes.took = w.takes.took ∧ (w.spent a c).takes.box = w.takes.box := by
  cases h : w.letters with
  | nil => simp [WS.takes, WS.spent, h]
  | cons p r =>
    obtain ⟨m, t⟩ := p
    simp only [WS.takes, WS.spent, h]
    split <;> simp
structure WOk (w : WS) : Prop where
  ok : Okay w w.hold w.bound
  h0 : 1 ≤ w.hold
  h1 : w.hold ≤ 6
  b0 : 1 ≤ w.bound
  b1 : w.bound ≤ 40
  m0 : 1 ≤ w.miss
  m1 : w.miss ≤ 4
  l0 : 0 ≤ w.ll
  l1 : w.ll < w.miss
  e0 : 0 ≤ w.le
  e1 : w.le < w.miss
theorem oD_rp {k : Nat} {s : Option Int} {b : Int} (h : InB b s) (hb : b ≤ 40) : Rp k 64 (oD s) := by
  cases s with
  | none => exact Rp.non.mono (Nat.le_refl _) (Nat.le_refl _)
  | some i => have := h i rfl; exact Rp.int (by omega)
theorem WOk.lr {w : WS} (h : WOk w) : Rps 1 2000 (w.letters.map pD) := by
  have a := h.ok.ll; have b := h.h1
  have : Rps 1 ((200 + 1) * (w.letters.map pD).length) (w.letters.map pD) := Rps.all fun d hd => by
    obtain ⟨p, hp, rfl⟩ := List.mem_map.mp hd
    obtain ⟨x, y, z⟩ := h.ok.lt p hp
    exact (Rp.tup (Rps.cons (Rp.int (by omega)) (Rps.cons (oD_rp z h.b1) (Rps.nil (n := 0))))).mono (Nat.le_refl _) (by decide)
  exact this.mono (Nat.le_refl _) (by simp; omega)
theorem WOk.er {w : WS} (h : WOk w) : Rps 1 2000 (w.echoes.map qD) := by
  have a := h.ok.el; have b := h.h1
  have : Rps 1 ((200 + 1) * (w.echoes.map qD).length) (w.echoes.map qD) := Rps.all fun d hd => by
    obtain ⟨p, hp, rfl⟩ := List.mem_map.mp hd
    obtain ⟨x, y, z⟩ := h.ok.ec p hp
    exact (Rp.tup (Rps.cons (Rp.int (by omega)) (Rps.cons (Rp.int (by omega)) (Rps.nil (n := 0))))).mono (Nat.le_refl _) (by decide)
  exact this.mono (Nat.le_refl _) (by simp; omega)
theorem WOk.sr {w : WS} (h : WOk w) : Rp 64 200000 (sD w) := by
  have a := h.ok; have b := h.h1; have c := h.b1
  have i1 := a.mk1; have i2 := a.mk0; have i3 := a.la0; have i4 := a.la1; have i5 := a.be; have i6 := a.tk
  exact (Rp.tup (Rps.cons (Rp.int (by omega)) (Rps.cons (Rp.int (by omega)) (Rps.cons (oD_rp a.sl c) (Rps.cons (Rp.tup h.lr) (Rps.cons (Rp.int (by omega)) (Rps.cons (Rp.int (by omega)) (Rps.cons (oD_rp a.bx c) (Rps.cons (Rp.tup h.er) (Rps.nil (n := 0))))))))))).mono (by decide) (by decide)
theorem InB.none {b : Int} : InB b none := fun i h => nomatch h
theorem WOk.beat {w : WS} (h : WOk w) {word : Option Int} {taking a c : Bool} (hw : InB w.bound word) (h1 : (w.lost a c).1 < w.miss) (h2 : (w.lost a c).2 < w.miss) : WOk (w.beat word taking a c) := by
  obtain ⟨f1, f2, f3⟩ := bt_mark (w := w) (a := a) (c := c)
  obtain ⟨f4, f5, f6⟩ := bt_last (w := w) (a := a) (c := c)
  have k := h.ok
  have hold := h.h0
  have i1 := k.mk1; have i2 := k.mk0; have i3 := k.la0; have i4 := k.la1; have i5 := k.be; have i6 := k.tk; have i7 := k.ll; have i8 := k.el
  have e1 : (w.beat word taking a c).hold = w.hold := by simp [WS.beat, WS.fills, WS.sends, WS.spent]
  have e2 : (w.beat word taking a c).miss = w.miss := by simp [WS.beat, WS.fills, WS.sends, WS.spent]
  have e3 : (w.beat word taking a c).bound = w.bound := by simp [WS.beat, WS.fills, WS.sends, WS.spent]
  have e4 : (w.beat word taking a c).ll = (w.lost a c).1 := by simp [WS.beat, WS.fills, WS.sends, WS.spent]
  have e5 : (w.beat word taking a c).le = (w.lost a c).2 := by simp [WS.beat, WS.fills, WS.sends, WS.spent]
  have l0 := h.l0
  have le0 := h.e0
  have hm : 0 ≤ w.hears.mark ∧ w.hears.mark ≤ 2 * w.hold ∧ (w.hears.bears = 0 ∨ w.hears.bears = 1) ∧ InB w.bound w.hears.slot := by
    unfold WS.hears
    have x0 := Int.emod_nonneg (w.mark + 1) (show 2 * w.hold + 1 ≠ 0 by omega)
    have x1 := Int.emod_lt_of_pos (w.mark + 1) (show 0 < 2 * w.hold + 1 by omega)
    split
    · exact ⟨i2, i1, i5, k.sl⟩
    · split
      · split
        · exact ⟨x0, by show (w.mark + 1) % (2 * w.hold + 1) ≤ _; omega, .inl rfl, InB.none⟩
        · exact ⟨x0, by show (w.mark + 1) % (2 * w.hold + 1) ≤ _; omega, by show (if w.slot.isSome then (1 : Int) else 0) = 0 ∨ (if w.slot.isSome then (1 : Int) else 0) = 1; split <;> simp, k.sl⟩
      · exact ⟨i2, i1, i5, k.sl⟩
  have hl : 0 ≤ w.takes.last ∧ w.takes.last ≤ 2 * w.hold ∧ (w.takes.took = 0 ∨ w.takes.took = 1) ∧ InB w.bound w.takes.box := by
    unfold WS.takes
    split
    · exact ⟨i3, i4, i6, k.bx⟩
    · rename_i m p r hl
      obtain ⟨y0, y1, y2⟩ := k.lt (m, p) (by rw [hl]; exact List.mem_cons_self ..)
      split
      · exact ⟨i3, i4, i6, k.bx⟩
      · refine ⟨y0, y1, by show (if (p.isSome && w.box.isNone) = true then (1 : Int) else 0) = 0 ∨ (if (p.isSome && w.box.isNone) = true then (1 : Int) else 0) = 1; split <;> simp, ?_⟩
        show InB w.bound (if _ then p else w.box)
        split
        · exact y2
        · exact k.bx
  have elet : (w.beat word taking a c).letters = w.letters.tail ++ (if a then [] else [w.letter]) := by simp [WS.beat, WS.fills, WS.sends, WS.spent]
  have eech : (w.beat word taking a c).echoes = w.echoes.tail ++ (if c then [] else w.told) := by simp [WS.beat, WS.fills, WS.sends, WS.spent]
  have kt : w.told.length ≤ 1 := by unfold WS.told; split <;> simp
  refine ⟨?_, by rw [e1]; exact h.h0, by rw [e1]; exact h.h1, by rw [e3]; exact h.b0, by rw [e3]; exact h.b1, by rw [e2]; exact h.m0, by rw [e2]; exact h.m1, ?_, by rw [e4, e2]; exact h1, ?_, by rw [e5, e2]; exact h2⟩
  · rw [e1, e3]
    refine ⟨?_, ?_, ?_, ?_, ?_, ?_, ?_, ?_, ?_, ?_, ?_, ?_⟩
    · show 0 ≤ (w.spent a c).takes.hears.mark; rw [f1]; exact hm.1
    · show (w.spent a c).takes.hears.mark ≤ _; rw [f1]; exact hm.2.1
    · show 0 ≤ (w.spent a c).takes.hears.last; rw [hears_last, f4]; exact hl.1
    · show (w.spent a c).takes.hears.last ≤ _; rw [hears_last, f4]; exact hl.2.1
    · show (w.spent a c).takes.hears.bears = 0 ∨ (w.spent a c).takes.hears.bears = 1; rw [f2]; exact hm.2.2.1
    · show (w.spent a c).takes.hears.took = 0 ∨ (w.spent a c).takes.hears.took = 1; rw [hears_took, f5]; exact hl.2.2.1
    · have hh : ∀ (b : Bool) (s : Option Int), InB w.bound s → InB w.bound (if b then word else s) := by
        intro b s hs
        cases b
        · exact hs
        · exact hw
      exact hh _ _ (by show InB _ (w.spent a c).takes.hears.slot; rw [f3]; exact hm.2.2.2)
    · have hh : ∀ (b : Bool) (s : Option Int), InB w.bound s → InB w.bound (if b then none else s) := by
        intro b s hs
        cases b
        · exact hs
        · exact InB.none
      exact hh _ _ (by show InB _ (w.spent a c).takes.hears.box; rw [hears_box, f6]; exact hl.2.2.2)
    · rw [elet, List.length_append, List.length_tail]
      split <;> simp <;> omega
    · rw [eech, List.length_append, List.length_tail]
      split <;> simp <;> omega
    · rw [elet]
      intro p hp
      rcases List.mem_append.mp hp with hp | hp
      · exact k.lt p (List.mem_of_mem_tail hp)
      · split at hp
        · cases hp
        · have := List.mem_singleton.mp hp
          subst this
          refine ⟨i2, i1, ?_⟩
          show InB _ (if _ then w.slot else none)
          split
          · exact k.sl
          · exact InB.none
    · rw [eech]
      intro p hp
      rcases List.mem_append.mp hp with hp | hp
      · exact k.ec p (List.mem_of_mem_tail hp)
      · split at hp
        · cases hp
        · unfold WS.told at hp
          split at hp
          · cases hp
          · have := List.mem_singleton.mp hp
            subst this
            exact ⟨hl.1, hl.2.1, hl.2.2.1⟩
  · rw [e4]; unfold WS.lost; show 0 ≤ (if a then w.ll + 1 else 0); split <;> omega
  · rw [e5]; unfold WS.lost; show 0 ≤ (if w.letters = [] then w.le else if c then w.le + 1 else 0); split
    · omega
    · split <;> omega
end PM

namespace PM
open PySem L2
def partsL (w : WS) : List D := [.int w.hold, .int w.miss, .int w.bound, sD w, .int w.ll, .int w.le]
noncomputable def Dparts : Den := runD 1 (d_Way_parts Dstore)
theorem parts_ok {vh : VH} {n l e : Nat} {w : WS} (h : WayAt vh n l e w) : Dparts [.ref n] vh = .ok (.tup (partsL w)) vh := by
  have l6 : (6 : Nat) ≤ lim := le_lim (by decide)
  simp [Dparts, d_Way_parts, slots, vw_w h.at_, isI, ar0_Way_store, store_ok h, pTup, l6, partsL]
theorem nb_oD {s : Option Int} : nb (oD s) = true := by cases s <;> rfl
theorem nbs_map {α : Type} {f : α → D} (h : ∀ x, nb (f x) = true) : ∀ l : List α, nbs (l.map f) = true
  | [] => rfl
  | x :: l => by simp [nbs, h x, nbs_map h l]
theorem nb_sD {w : WS} : nb (sD w) = true := by
  have a := nbs_map (f := pD) (fun p => by simp [pD, nb, nbs, nb_oD]) w.letters
  have b := nbs_map (f := qD) (fun p => by simp [qD, nb, nbs]) w.echoes
  simp [sD, nb, nbs, nb_oD, a, b]
theorem nbs_parts {w : WS} : nbs (partsL w) = true := by simp [partsL, nbs, nb, nb_sD]
theorem WOk.pr {w : WS} (h : WOk w) : Rps 60 100000 (partsL w) := by
  have a := h.h0; have b := h.h1; have c := h.b0; have d := h.b1; have e := h.m0; have f := h.m1; have g := h.l0; have i := h.l1; have j := h.e0; have k := h.e1
  have ok := h.ok; have i1 := ok.mk1; have i2 := ok.mk0; have i3 := ok.la0; have i4 := ok.la1; have i5 := ok.be; have i6 := ok.tk
  have s : Rp 3 10000 (sD w) := (Rp.tup (Rps.cons (Rp.int (by omega)) (Rps.cons (Rp.int (by omega)) (Rps.cons (oD_rp ok.sl d) (Rps.cons ((Rp.tup h.lr).mono (Nat.le_refl _) (Nat.le_refl _)) (Rps.cons (Rp.int (by omega)) (Rps.cons (Rp.int (by omega)) (Rps.cons (oD_rp ok.bx d) (Rps.cons (Rp.tup h.er) (Rps.nil (n := 0)))))))))) |>.mono (by decide) (by decide))
  exact (Rps.cons (Rp.int (by omega)) (Rps.cons (Rp.int (by omega)) (Rps.cons (Rp.int (by omega)) (Rps.cons s (Rps.cons (Rp.int (by omega)) (Rps.cons (Rp.int (by omega)) (Rps.nil (n := 0)))))))).mono (by decide) (by decide)
noncomputable def Deq : Den := runD 2 (d_Way___eq__ Dparts)
theorem isc_w {w : WS} {l e : Nat} : bIsC [0] 0 (wD w l e) = some (.v (.bl true)) := by simp [bIsC, isC, wD]
theorem eq_ok {vh : VH} {n l e m k f : Nat} {w v : WS} (h : WayAt vh n l e w) (h2 : WayAt vh m k f v) (kw : WOk w) (kv : WOk v) : ∃ b, Deq [.ref n, .ref m] vh = .ok (.bl b) vh ∧ (b = true ↔ partsL w = partsL v) := by
  obtain ⟨b, e1, e2⟩ := eq_nb nbs_parts nbs_parts kw.pr kv.pr (by decide) (by decide)
  refine ⟨b, ?_, e2⟩
  simp [Deq, d_Way___eq__, slots, vw_w h.at_, vw_w h2.at_, isc_w, isI, ar0_Way_parts, parts_ok h, parts_ok h2, e1]
theorem eqT_ok {vh : VH} {n l e : Nat} {w v : WS} (h : WayAt vh n l e w) : Deq [.ref n, sD v] vh = .ok (.bl false) vh := by
  simp [Deq, d_Way___eq__, slots, sD, bIsC, isC, tyN]
theorem eqI_ok {vh : VH} {n : Nat} {i : Int} : Deq [.ref n, .int i] vh = .ok (.bl false) vh := by
  simp [Deq, d_Way___eq__, slots, bIsC, isC, tyN]
end PM

namespace PM
open PySem L2
noncomputable def Drefusal (L : D) (ψ : VH → R EV) : Den := runD 2 (d__law_refusal L ψ)
section
variable {f : Addr} {g : Gh} {H : Hp} {vh vh' : VH} {ψ : VH → R EV} {d : D}
theorem ref_word (h : ψ vh = .exc ⟨2, [("word", d)]⟩ vh) : Drefusal (.lam f g H) ψ [.lam f g H] vh = .ok (.tup [.str "NoNumber", d]) vh := by
  have l2 : (2 : Nat) ≤ lim := le_lim (by decide)
  have a := fun sl (hs : sl[0]? = some (some (.lam f g H))) => x_act (vh := vh) (ψ := ψ) (i := 0) hs
  simp [Drefusal, d__law_refusal, d__law_refusal_T1, d__law_refusal_X3, slots, sTry, hRun, a, h, putX, outT, fget, pTup, l2, xmT]
theorem ref_side (h : ψ vh = .exc ⟨3, [("side", d)]⟩ vh) : Drefusal (.lam f g H) ψ [.lam f g H] vh = .ok (.tup [.str "TooLost", d]) vh := by
  have l2 : (2 : Nat) ≤ lim := le_lim (by decide)
  have a := fun sl (hs : sl[0]? = some (some (.lam f g H))) => x_act (vh := vh) (ψ := ψ) (i := 0) hs
  simp [Drefusal, d__law_refusal, d__law_refusal_T1, d__law_refusal_X1, slots, sTry, hRun, a, h, putX, outT, fget, pTup, l2, xmT]
theorem ref_store (h : ψ vh = .exc ⟨4, []⟩ vh) : Drefusal (.lam f g H) ψ [.lam f g H] vh = .ok (.tup [.str "NoStore", .non]) vh := by
  have l2 : (2 : Nat) ≤ lim := le_lim (by decide)
  have a := fun sl (hs : sl[0]? = some (some (.lam f g H))) => x_act (vh := vh) (ψ := ψ) (i := 0) hs
  simp [Drefusal, d__law_refusal, d__law_refusal_T1, d__law_refusal_X2, slots, sTry, hRun, a, h, putX, outT, fget, pTup, l2, xmT]
theorem ref_none {e : EV} (h : ψ vh = .ok e vh') : Drefusal (.lam f g H) ψ [.lam f g H] vh = .ok (.tup [.str "none", .non]) vh' := by
  have l2 : (2 : Nat) ≤ lim := le_lim (by decide)
  have a := fun sl (hs : sl[0]? = some (some (.lam f g H))) => x_act (vh := vh) (ψ := ψ) (i := 0) hs
  simp [Drefusal, d__law_refusal, d__law_refusal_T1, slots, sTry, a, h, pTup, l2]
end
theorem lamc {T : Addr} {sl : Sl} {vh vh' : VH} {φ : EF} {d : D} (hT : vh[0]? = some (.tbl T qn_law)) (h : ∀ f g H, Drefusal (.lam f g H) (fun v => φ sl v) [.lam f g H] vh = .ok d vh') : eLamC 0 T qn_law ar0__law_refusal Drefusal aNil φ sl vh = .ok (.v d) vh' :=
  x_lamC hT fun f g H => by
    have c : (aNil : AF) sl vh = .ok [] vh := rfl
    have ar : ar0__law_refusal [.lam f g H] = [.lam f g H] := rfl
    simp only [ab, c, ar, h f g H]
/-- as due -/
noncomputable def Ddue : Den := runD 2 (d__law_as_due)
theorem due_ok {vh : VH} {a : Str} {d : D} {x : Str} (hx : bRepr d = some (.v (.str x))) (hv : view vh d = d) : Ddue [.tup [.str a, d], .tup [.str a, d]] vh = .ok (.bl true) vh := by
  have e1 : opEq (.str x) (.str x) = some (.v (.bl true)) := by simp [opEq, eqD, scV, vB, scal]
  have e2 : opEq (.str a) (.str a) = some (.v (.bl true)) := by simp [opEq, eqD, scV, vB, scal]
  have i0 : opIsNot (.tup [.str a, d]) .non = some (.v (.bl true)) := rfl
  simp [Ddue, d__law_as_due, slots, e1, e2, hx, hv, i0]
end PM

namespace PM
open PySem L2
theorem pick_at {xs : List D} {r : Int} (h0 : 0 ≤ r) (h1 : r < xs.length) : ∃ x ∈ xs, atI xs r = some x := by
  obtain ⟨k, rfl⟩ : ∃ k : Nat, r = k := ⟨r.toNat, by omega⟩
  have hk : k < xs.length := by omega
  exact ⟨xs[k], List.getElem_mem hk, by rw [atI_nat rfl hk, List.getElem?_eq_getElem hk]⟩
theorem repr_d0 : ∃ x, bRepr (.dct []) = some (.v (.str x)) := by
  have e : pyR (.dct []) = some (.dict []) := by simp [pyR, kvPy]
  have l : (PyData.dict []).shown.length ≤ lim := le_lim (by decide +kernel)
  have s : (PyData.dict []).showable = true := by decide +kernel
  have d : (PyData.dict []).depth ≤ 64 := by decide +kernel
  exact ⟨_, by simp only [bRepr, e, Option.bind_some, s, d, l, decide_true, Bool.and_self, if_true, vS]; rfl⟩
theorem repr_big : ∃ x, bRepr (.int 10000000000000000000000000) = some (.v (.str x)) := by
  have e : pyR (.int 10000000000000000000000000) = some (.int 10000000000000000000000000) := by simp [pyR, toPy]
  have l : (PyData.int 10000000000000000000000000).shown.length ≤ lim := le_lim (by decide +kernel)
  have s : (PyData.int 10000000000000000000000000).showable = true := by decide +kernel
  have d : (PyData.int 10000000000000000000000000).depth ≤ 64 := by decide +kernel
  exact ⟨_, by simp only [bRepr, e, Option.bind_some, s, d, l, decide_true, Bool.and_self, if_true, vS]; rfl⟩
noncomputable def Dodd : Den := runD 3 (d__law_odd Dtake)
theorem odd_ok {n b : Nat} {vh0 vh : VH} {top : Int} (t0 : 1 ≤ top) (t1 : top ≤ 40) (hb : BG vh0 vh n (b + 1)) :
    ∃ vh' d, Dodd [.ref n, .int top] vh = .ok d vh' ∧ BG vh0 vh' n b ∧ Plain d ∧ bornB top d = false ∧ ∃ x, bRepr d = some (.v (.str x)) := by
  obtain ⟨r, v1, h1, r0, r1, g1⟩ := take_ok (m := 12) hb (by omega) (by omega)
  have pw : powOk 10 25 = true := powOk_of (k := 10) (by decide) (by decide) (by decide) (by decide)
  have l12 : (12 : Nat) ≤ lim := le_lim (by decide)
  have l1 : (1 : Nat) ≤ lim := le_lim (by decide)
  have l0 : (0 : Nat) ≤ lim := le_lim (by decide)
  obtain ⟨d, hd, ed⟩ := pick_at (xs := [.int (-1), .int top, .int (top + 1), .bl true, .bl false, .str "1", .tup [.int 1], .lst [.int 0], .dct [], .int 10000000000000000000000000, .tup [], .str ""]) r0 (by simpa using r1)
  refine ⟨v1, d, ?_, g1, ?_⟩
  · simp [Dodd, d__law_odd, slots, pLst, pTup, opNeg, vI, o_pow pw, l12, l1, l0, h1, ed]
  · simp only [List.mem_cons, List.not_mem_nil, or_false] at hd
    rcases hd with rfl | rfl | rfl | rfl | rfl | rfl | rfl | rfl | rfl | rfl | rfl | rfl
    · exact ⟨trivial, by simp [bornB, wholeB], Rp.repr ((Rp.int (k := 0) (by decide)).mono (by decide) (by decide))⟩
    · exact ⟨trivial, by simp [bornB, wholeB]; omega, Rp.repr ((Rp.int (k := 0) (by omega)).mono (by decide) (by decide))⟩
    · exact ⟨trivial, by simp [bornB, wholeB]; omega, Rp.repr ((Rp.int (k := 0) (by omega)).mono (by decide) (by decide))⟩
    · exact ⟨trivial, rfl, Rp.repr (Rp.bl true)⟩
    · exact ⟨trivial, rfl, Rp.repr (Rp.bl false)⟩
    · exact ⟨trivial, rfl, Rp.repr ((Rp.str (by decide)).mono (Nat.zero_le _) (by decide))⟩
    · exact ⟨trivial, rfl, Rp.repr ((Rp.tup (Rps.cons (Rp.int (k := 0) (by decide)) (Rps.nil (n := 0)))).mono (by decide) (by decide))⟩
    · exact ⟨trivial, rfl, Rp.repr ((Rp.lst (Rps.cons (Rp.int (k := 0) (by decide)) (Rps.nil (n := 0)))).mono (by decide) (by decide))⟩
    · exact ⟨trivial, rfl, repr_d0⟩
    · exact ⟨trivial, by simp [bornB, wholeB]; omega, repr_big⟩
    · exact ⟨trivial, rfl, Rp.repr ((Rp.tup (Rps.nil (k := 0) (n := 0))).mono (by decide) (by decide))⟩
    · exact ⟨trivial, rfl, Rp.repr ((Rp.str (by decide)).mono (Nat.zero_le _) (by decide))⟩
end PM

namespace PM
open PySem L2
def badL (hold bound : Int) (d : D) : Bool := rowB hold d && ((elts d).all (itmB hold) && (elts d).all fun x => bornB bound (sndD x))
def badE (hold : Int) (d : D) : Bool := rowB hold d && ((elts d).all (itmB hold) && (elts d).all fun x => wholeB 0 1 (sndD x))
/-- what may not stand at the k-th place of a store -/
def NoPart (hold bound : Int) (k : Nat) (d : D) : Prop := match k with
  | 0 => Plain d ∧ wholeB 0 (2 * hold) d = false
  | 4 => Plain d ∧ wholeB 0 (2 * hold) d = false
  | 1 => Plain d ∧ wholeB 0 1 d = false
  | 5 => Plain d ∧ wholeB 0 1 d = false
  | 2 => Plain d ∧ bornB bound d = false
  | 6 => Plain d ∧ bornB bound d = false
  | 3 => Shp d ∧ badL hold bound d = false
  | _ => Shp d ∧ badE hold d = false
theorem in2i {a b c : Int} : opIn (.int a) (.tup [.int b, .int c]) = some (.v (.bl (decide (b = a) || decide (c = a)))) := by
  simp [opIn, pIn, inD, scV, scVs, inV, vB]
noncomputable def Dnpart : Den := runD 7 (d__law_no_part Dtake)
section
variable {n b : Nat} {vh0 vh : VH} {size top : Int}
theorem part_mk (s0 : 1 ≤ size) (s1 : size ≤ 6) (t0 : 1 ≤ top) (hb : BG vh0 vh n (b + 1)) {k : Nat} (hk : k = 0 ∨ k = 4) : ∃ vh' d, Dnpart [.ref n, .int k, .int size, .int top] vh = .ok d vh' ∧ BG vh0 vh' n b ∧ NoPart size top k d := by
  obtain ⟨r, v1, h1, r0, r1, g1⟩ := take_ok (m := 7) hb (by omega) (by omega)
  have m2 := o_mul (mulOk_l (i := 2) (j := size) (by decide))
  have pw : powOk 10 20 = true := powOk_of (k := 10) (by decide) (by decide) (by decide) (by decide)
  have l7 : (7 : Nat) ≤ lim := le_lim (by decide)
  have l2 : (2 : Nat) ≤ lim := le_lim (by decide)
  have l1 : (1 : Nat) ≤ lim := le_lim (by decide)
  obtain ⟨d, hd, ed⟩ := pick_at (xs := [.int (2 * size + 1), .int (-1), .bl true, .non, .str "0", .tup [.int 0], .int 100000000000000000000]) r0 (by simpa using r1)
  have pd : Plain d ∧ wholeB 0 (2 * size) d = false := by
    simp only [List.mem_cons, List.not_mem_nil, or_false] at hd
    rcases hd with rfl | rfl | rfl | rfl | rfl | rfl | rfl <;> refine ⟨trivial, ?_⟩ <;> simp [wholeB] <;> omega
  refine ⟨v1, d, ?_, g1, ?_⟩
  · rcases hk with rfl | rfl <;> simp [Dnpart, d__law_no_part, slots, in2i, m2, pLst, pTup, opNeg, vI, o_pow pw, l7, l2, l1, h1, ed]
  · rcases hk with rfl | rfl <;> exact pd
theorem part_bt (s0 : 1 ≤ size) (s1 : size ≤ 6) (t0 : 1 ≤ top) (hb : BG vh0 vh n (b + 1)) {k : Nat} (hk : k = 1 ∨ k = 5) : ∃ vh' d, Dnpart [.ref n, .int k, .int size, .int top] vh = .ok d vh' ∧ BG vh0 vh' n b ∧ NoPart size top k d := by
  obtain ⟨r, v1, h1, r0, r1, g1⟩ := take_ok (m := 7) hb (by omega) (by omega)
  have m2 := o_mul (mulOk_l (i := 2) (j := size) (by decide))
  have l7 : (7 : Nat) ≤ lim := le_lim (by decide)
  have l2 : (2 : Nat) ≤ lim := le_lim (by decide)
  have l1 : (1 : Nat) ≤ lim := le_lim (by decide)
  have l0 : (0 : Nat) ≤ lim := le_lim (by decide)
  obtain ⟨d, hd, ed⟩ := pick_at (xs := [.int 2, .int (-1), .bl true, .bl false, .non, .str "1", .lst []]) r0 (by simpa using r1)
  have pd : Plain d ∧ wholeB 0 1 d = false := by
    simp only [List.mem_cons, List.not_mem_nil, or_false] at hd
    rcases hd with rfl | rfl | rfl | rfl | rfl | rfl | rfl <;> refine ⟨trivial, ?_⟩ <;> simp [wholeB]
  refine ⟨v1, d, ?_, g1, ?_⟩
  · rcases hk with rfl | rfl <;> simp [Dnpart, d__law_no_part, slots, in2i, m2, pLst, pTup, opNeg, vI, l7, l2, l1, l0, h1, ed]
  · rcases hk with rfl | rfl <;> exact pd
theorem part_wd (s0 : 1 ≤ size) (s1 : size ≤ 6) (t0 : 1 ≤ top) (hb : BG vh0 vh n (b + 1)) {k : Nat} (hk : k = 2 ∨ k = 6) : ∃ vh' d, Dnpart [.ref n, .int k, .int size, .int top] vh = .ok d vh' ∧ BG vh0 vh' n b ∧ NoPart size top k d := by
  obtain ⟨r, v1, h1, r0, r1, g1⟩ := take_ok (m := 7) hb (by omega) (by omega)
  have m2 := o_mul (mulOk_l (i := 2) (j := size) (by decide))
  have l7 : (7 : Nat) ≤ lim := le_lim (by decide)
  have l2 : (2 : Nat) ≤ lim := le_lim (by decide)
  have l1 : (1 : Nat) ≤ lim := le_lim (by decide)
  have l0 : (0 : Nat) ≤ lim := le_lim (by decide)
  obtain ⟨d, hd, ed⟩ := pick_at (xs := [.int top, .int (-1), .bl true, .bl false, .str "", .tup [.int 0], .lst []]) r0 (by simpa using r1)
  have pd : Plain d ∧ bornB top d = false := by
    simp only [List.mem_cons, List.not_mem_nil, or_false] at hd
    rcases hd with rfl | rfl | rfl | rfl | rfl | rfl | rfl <;> refine ⟨trivial, ?_⟩ <;> simp [bornB, wholeB] <;> omega
  refine ⟨v1, d, ?_, g1, ?_⟩
  · rcases hk with rfl | rfl <;> simp [Dnpart, d__law_no_part, slots, in2i, m2, pLst, pTup, opNeg, vI, l7, l2, l1, l0, h1, ed]
  · rcases hk with rfl | rfl <;> exact pd
end
end PM

namespace PM
open PySem L2
theorem shp_no {d : D} (h : Plain d) (hn : ∀ xs, d ≠ .tup xs) : Shp d ∧ elts d = [] := by
  cases d <;> simp only [Plain] at h
  case tup xs => exact absurd rfl (hn xs)
  all_goals exact ⟨⟨trivial, fun x hx => by cases hx⟩, rfl⟩
theorem shp_one {x : D} (h : Plain x) (hp : ∀ a b, x = .tup [a, b] → Plain a ∧ Plain b) : Shp (.tup [x]) := ⟨trivial, fun y hy => by
  simp [elts] at hy
  subst hy
  exact ⟨h, hp⟩⟩
/-- what may not stand where a row does: rt the right pair -/
theorem row_bad {size top : Int} {y : D} {d : D} (s0 : 1 ≤ size) (s1 : size ≤ 6) (t0 : 1 ≤ top) (py : Plain y) (hd : d ∈ [D.tup (List.replicate (size + 1).toNat (.tup [.int 0, y])), .lst [.tup [.int 0, y]], .non, .int 0, .str "", .tup [.tup [.int 0, y, .int 0]], .tup [.tup [.int 0]], .tup [.lst [.int 0, y]], .tup [.non],
      .tup [.tup [.int (2 * size + 1), y]], .tup [.tup [.int (-1), y]], .tup [.tup [.bl true, y]], .tup [.tup [.int 0, .bl true]], .tup [.tup [.int 0, .int (top + 2)]], .tup [.tup [.int 0, .str ""]]]) :
    Shp d ∧ badL size top d = false ∧ badE size d = false := by
  have rep : ∀ n : Nat, size < n → rowB size (.tup (List.replicate n (.tup [.int 0, y]))) = false := fun n h => by simp [rowB]; omega
  simp only [List.mem_cons, List.not_mem_nil, or_false] at hd
  have tp : ∀ a b : D, Plain a → Plain b → Shp (.tup [.tup [a, b]]) := fun a b ha hb => shp_one trivial fun x z e => by cases e; exact ⟨ha, hb⟩
  rcases hd with rfl | rfl | rfl | rfl | rfl | rfl | rfl | rfl | rfl | rfl | rfl | rfl | rfl | rfl | rfl
  · refine ⟨⟨trivial, fun x hx => ?_⟩, by simp only [badL, rep _ (show size < ((size + 1).toNat : Nat) by omega), Bool.false_and], by simp only [badE, rep _ (show size < ((size + 1).toNat : Nat) by omega), Bool.false_and]⟩
    have := List.eq_of_mem_replicate (show x ∈ List.replicate _ _ from hx)
    subst this
    exact ⟨trivial, fun a b e => by cases e; exact ⟨trivial, py⟩⟩
  · exact ⟨(shp_no (d := .lst _) trivial fun _ z => by cases z).1, rfl, rfl⟩
  · exact ⟨(shp_no (d := .non) trivial fun _ z => by cases z).1, rfl, rfl⟩
  · exact ⟨(shp_no (d := .int 0) trivial fun _ z => by cases z).1, rfl, rfl⟩
  · exact ⟨(shp_no (d := .str _) trivial fun _ z => by cases z).1, rfl, rfl⟩
  · exact ⟨shp_one trivial (fun a b e => by cases e), by simp [badL, elts, itmB], by simp [badE, elts, itmB]⟩
  · exact ⟨shp_one trivial (fun a b e => by cases e), by simp [badL, elts, itmB], by simp [badE, elts, itmB]⟩
  · exact ⟨shp_one trivial (fun a b e => by cases e), by simp [badL, elts, itmB], by simp [badE, elts, itmB]⟩
  · exact ⟨shp_one trivial (fun a b e => by cases e), by simp [badL, elts, itmB], by simp [badE, elts, itmB]⟩
  · exact ⟨tp _ _ trivial py, by simp [badL, elts, itmB, wholeB]; omega, by simp [badE, elts, itmB, wholeB]; omega⟩
  · exact ⟨tp _ _ trivial py, by simp [badL, elts, itmB, wholeB], by simp [badE, elts, itmB, wholeB]⟩
  · exact ⟨tp _ _ trivial py, by simp [badL, elts, itmB, wholeB], by simp [badE, elts, itmB, wholeB]⟩
  · exact ⟨tp _ _ trivial trivial, by simp [badL, elts, itmB, bornB, wholeB, sndD], by simp [badE, elts, itmB, wholeB, sndD]⟩
  · exact ⟨tp _ _ trivial trivial, by simp [badL, elts, itmB, bornB, wholeB, sndD]; omega, by simp [badE, elts, itmB, wholeB, sndD]; omega⟩
  · exact ⟨tp _ _ trivial trivial, by simp [badL, elts, itmB, bornB, wholeB, sndD], by simp [badE, elts, itmB, wholeB, sndD]⟩
section
variable {n b : Nat} {vh0 vh : VH} {size top : Int}
theorem part_rw (s0 : 1 ≤ size) (s1 : size ≤ 6) (t0 : 1 ≤ top) (hb : BG vh0 vh n (b + 1)) {k : Nat} (hk : k = 3 ∨ k = 7) : ∃ vh' d, Dnpart [.ref n, .int k, .int size, .int top] vh = .ok d vh' ∧ BG vh0 vh' n b ∧ NoPart size top k d := by
  obtain ⟨r, v1, h1, r0, r1, g1⟩ := take_ok (m := 15) hb (by omega) (by omega)
  have m2 := o_mul (mulOk_l (i := 2) (j := size) (by decide))
  have ll : ∀ k : Nat, k ≤ 100 → k ≤ lim := fun k h => le_lim (by omega)
  have l1 := ll 1 (by omega); have l2 := ll 2 (by omega); have l3 := ll 3 (by omega); have l9 := ll 9 (by omega); have l12 := ll 12 (by omega); have l15 := ll 15 (by omega); have l0 := ll 0 (by omega)
  obtain ⟨y, py, ey⟩ : ∃ y : D, Plain y ∧ (k = 3 ∧ y = .non ∨ k = 7 ∧ y = .int 0) := by
    rcases hk with rfl | rfl
    · exact ⟨.non, trivial, .inl ⟨rfl, rfl⟩⟩
    · exact ⟨.int 0, trivial, .inr ⟨rfl, rfl⟩⟩
  have mu : ∀ y : D, opMul (.tup [.tup [.int 0, y]]) (.int (size + 1)) = some (.v (.tup (List.replicate (size + 1).toNat (.tup [.int 0, y])))) := fun y => by
    have c : (size + 1 < 1000000 ∧ -1000000 < size + 1) ∧ 1 * (size + 1).toNat ≤ lim := ⟨by omega, by rw [Nat.one_mul]; exact ll _ (by omega)⟩
    simp only [opMul, List.length_cons, List.length_nil, Nat.zero_add, if_pos c]
    congr 3
    generalize (size + 1).toNat = m
    induction m with
    | zero => rfl
    | succ m ih => simp [List.replicate_succ, ih]
  have cu : ∀ a c : D, cutL [a, c] none (some 1) = [a] := fun a c => by simp [cutL, HT.sIx]
  obtain ⟨d, hd, ed⟩ := pick_at (xs := [D.tup (List.replicate (size + 1).toNat (.tup [.int 0, y])), .lst [.tup [.int 0, y]], .non, .int 0, .str "", .tup [.tup [.int 0, y, .int 0]], .tup [.tup [.int 0]], .tup [.lst [.int 0, y]], .tup [.non],
      .tup [.tup [.int (2 * size + 1), y]], .tup [.tup [.int (-1), y]], .tup [.tup [.bl true, y]], .tup [.tup [.int 0, .bl true]], .tup [.tup [.int 0, .int (top + 2)]], .tup [.tup [.int 0, .str ""]]]) r0 (by simpa using r1)
  obtain ⟨q1, q2, q3⟩ := row_bad s0 s1 t0 py hd
  refine ⟨v1, d, ?_, g1, ?_⟩
  · rcases ey with ⟨rfl, rfl⟩ | ⟨rfl, rfl⟩ <;> simp [Dnpart, d__law_no_part, slots, in2i, m2, mu, cu, pCut, bLst, pLst, pTup, opNeg, vI, l15, l12, l9, l3, l2, l1, l0, h1, ed]
  · rcases ey with ⟨rfl, rfl⟩ | ⟨rfl, rfl⟩
    · exact ⟨q1, q2⟩
    · exact ⟨q1, q3⟩
theorem part_ok (s0 : 1 ≤ size) (s1 : size ≤ 6) (t0 : 1 ≤ top) (hb : BG vh0 vh n (b + 1)) {k : Nat} (hk : k < 8) : ∃ vh' d, Dnpart [.ref n, .int k, .int size, .int top] vh = .ok d vh' ∧ BG vh0 vh' n b ∧ NoPart size top k d := by
  have : (k = 0 ∨ k = 4) ∨ (k = 1 ∨ k = 5) ∨ (k = 2 ∨ k = 6) ∨ (k = 3 ∨ k = 7) := by omega
  rcases this with h | h | h | h
  · exact part_mk s0 s1 t0 hb h
  · exact part_bt s0 s1 t0 hb h
  · exact part_wd s0 s1 t0 hb h
  · exact part_rw s0 s1 t0 hb h
end
end PM

namespace PM
open PySem L2
/-- no store -/
def NoSt (hold bound : Int) (d : D) : Prop := ∀ vh, Dis [d, .int hold, .int bound] vh = .ok (.bl false) vh
theorem nost_not {hold bound : Int} {d : D} (h : Plain d) (hn : ∀ xs, d = .tup xs → xs.length ≠ 8) : NoSt hold bound d := fun _ => isst_not h hn
section
variable {hold bound : Int} {a b c l e f g r : D}
theorem stB_L (h : badL hold bound l = false) : stB hold bound a b c l e f g r = false := by
  unfold badL at h
  unfold stB
  rw [List.all_append]
  cases h1 : rowB hold l <;> cases h2 : (elts l).all (itmB hold) <;> cases h3 : (elts l).all (fun x => bornB bound (sndD x)) <;> simp_all
theorem stB_R (h : badE hold r = false) : stB hold bound a b c l e f g r = false := by
  unfold badE at h
  unfold stB
  rw [List.all_append]
  cases h1 : rowB hold r <;> cases h2 : (elts r).all (itmB hold) <;> cases h3 : (elts r).all (fun x => wholeB 0 1 (sndD x)) <;> simp_all
end
theorem oD_plain (s : Option Int) : Plain (oD s) := by cases s <;> trivial
theorem letS (ps : List (Int × Option Int)) : Shp (.tup (ps.map pD)) := ⟨trivial, fun x hx => by
  obtain ⟨p, hp, rfl⟩ := List.mem_map.mp hx
  exact ⟨trivial, fun a b e => by cases e; exact ⟨trivial, oD_plain _⟩⟩⟩
theorem echS (ps : List (Int × Int)) : Shp (.tup (ps.map qD)) := ⟨trivial, fun x hx => by
  obtain ⟨p, hp, rfl⟩ := List.mem_map.mp hx
  exact ⟨trivial, fun a b e => by cases e; exact ⟨trivial, trivial⟩⟩⟩
section
variable {n b : Nat} {vh0 vh : VH} {size top : Int} {v : WS} {sl : Sl}
theorem nsE_ok (h0 : sl[0]? = some (some (.ref n))) (h1 : sl[1]? = some (some (.int size))) (h2 : sl[2]? = some (some (.int top))) (h3 : sl[3]? = some (some (sD v))) {k : Nat} (h4 : sl[4]? = some (some (.int k))) (hk : k < 8)
    (s0 : 1 ≤ size) (s1 : size ≤ 6) (t0 : 1 ≤ top) (hb : BG vh0 vh n (b + 1)) :
    ∃ d vh', d__law_no_store_E1 Dtake Dnpart Dlstore sl vh = .ok (.v d) vh' ∧ NoSt size top d ∧ BG vh0 vh' n b := by
  obtain ⟨vh1, x, e1, g1, np⟩ := part_ok s0 s1 t0 hb hk
  have ll : ∀ k : Nat, k ≤ 100 → k ≤ lim := fun k h => le_lim (by omega)
  have l0 := ll 0 (by omega); have l1 := ll 1 (by omega); have l2 := ll 2 (by omega); have l3 := ll 3 (by omega); have l4 := ll 4 (by omega); have l5 := ll 5 (by omega); have l6 := ll 6 (by omega); have l7 := ll 7 (by omega); have l8 := ll 8 (by omega)
  have : k = 0 ∨ k = 1 ∨ k = 2 ∨ k = 3 ∨ k = 4 ∨ k = 5 ∨ k = 6 ∨ k = 7 := by omega
  have pI : ∀ i : Int, Plain (.int i) := fun _ => trivial
  have pS := oD_plain v.slot
  have pB := oD_plain v.box
  have sL := letS v.letters
  have sE := echS v.echoes
  rcases this with rfl | rfl | rfl | rfl | rfl | rfl | rfl | rfl
  · simp at e1 h4
    exact ⟨_, vh1, by simp [d__law_no_store_E1, h0, h1, h2, h3, h4, sD, ar0__law_no_part, e1, pCut, cutL, HT.sIx, pTup, opAdd, vI, l0, l1, l2, l3, l4, l5, l6, l7, l8]; rfl, fun vh => by rw [isst_gen np.1 (pI _) pS sL (pI _) (pI _) pB sE s1]; simp [stB, np.2], g1⟩
  · simp at e1 h4
    exact ⟨_, vh1, by simp [d__law_no_store_E1, h0, h1, h2, h3, h4, sD, ar0__law_no_part, e1, pCut, cutL, HT.sIx, pTup, opAdd, vI, l0, l1, l2, l3, l4, l5, l6, l7, l8]; rfl, fun vh => by rw [isst_gen (pI _) np.1 pS sL (pI _) (pI _) pB sE s1]; simp [stB, np.2], g1⟩
  · simp at e1 h4
    exact ⟨_, vh1, by simp [d__law_no_store_E1, h0, h1, h2, h3, h4, sD, ar0__law_no_part, e1, pCut, cutL, HT.sIx, pTup, opAdd, vI, l0, l1, l2, l3, l4, l5, l6, l7, l8]; rfl, fun vh => by rw [isst_gen (pI _) (pI _) np.1 sL (pI _) (pI _) pB sE s1]; simp [stB, np.2], g1⟩
  · simp at e1 h4
    exact ⟨_, vh1, by simp [d__law_no_store_E1, h0, h1, h2, h3, h4, sD, ar0__law_no_part, e1, pCut, cutL, HT.sIx, pTup, opAdd, vI, l0, l1, l2, l3, l4, l5, l6, l7, l8]; rfl, fun vh => by rw [isst_gen (pI _) (pI _) pS np.1 (pI _) (pI _) pB sE s1, stB_L np.2], g1⟩
  · simp at e1 h4
    exact ⟨_, vh1, by simp [d__law_no_store_E1, h0, h1, h2, h3, h4, sD, ar0__law_no_part, e1, pCut, cutL, HT.sIx, pTup, opAdd, vI, l0, l1, l2, l3, l4, l5, l6, l7, l8]; rfl, fun vh => by rw [isst_gen (pI _) (pI _) pS sL np.1 (pI _) pB sE s1]; simp [stB, np.2], g1⟩
  · simp at e1 h4
    exact ⟨_, vh1, by simp [d__law_no_store_E1, h0, h1, h2, h3, h4, sD, ar0__law_no_part, e1, pCut, cutL, HT.sIx, pTup, opAdd, vI, l0, l1, l2, l3, l4, l5, l6, l7, l8]; rfl, fun vh => by rw [isst_gen (pI _) (pI _) pS sL (pI _) np.1 pB sE s1]; simp [stB, np.2], g1⟩
  · simp at e1 h4
    exact ⟨_, vh1, by simp [d__law_no_store_E1, h0, h1, h2, h3, h4, sD, ar0__law_no_part, e1, pCut, cutL, HT.sIx, pTup, opAdd, vI, l0, l1, l2, l3, l4, l5, l6, l7, l8]; rfl, fun vh => by rw [isst_gen (pI _) (pI _) pS sL (pI _) (pI _) np.1 sE s1]; simp [stB, np.2], g1⟩
  · simp at e1 h4
    exact ⟨_, vh1, by simp [d__law_no_store_E1, h0, h1, h2, h3, h4, sD, ar0__law_no_part, e1, pCut, cutL, HT.sIx, pTup, opAdd, vI, l0, l1, l2, l3, l4, l5, l6, l7, l8]; rfl, fun vh => by rw [isst_gen (pI _) (pI _) pS sL (pI _) (pI _) pB np.1 s1, stB_R np.2], g1⟩
end
end PM

namespace PM
open PySem L2
noncomputable def Dnost : Den := runD 7 (d__law_no_store Dtake Dnpart Dlstore)
section
variable {n k : Nat} {vh : VH} {size top : Int}
theorem nine_no {v : WS} {d : D} (hd : d ∈ [D.lst [.int v.mark, .int v.bears, oD v.slot, .tup (v.letters.map pD), .int v.last, .int v.took, oD v.box, .tup (v.echoes.map qD)],
      .tup [.int v.mark, .int v.bears, oD v.slot, .tup (v.letters.map pD), .int v.last, .int v.took, oD v.box],
      .tup [.int v.mark, .int v.bears, oD v.slot, .tup (v.letters.map pD), .int v.last, .int v.took, oD v.box, .tup (v.echoes.map qD), .int 0],
      .non, .int 0, .str "", .dct [], .tup [], .tup [.tup (v.echoes.map qD), oD v.box, .int v.took, .int v.last, .tup (v.letters.map pD)]]) : NoSt size top d := by
  simp only [List.mem_cons, List.not_mem_nil, or_false] at hd
  rcases hd with rfl | rfl | rfl | rfl | rfl | rfl | rfl | rfl | rfl
  all_goals exact nost_not trivial (fun xs e => by cases e <;> simp)
theorem nsC_ok {v : WS} {sl : Sl} {k q : Nat} {vh : VH} (h0 : sl[0]? = some (some (.ref n))) (h1 : sl[1]? = some (some (.int size))) (h2 : sl[2]? = some (some (.int top))) (h3 : sl[3]? = some (some (sD v))) (h4 : sl[4]? = some (some (.int q))) (hq : q < 8)
    (s0 : 1 ≤ size) (s1 : size ≤ 6) (t0 : 1 ≤ top) (h : BagAt vh n (k + 16)) :
    ∃ acc vh', lcLoop none (gNm 6) tYesF (d__law_no_store_E1 Dtake Dnpart Dlstore) sl (rngI 0 16) [] vh = .ok acc vh' ∧ acc.length = 16 ∧ BG vh vh' n k ∧ ∀ d ∈ acc, NoSt size top d := by
  obtain ⟨acc, vh2, e, hl, hg, hp⟩ := lcLoop_inv (γ := gNm 6) (τ := tYesF) (φ := d__law_no_store_E1 Dtake Dnpart Dlstore) (sl := sl) (vh := vh) (items := rngI 0 16)
    (fun i acc w => BG vh w n (k + (16 - i)) ∧ ∀ d ∈ acc, NoSt size top d) ⟨BG.of h, by simp⟩ (le_lim (by simp [rngI])) (by
    rintro i hi acc w ha ⟨hg, hp⟩
    have hi : i < 16 := by simpa [rngI] using hi
    obtain ⟨d, w2, e, nd, g2⟩ := nsE_ok (sl := sl.set 6 (some ((rngI 0 16)[i]))) (v := v) (b := k + (16 - (i + 1))) (by simpa using h0) (by simpa using h1) (by simpa using h2) (by simpa using h3) (by simpa using h4) hq s0 s1 t0 (hg.mono (by omega))
    refine ⟨_, w, .v d, w2, rfl, rfl, e, g2, ?_⟩
    intro x hx
    rcases List.mem_append.mp hx with hx | hx
    · exact hp x hx
    · have := List.mem_singleton.mp hx
      subst this
      exact nd)
  have e3 : (rngI 0 16).length = 16 := by simp [rngI]
  rw [e3] at hg hl
  exact ⟨acc, vh2, e, hl, hg.mono (by omega), hp⟩
theorem nost_ok (h : BagAt vh n (k + 130)) (s0 : 1 ≤ size) (s1 : size ≤ 6) (t0 : 1 ≤ top) (t1 : top ≤ 40) :
    ∃ d vh', Dnost [.ref n, .int size, .int top] vh = .ok d vh' ∧ NoSt size top d ∧ BagAt vh' n k ∧ vh.length ≤ vh'.length ∧ ∀ j < vh.length, j ≠ n → vh'[j]? = vh[j]? := by
  obtain ⟨v, vh1, e1, kv, b1, len1, f1⟩ := lstore_ok (k := k + 30) (h.mono (by omega)) s0 s1 t0 t1
  obtain ⟨r, vh2, e2, r0, r1, g2⟩ := take_ok (m := 8) (b := k + 29) (BG.of (b1.mono (by omega))) (by omega) (by omega)
  obtain ⟨q, rfl⟩ : ∃ q : Nat, r = q := ⟨r.toNat, by omega⟩
  have ll : ∀ k : Nat, k ≤ 100 → k ≤ lim := fun k h => le_lim (by omega)
  have l1 := ll 1 (by omega); have l9 := ll 9 (by omega); have l0 := ll 0 (by omega); have l8 := ll 8 (by omega); have l25 := ll 25 (by omega)
  obtain ⟨N, hN⟩ : ∃ N : List D, N = [D.lst [.int v.mark, .int v.bears, oD v.slot, .tup (v.letters.map pD), .int v.last, .int v.took, oD v.box, .tup (v.echoes.map qD)],
      .tup [.int v.mark, .int v.bears, oD v.slot, .tup (v.letters.map pD), .int v.last, .int v.took, oD v.box],
      .tup [.int v.mark, .int v.bears, oD v.slot, .tup (v.letters.map pD), .int v.last, .int v.took, oD v.box, .tup (v.echoes.map qD), .int 0],
      .non, .int 0, .str "", .dct [], .tup [], .tup [.tup (v.echoes.map qD), oD v.box, .int v.took, .int v.last, .tup (v.letters.map pD)]] := ⟨_, rfl⟩
  obtain ⟨acc, vh3, e3, al, g3, hp⟩ := nsC_ok (v := v) (k := k + 10) (q := q) (size := size) (top := top) (vh := vh2)
    (sl := [some (.ref n), some (.int size), some (.int top), some (sD v), some (.int q), some (.lst N), none]) rfl rfl rfl rfl rfl (by omega) s0 s1 t0 (g2.1.mono (by omega))
  have nl : N.length = 9 := by rw [hN]; rfl
  have tl : (N ++ acc).length = 25 := by simp [nl, al]
  obtain ⟨i, vh4, e4, i0, i1, g4⟩ := take_ok (m := 25) (b := k) (BG.of (g3.1.mono (by omega))) (by omega) (by omega)
  obtain ⟨d, hd, ed⟩ := pick_at (xs := N ++ acc) i0 (by rw [tl]; omega)
  refine ⟨d, vh4, ?_, ?_, g4.1, ?_, fun j hj hn => ?_⟩
  · subst hN
    try simp only [List.cons_append, List.nil_append] at ed tl
    simp [Dnost, d__law_no_store, slots, ar0__law_store, ar0__law_take, e1, e2]
    try simp [sD, pCut, cutL, HT.sIx, pTup, pLst, opAdd, opNeg, vI, l0, l1, l8, l9]
    simp only [sD] at e3
    simp [wipeS, e3, al, l25, e4, ed]
  · rcases List.mem_append.mp hd with hd | hd
    · rw [hN] at hd; exact nine_no hd
    · exact hp d hd
  · have := g4.2.1; have := g3.2.1; have := g2.2.1; omega
  · rw [g4.2.2 j hn, g3.2.2 j hn, g2.2.2 j hn, f1 j hj hn]
end
end PM

namespace PM
open PySem L2
theorem bt_eqs {w : WS} {x : Option Int} {t a b : Bool} : (w.beat x t a b).hold = w.hold ∧ (w.beat x t a b).miss = w.miss ∧ (w.beat x t a b).bound = w.bound ∧ (w.beat x t a b).ll = (w.lost a b).1 ∧ (w.beat x t a b).le = (w.lost a b).2 ∧ (w.beat x t a b).letters = w.letters.tail ++ (if a then [] else [w.letter]) := by
  refine ⟨?_, ?_, ?_, ?_, ?_, ?_⟩ <;> simp [WS.beat, WS.fills, WS.sends, WS.spent]
/-- a beat that is not refused -/
theorem bt_ok {vh : VH} {n l e : Nat} {w : WS} (h : WayAt vh n l e w) (k : WOk w) {a b : Bool} (h1 : (w.lost a b).1 < w.miss) (h2 : (w.lost a b).2 < w.miss) :
    ∃ d vh' l' e', Dbeat [.ref n, .non, .bl false, .tup [.bl a, .bl b]] vh = .ok d vh' ∧ Go vh n l e vh' l' e' (w.beat none false a b) ∧ WOk (w.beat none false a b) := by
  have c1 := k.ok.ll; have c2 := k.ok.el; have c3 := k.h1
  obtain ⟨vh', l', e', e1, g⟩ := beat_ok h k.h0 (k.lr.mono (by decide) (by decide)) (by omega) (by omega) (word := none) (taking := false) (fun i hi => by cases hi) h1 h2
  exact ⟨_, vh', l', e', e1, g, k.beat InB.none h1 h2⟩
def WS.wear (a b : Bool) : Nat → WS → WS × Bool
  | 0, w => (w, true)
  | j + 1, w => if (w.beat none false a b).letters = [] ∧ b = true then (w.beat none false a b, false) else WS.wear a b j (w.beat none false a b)
def prs : D := .lst [.tup [.bl true, .bl false], .tup [.bl false, .bl true], .tup [.bl true, .bl true]]
def sA (s : Nat) : Bool := s != 1
def sB (s : Nat) : Bool := s != 0
theorem prs_at {s : Nat} (h : s < 3) : atI [D.tup [.bl true, .bl false], .tup [.bl false, .bl true], .tup [.bl true, .bl true]] (s : Int) = some (.tup [.bl (sA s), .bl (sB s)]) := by
  have : s = 0 ∨ s = 1 ∨ s = 2 := by omega
  rcases this with rfl | rfl | rfl <;> rfl
theorem k_lr {w : WS} (k : WOk w) : Rps 3 100000 (w.letters.map pD) := k.lr.mono (by decide) (by decide)
/-- one beat of the wear -/
theorem wearL1 {vh : VH} {n l e s : Nat} {w : WS} {gap : Int} {x : Option D} (h : WayAt vh n l e w) (k : WOk w) (hs : s < 3) (h1 : (w.lost (sA s) (sB s)).1 < w.miss) (h2 : (w.lost (sA s) (sB s)).2 < w.miss) :
    ∃ vh' l' e', Go vh n l e vh' l' e' (w.beat none false (sA s) (sB s)) ∧ WOk (w.beat none false (sA s) (sB s)) ∧
      d__law_worn_L1 Dstore Dbeat [some (.ref n), some (.int gap), some (.int s), some prs, x] vh =
        if (w.beat none false (sA s) (sB s)).letters = [] ∧ sB s = true then .rt (.bl false) vh' else .nx [some (.ref n), some (.int gap), some (.int s), some prs, x] vh' := by
  obtain ⟨d, vh', l', e', e1, g, k'⟩ := bt_ok h k h1 h2
  refine ⟨vh', l', e', g, k', ?_⟩
  generalize w.beat none false (sA s) (sB s) = w' at *
  have e2 := store_ok g.way
  have e3 := (k_lr k').eq_nilT (by decide)
  have pa := prs_at hs
  have i3 : ∀ a b c d e f g h : D, atI [a, b, c, d, e, f, g, h] 3 = some d := fun _ _ _ _ _ _ _ _ => rfl
  have sb : sB s = decide (0 < (s : Int)) := by
    have : s = 0 ∨ s = 1 ∨ s = 2 := by omega
    rcases this with rfl | rfl | rfl <;> rfl
  have ar : arrOf [0, 2, 3, 1] [D.non, D.bl false] [D.ref n, D.tup [D.bl (sA s), D.bl (sB s)]] = [D.ref n, .non, .bl false, D.tup [D.bl (sA s), D.bl (sB s)]] := rfl
  simp [d__law_worn_L1, prs, pa, ar0_Way_beat, ar0_Way_store, ar, vw_w h.at_, vw_w g.way.at_, isI, e1, e2, sD, i3, e3]
  by_cases q : w'.letters = []
  · by_cases q2 : 0 < s
    · simp [q, q2, sb]
    · simp [q, q2, sb]
  · simp [q]
end PM

namespace PM
open PySem L2
theorem lost_le {w : WS} {a b : Bool} (k : WOk w) : (w.lost a b).1 ≤ w.ll + 1 ∧ (w.lost a b).2 ≤ w.le + 1 := by
  have := k.l0; have := k.e0
  unfold WS.lost
  refine ⟨?_, ?_⟩
  · show (if a then w.ll + 1 else 0) ≤ _; split <;> omega
  · show (if w.letters = [] then w.le else if b then w.le + 1 else 0) ≤ _; split <;> (try split) <;> omega
theorem wear_lp {n s : Nat} (hs : s < 3) {gap : Int} : ∀ (items : List D) {vh : VH} {l e : Nat} {w : WS} {x : Option D}, WayAt vh n l e w → WOk w → w.ll + items.length < w.miss → w.le + items.length < w.miss →
    ∃ vh' l' e', Go vh n l e vh' l' e' (w.wear (sA s) (sB s) items.length).1 ∧ WOk (w.wear (sA s) (sB s) items.length).1 ∧
      ((w.wear (sA s) (sB s) items.length).2 = false → sLoop none (gNm 4) (d__law_worn_L1 Dstore Dbeat) items [some (.ref n), some (.int gap), some (.int s), some prs, x] vh = .rt (.bl false) vh') ∧
      ((w.wear (sA s) (sB s) items.length).2 = true → ∃ x', sLoop none (gNm 4) (d__law_worn_L1 Dstore Dbeat) items [some (.ref n), some (.int gap), some (.int s), some prs, x] vh = .nx [some (.ref n), some (.int gap), some (.int s), some prs, x'] vh')
  | [], vh, l, e, w, x, h, k, _, _ => ⟨vh, l, e, ⟨h, Nat.le_refl _, fun _ _ _ _ _ => rfl, .inl rfl, .inl rfl⟩, k, fun h => by simp [WS.wear] at h, fun _ => ⟨x, by simp [sLoop]⟩⟩
  | d :: ds, vh, l, e, w, x, h, k, hl, he => by
    simp only [List.length_cons] at hl he
    obtain ⟨c1, c2⟩ := lost_le (a := sA s) (b := sB s) k
    obtain ⟨vh1, l1, e1, g1, k1, q1⟩ := wearL1 (gap := gap) (x := some d) h k hs (by omega) (by omega)
    obtain ⟨_, b2, _, b4, b5, _⟩ := bt_eqs (w := w) (x := none) (t := false) (a := sA s) (b := sB s)
    by_cases q : (w.beat none false (sA s) (sB s)).letters = [] ∧ sB s = true
    · rw [if_pos q] at q1
      have ew : w.wear (sA s) (sB s) (ds.length + 1) = (w.beat none false (sA s) (sB s), false) := by simp only [WS.wear, if_pos q]
      refine ⟨vh1, l1, e1, ?_, ?_, fun _ => ?_, fun h => ?_⟩
      · rw [List.length_cons, ew]; exact g1
      · rw [List.length_cons, ew]; exact k1
      · simp [sLoop, q1]
      · rw [List.length_cons, ew] at h; cases h
    · rw [if_neg q] at q1
      have ew : w.wear (sA s) (sB s) (ds.length + 1) = (w.beat none false (sA s) (sB s)).wear (sA s) (sB s) ds.length := by simp only [WS.wear, if_neg q]
      obtain ⟨vh2, l2, e2, g2, k2, y1, y2⟩ := wear_lp hs (gap := gap) ds (x := some d) g1.way k1 (by rw [b2, b4]; omega) (by rw [b2, b5]; omega)
      rw [List.length_cons, ew]
      refine ⟨vh2, l2, e2, g1.trans g2, k2, fun h => ?_, fun h => ?_⟩
      · have := y1 h
        simp [sLoop, q1, this]
      · obtain ⟨x', e⟩ := y2 h
        exact ⟨x', by simp [sLoop, q1, e]⟩
end PM

namespace PM
open PySem L2
theorem wear_sz {a b : Bool} : ∀ (j : Nat) {w : WS}, (w.wear a b j).1.hold = w.hold ∧ (w.wear a b j).1.miss = w.miss ∧ (w.wear a b j).1.bound = w.bound
  | 0, w => ⟨rfl, rfl, rfl⟩
  | j + 1, w => by
    obtain ⟨b1, b2, b3, _⟩ := bt_eqs (w := w) (x := none) (t := false) (a := a) (b := b)
    unfold WS.wear
    split
    · exact ⟨b1, b2, b3⟩
    · obtain ⟨c1, c2, c3⟩ := wear_sz (a := a) (b := b) j (w := w.beat none false a b)
      exact ⟨c1.trans b1, c2.trans b2, c3.trans b3⟩
theorem wear_ll {b : Bool} : ∀ (j : Nat) {w : WS}, (w.wear true b j).2 = true → (w.wear true b j).1.ll = w.ll + j
  | 0, w, _ => by simp [WS.wear]
  | j + 1, w, h => by
    obtain ⟨b1, b2, b3, b4, _⟩ := bt_eqs (w := w) (x := none) (t := false) (a := true) (b := b)
    unfold WS.wear at h ⊢
    split at h
    · cases h
    · rename_i q
      rw [if_neg q]
      have := wear_ll j h
      rw [b4] at this
      simp only [WS.lost, if_true] at this
      omega
theorem wear_le : ∀ (j : Nat) {w : WS}, w.letters ≠ [] → (w.wear false true j).2 = true → (w.wear false true j).1.le = w.le + j ∧ (w.wear false true j).1.letters ≠ []
  | 0, w, hl, _ => ⟨by simp [WS.wear], hl⟩
  | j + 1, w, hl, h => by
    obtain ⟨b1, b2, b3, b4, b5, b6⟩ := bt_eqs (w := w) (x := none) (t := false) (a := false) (b := true)
    unfold WS.wear at h ⊢
    split at h
    · cases h
    · rename_i q
      rw [if_neg q]
      have := wear_le j (by rw [b6]; simp) h
      rw [b5] at this
      simp only [WS.lost, if_neg hl, if_true] at this
      exact ⟨by omega, this.2⟩
def WS.rest (w : WS) : WS := (w.beat none false false false).beat none false false false
def WS.worn (w : WS) (s : Nat) : WS × Bool := ((w.rest.wear (sA s) (sB s) (w.miss - 1).toNat).1, (w.rest.wear (sA s) (sB s) (w.miss - 1).toNat).2 && (!(w.rest.wear (sA s) (sB s) (w.miss - 1).toNat).1.letters.isEmpty || decide (s = 0)))
theorem rest_eqs {w : WS} (hl : w.ll = 0) (he : w.le = 0) : w.rest.hold = w.hold ∧ w.rest.miss = w.miss ∧ w.rest.bound = w.bound ∧ w.rest.ll = 0 ∧ w.rest.le = 0 ∧ w.rest.letters ≠ [] := by
  obtain ⟨a1, a2, a3, a4, a5, a6⟩ := bt_eqs (w := w) (x := none) (t := false) (a := false) (b := false)
  obtain ⟨b1, b2, b3, b4, b5, b6⟩ := bt_eqs (w := w.beat none false false false) (x := none) (t := false) (a := false) (b := false)
  have c5 : (w.beat none false false false).le = 0 := by rw [a5]; unfold WS.lost; show (if w.letters = [] then w.le else if false then w.le + 1 else 0) = 0; split <;> simp [he]
  refine ⟨b1.trans a1, b2.trans a2, b3.trans a3, ?_, ?_, ?_⟩
  · show ((w.beat none false false false).beat none false false false).ll = 0; rw [b4]; simp [WS.lost]
  · show ((w.beat none false false false).beat none false false false).le = 0; rw [b5]; unfold WS.lost; show (if _ then (w.beat none false false false).le else if false then _ else 0) = 0; split <;> simp [c5]
  · show ((w.beat none false false false).beat none false false false).letters ≠ []; rw [b6]; simp
theorem worn_eqs {w : WS} {s : Nat} (hs : s < 3) (k : WOk w) (hl : w.ll = 0) (he : w.le = 0) : (w.worn s).1.hold = w.hold ∧ (w.worn s).1.miss = w.miss ∧ (w.worn s).1.bound = w.bound ∧
    ((w.worn s).2 = true → (s ≠ 1 → (w.worn s).1.ll = w.miss - 1) ∧ (s = 1 → (w.worn s).1.le = w.miss - 1 ∧ (w.worn s).1.letters ≠ [])) := by
  obtain ⟨r1, r2, r3, r4, r5, r6⟩ := rest_eqs hl he
  obtain ⟨c1, c2, c3⟩ := wear_sz (a := sA s) (b := sB s) (w.miss - 1).toNat (w := w.rest)
  have m0 := k.m0
  refine ⟨c1.trans r1, c2.trans r2, c3.trans r3, fun h => ?_⟩
  have h2 : (w.rest.wear (sA s) (sB s) (w.miss - 1).toNat).2 = true := by
    simp only [WS.worn, Bool.and_eq_true] at h; exact h.1
  have : s = 0 ∨ s = 1 ∨ s = 2 := by omega
  rcases this with rfl | rfl | rfl
  · refine ⟨fun _ => ?_, fun h => by cases h⟩
    have := wear_ll (b := sB 0) (w.miss - 1).toNat (w := w.rest) h2
    show (w.rest.wear true (sB 0) (w.miss - 1).toNat).1.ll = _
    omega
  · refine ⟨fun h => absurd rfl h, fun _ => ?_⟩
    have := wear_le (w.miss - 1).toNat r6 h2
    exact ⟨by show (w.rest.wear false true (w.miss - 1).toNat).1.le = _; omega, this.2⟩
  · refine ⟨fun _ => ?_, fun h => by cases h⟩
    have := wear_ll (b := sB 2) (w.miss - 1).toNat (w := w.rest) h2
    show (w.rest.wear true (sB 2) (w.miss - 1).toNat).1.ll = _
    omega
end PM

namespace PM
open PySem L2
noncomputable def Dworn : Den := runD 5 (d__law_worn Dstore Dbeat)
theorem lost_ff {w : WS} (hl : w.ll = 0) (he : w.le = 0) : w.lost false false = (0, 0) := by
  unfold WS.lost
  rw [he]
  by_cases q : w.letters = [] <;> simp [q]
theorem rest_ok {vh : VH} {n l e : Nat} {w : WS} {a1 a2 a3 a4 : Option D} (h : WayAt vh n l e w) (k : WOk w) (hl : w.ll = 0) (he : w.le = 0) :
    ∃ vh' l' e' x, sLoop none (gNm 4) (d__law_worn_L2 Dstore Dbeat) (rngI 0 2) [some (.ref n), a1, a2, a3, a4] vh = .nx [some (.ref n), a1, a2, a3, x] vh' ∧ Go vh n l e vh' l' e' w.rest ∧ WOk w.rest := by
  have m0 := k.m0
  have q1 := lost_ff hl he
  obtain ⟨b1, b2, b3, b4, b5, b6⟩ := bt_eqs (w := w) (x := none) (t := false) (a := false) (b := false)
  have q2 := lost_ff (w := w.beat none false false false) (by rw [b4, q1]) (by rw [b5, q1])
  obtain ⟨d1, v1, l1, e1, y1, g1, k1⟩ := bt_ok h k (a := false) (b := false) (by rw [q1]; show (0 : Int) < _; omega) (by rw [q1]; show (0 : Int) < _; omega)
  obtain ⟨d2, v2, l2, e2, y2, g2, k2⟩ := bt_ok g1.way k1 (a := false) (b := false) (by rw [q2, b2]; show (0 : Int) < _; omega) (by rw [q2, b2]; show (0 : Int) < _; omega)
  have hr : rngI 0 2 = [.int 0, .int 1] := rfl
  refine ⟨v2, l2, e2, some (.int 1), ?_, g1.trans g2, k2⟩
  simp [hr, sLoop, d__law_worn_L2, ar1_Way_beat, arrOf, pickAt, vw_w h.at_, vw_w g1.way.at_, isI, y1, y2]
theorem worn_ok {vh : VH} {n l e s : Nat} {w : WS} (h : WayAt vh n l e w) (k : WOk w) (hs : s < 3) (hl : w.ll = 0) (he : w.le = 0) :
    ∃ vh' l' e', Dworn [.ref n, .int w.miss, .int s] vh = .ok (.bl (w.worn s).2) vh' ∧ Go vh n l e vh' l' e' (w.worn s).1 ∧ WOk (w.worn s).1 := by
  have m0 := k.m0; have m1 := k.m1
  obtain ⟨r1, r2, r3, r4, r5, r6⟩ := rest_eqs hl he
  obtain ⟨v1, l1, e1, x, y1, g1, k1⟩ := rest_ok (a1 := some (.int w.miss)) (a2 := some (.int s)) (a3 := some prs) (a4 := none) h k hl he
  have ln : (rngI 0 (w.miss - 1).toNat).length = (w.miss - 1).toNat := by simp [rngI]
  obtain ⟨v2, l2, e2, g2, k2, z1, z2⟩ := wear_lp hs (gap := w.miss) (rngI 0 (w.miss - 1).toNat) (x := x) g1.way k1 (by rw [ln, r2, r4]; omega) (by rw [ln, r2, r5]; omega)
  rw [ln] at g2 k2 z1 z2
  refine ⟨v2, l2, e2, ?_, g1.trans g2, k2⟩
  have ll : ∀ k : Nat, k ≤ 100 → k ≤ lim := fun k h => le_lim (by omega)
  have p2 := ll 2 (by omega); have p3 := ll 3 (by omega)
  have i3 : ∀ a b c d e f g h : D, atI [a, b, c, d, e, f, g, h] 3 = some d := fun _ _ _ _ _ _ _ _ => rfl
  have e3 := store_ok g2.way
  have e4 := (k_lr k2).ne_nilT (by decide)
  unfold WS.worn
  have mi : w.miss - 1 < 4611686018427387904 ∧ -4611686018427387904 ≤ w.miss - 1 := by omega
  generalize w.rest.wear (sA s) (sB s) (w.miss - 1).toNat = r at *
  simp only [prs] at y1 z1 z2
  have tn : (w.miss - 1).toNat = w.miss.toNat - 1 := by omega
  rw [tn] at z1 z2
  simp [Dworn, d__law_worn, slots, pTup, pLst, p2, p3, y1, mi]
  cases q : r.2 with
  | false =>
    simp [z1 q, outD]
  | true =>
    obtain ⟨x', e5⟩ := z2 q
    simp [e5, ar0_Way_store, vw_w g2.way.at_, isI, e3, sD, i3, e4, outD]
    cases hq : r.1.letters <;> simp
end PM

namespace PM
open PySem L2
theorem WayAt.ne_lst {vh : VH} {n l e j : Nat} {w : WS} {xs : List D} (h : WayAt vh n l e w) (hj : vh[j]? = some (.lst xs)) : j ≠ n := fun x => by
  subst x; have := h.at_.symm.trans hj; simp [wO] at this
theorem WayAt.ne_bag {vh : VH} {n l e b k : Nat} {w : WS} (h : WayAt vh n l e w) (hb : BagAt vh b k) : b ≠ n := by
  obtain ⟨x, y, z, e, _⟩ := hb
  exact h.ne_lst e
theorem BagAt.keep {vh vh' : VH} {b k : Nat} (h : BagAt vh b k) (e : vh'[b]? = vh[b]?) : BagAt vh' b k := by
  obtain ⟨x, y, z, a, r⟩ := h
  exact ⟨x, y, z, by rw [e]; exact a, r⟩
theorem WayAt.keep {vh vh' : VH} {n l e : Nat} {w : WS} (h : WayAt vh n l e w) (f : ∀ j, j = n ∨ j = l ∨ j = e → vh'[j]? = vh[j]?) : WayAt vh' n l e w :=
  ⟨by rw [f n (.inl rfl)]; exact h.at_, by rw [f l (.inr (.inl rfl))]; exact h.lt, by rw [f e (.inr (.inr rfl))]; exact h.ec, h.ne⟩
theorem WayAt.lists {vh : VH} {n l e : Nat} {w : WS} {m k f : Nat} {v : WS} (h : WayAt vh n l e w) (h2 : WayAt vh m k f v) : l ≠ m ∧ e ≠ m ∧ k ≠ n ∧ f ≠ n :=
  ⟨h2.ne_lst h.lt, h2.ne_lst h.ec, h.ne_lst h2.lt, h.ne_lst h2.ec⟩
/-- another way is left as it is -/
theorem Go.other {vh vh' : VH} {n l e l' e' m k f : Nat} {w w' v : WS} (g : Go vh n l e vh' l' e' w') (h : WayAt vh n l e w) (h2 : WayAt vh m k f v) (nm : n ≠ m) (lk : l ≠ k) (lf : l ≠ f) (ek : e ≠ k) (ef : e ≠ f) :
    WayAt vh' m k f v ∧ l' ≠ k ∧ l' ≠ f ∧ e' ≠ k ∧ e' ≠ f := by
  obtain ⟨a, b, c, d⟩ := h.lists h2
  have hm := ltOf h2.at_; have hk := ltOf h2.lt; have hf := ltOf h2.ec
  have gl := g.hl; have ge := g.he
  refine ⟨h2.keep fun j hj => g.fr j ?_ ?_ ?_ ?_, by omega, by omega, by omega, by omega⟩
  · rcases hj with rfl | rfl | rfl <;> assumption
  · rcases hj with rfl | rfl | rfl
    · exact Ne.symm nm
    · exact c
    · exact d
  · rcases hj with rfl | rfl | rfl
    · exact Ne.symm a
    · exact Ne.symm lk
    · exact Ne.symm lf
  · rcases hj with rfl | rfl | rfl
    · exact Ne.symm b
    · exact Ne.symm ek
    · exact Ne.symm ef
/-- two ways and a bag -/
structure Duo (vh : VH) (b n l e m k f : Nat) (w v : WS) (K : Nat) : Prop where
  bag : BagAt vh b K
  w1 : WayAt vh n l e w
  w2 : WayAt vh m k f v
  bl : b ≠ l
  be : b ≠ e
  bk : b ≠ k
  bf : b ≠ f
  nm : n ≠ m
  lk : l ≠ k
  lf : l ≠ f
  ek : e ≠ k
  ef : e ≠ f
section
variable {vh vh' : VH} {b n l e m k f K : Nat} {w v : WS}
theorem Duo.swap (d : Duo vh b n l e m k f w v K) : Duo vh b m k f n l e v w K :=
  ⟨d.bag, d.w2, d.w1, d.bk, d.bf, d.bl, d.be, Ne.symm d.nm, Ne.symm d.lk, Ne.symm d.ek, Ne.symm d.lf, Ne.symm d.ef⟩
theorem Duo.go {l' e' : Nat} {w' : WS} (d : Duo vh b n l e m k f w v K) (g : Go vh n l e vh' l' e' w') : Duo vh' b n l' e' m k f w' v K := by
  obtain ⟨a, q1, q2, q3, q4⟩ := g.other d.w1 d.w2 d.nm d.lk d.lf d.ek d.ef
  have hb := d.bag.lt
  have := g.hl; have := g.he; have := d.bl; have := d.be
  exact ⟨d.bag.keep (g.fr b hb (d.w1.ne_bag d.bag) d.bl d.be), g.way, a, by omega, by omega, d.bk, d.bf, d.nm, q1, q2, q3, q4⟩
theorem Duo.draw {K' : Nat} (d : Duo vh b n l e m k f w v K) (hb : BagAt vh' b K') (fr : ∀ j < vh.length, j ≠ b → vh'[j]? = vh[j]?) : Duo vh' b n l e m k f w v K' := by
  have := d.bl; have := d.be; have := d.bk; have := d.bf
  have nb := d.w1.ne_bag d.bag; have mb := d.w2.ne_bag d.bag
  refine ⟨hb, d.w1.keep fun j hj => fr j ?_ ?_, d.w2.keep fun j hj => fr j ?_ ?_, d.bl, d.be, d.bk, d.bf, d.nm, d.lk, d.lf, d.ek, d.ef⟩
  · rcases hj with rfl | rfl | rfl
    · exact ltOf d.w1.at_
    · exact ltOf d.w1.lt
    · exact ltOf d.w1.ec
  · omega
  · rcases hj with rfl | rfl | rfl
    · exact ltOf d.w2.at_
    · exact ltOf d.w2.lt
    · exact ltOf d.w2.ec
  · omega
/-- two ways of one state do not differ -/
theorem Duo.ne (d : Duo vh b n l e m k f w w K) (kw : WOk w) : Deq [.ref n, .ref m] vh = .ok (.bl true) vh := by
  obtain ⟨x, e1, e2⟩ := eq_ok d.w1 d.w2 kw kw
  rw [e1, e2.mpr rfl]
end
end PM

namespace PM
open PySem L2
section
variable {vh : VH} {b n l e m k f K : Nat} {w : WS} {T : Addr} {sl : Sl} {Di Db : Den}
noncomputable abbrev L1F (Di Db : Den) (T : Addr) : SF := d_law_L1 Drefusal Dbeat Dspoil Dstore Ddue Deq Dnost Dodd Dworn Dlstore Di Dtake Db T
theorem bag_ne0 (h : BagAt vh b K) (hT : vh[0]? = some (.tbl T qn_law)) : (0 : Nat) ≠ b := fun x => by
  obtain ⟨x1, y, z, e, _⟩ := h
  subst x
  have := e.symm.trans hT
  simp at this
theorem lawL1 (d : Duo vh b n l e m k f w w (K + 130)) (kw : WOk w) (hT : vh[0]? = some (.tbl T qn_law)) (hl : sl.length = 19) (h2 : sl[2]? = some (some (.ref b))) (h3 : sl[3]? = some (some (.int w.hold))) (h5 : sl[5]? = some (some (.int w.bound))) (h7 : sl[7]? = some (some (.ref n))) (h8 : sl[8]? = some (some (.ref m))) :
    ∃ x vh', L1F Di Db T sl vh = .nx (sl.set 17 x) vh' ∧ Duo vh' b n l e m k f w w K ∧ vh'[0]? = some (.tbl T qn_law) := by
  obtain ⟨y, v1, e1, ny, b1, len, f1⟩ := nost_ok d.bag kw.h0 kw.h1 kw.b0 kw.b1
  have d1 := d.draw b1 f1
  have hT1 : v1[0]? = some (.tbl T qn_law) := by rw [f1 0 (ltOf hT) (bag_ne0 d.bag hT)]; exact hT
  have l2 : (2 : Nat) ≤ lim := le_lim (by decide)
  have s17 : ∀ x, (sl.set 17 x)[17]? = some x := fun x => by simp [hl]
  have e2 : eLamC 0 T qn_law ar0__law_refusal Drefusal aNil (dMeth 0 "spoil" ar0_Way_spoil Dspoil (eVar 7) (aCons (eVar 17) aNil)) (sl.set 17 (some y)) v1 = .ok (.v (.tup [.str "NoStore", .non])) v1 :=
    lamc hT1 fun f g H => ref_store (by simp [h7, s17, vw_w d1.w1.at_, isI, ar0_Way_spoil, spoil_no d1.w1 (ny v1)])
  have e3 : Ddue [.tup [.str "NoStore", .non], .tup [.str "NoStore", .non]] v1 = .ok (.bl true) v1 := by
    obtain ⟨x, hx⟩ := (Rp.repr ((Rp.non (k := 64) (n := 200000))))
    exact due_ok hx rfl
  have e4 := d1.ne kw
  have ok : okR 0 (wD w k f) = true := by simp [okR, wD]
  refine ⟨some y, v1, ?_, d1, hT1⟩
  simp [L1F, d_law_L1, h2, h3, h5, h7, h8, ar0__law_no_store, e1, e2, ar0__law_as_due, e3, pTup, l2, vw_w d1.w1.at_, vw_w d1.w2.at_, isI, ar0_Way___eq__, dCmpO, e4, ok, cmpR]
end
end PM

namespace PM
open PySem L2
section
variable {vh : VH} {b n l e m k f K : Nat} {w : WS} {T : Addr} {sl : Sl} {Di Db : Den}
theorem lawT (d : Duo vh b n l e m k f w w (K + 520)) (kw : WOk w) (hT : vh[0]? = some (.tbl T qn_law)) (hl : sl.length = 19) (h2 : sl[2]? = some (some (.ref b))) (h3 : sl[3]? = some (some (.int w.hold))) (h5 : sl[5]? = some (some (.int w.bound))) (h7 : sl[7]? = some (some (.ref n))) (h8 : sl[8]? = some (some (.ref m))) :
    ∃ x y vh', sLoop none (gNm 16) (L1F Di Db T) (rngI 0 4) sl vh = .nx ((sl.set 16 x).set 17 y) vh' ∧ Duo vh' b n l e m k f w w K ∧ vh'[0]? = some (.tbl T qn_law) := by
  obtain ⟨sl2, vh2, e1, ⟨x, y, rfl⟩, d2, t2⟩ := sLoop_inv (γ := gNm 16) (δ := L1F Di Db T) (sl := sl) (vh := vh) (items := rngI 0 4)
    (fun i s v => (∃ x y, s = (sl.set 16 x).set 17 y) ∧ Duo v b n l e m k f w w (K + (520 - 130 * i)) ∧ v[0]? = some (.tbl T qn_law))
    ⟨⟨sl[16], sl[17], by simp⟩, d, hT⟩ (by
    rintro i hi s v ⟨⟨x, y, rfl⟩, d, hT⟩
    have hi : i < 4 := by simpa [rngI] using hi
    have d' : Duo v b n l e m k f w w (K + (520 - 130 * (i + 1)) + 130) := d.draw (d.bag.mono (by omega)) fun _ _ _ => rfl
    obtain ⟨z, v2, e, d2, t2⟩ := lawL1 (Di := Di) (Db := Db) (sl := ((sl.set 16 x).set 17 y).set 16 (some ((rngI 0 4)[i]))) d' kw hT (by simpa using hl) (by simpa using h2) (by simpa using h3) (by simpa using h5) (by simpa using h7) (by simpa using h8)
    refine ⟨_, v, _, v2, rfl, e, ⟨some ((rngI 0 4)[i]), z, ?_⟩, d2, t2⟩
    rw [List.set_comm _ _ (show (17 : Nat) ≠ 16 by decide), List.set_set, List.set_set])
  have : (rngI 0 4).length = 4 := by simp [rngI]
  rw [this] at d2
  exact ⟨x, y, vh2, e1, d2.draw (d2.bag.mono (by omega)) fun _ _ _ => rfl, t2⟩
end
end PM

namespace PM
open PySem L2
def sN (s : Nat) : Str := if s = 1 then "echoes" else "letters"
/-- a worn way -/
def Worn (w : WS) (s : Nat) : Prop := (s ≠ 1 → w.ll = w.miss - 1) ∧ (s = 1 → w.le = w.miss - 1 ∧ w.letters ≠ [])
section
variable {vh : VH} {n l e s : Nat} {w : WS} {T : Addr} {sl : Sl}
theorem bear_no (h : WayAt vh n l e w) (k : WOk w) (hs : s < 3) (hw : Worn w s) : Dbear [.ref n, .tup [.bl (sA s), .bl (sB s)]] vh = .exc ⟨3, [("side", .str (sN s))]⟩ vh := by
  have m0 := k.m0
  have : s = 0 ∨ s = 1 ∨ s = 2 := by omega
  rcases this with rfl | rfl | rfl
  · have q := hw.1 (by decide)
    exact bear_let h (k_lr k) (by show w.miss ≤ w.ll + 1; omega)
  · obtain ⟨q1, q2⟩ := hw.2 rfl
    exact bear_ech h (k_lr k) (by show (0 : Int) < _; omega) (by show w.miss ≤ (if w.letters = [] then w.le else w.le + 1); rw [if_neg q2]; omega)
  · have q := hw.1 (by decide)
    exact bear_let h (k_lr k) (by show w.miss ≤ w.ll + 1; omega)
theorem lost0 (h : WayAt vh n l e w) (k : WOk w) (hs : s < 3) (hw : Worn w s) (hT : vh[0]? = some (.tbl T qn_law)) (h7 : sl[7]? = some (some (.ref n))) (h12 : sl[12]? = some (some (.tup [.bl (sA s), .bl (sB s)]))) :
    eLamC 0 T qn_law ar0__law_refusal Drefusal aNil (dMeth 0 "beat" ar0_Way_beat Dbeat (eVar 7) (aCons (eVar 12) aNil)) sl vh = .ok (.v (.tup [.str "TooLost", .str (sN s)])) vh :=
  lamc hT fun f g H => ref_side (by simp [h7, h12, vw_w h.at_, isI, ar0_Way_beat, arrOf, pickAt, beat_lost h (bear_no h k hs hw)])
theorem lost2 (h : WayAt vh n l e w) (k : WOk w) (hs : s < 3) (hw : Worn w s) (hT : vh[0]? = some (.tbl T qn_law)) (h7 : sl[7]? = some (some (.ref n))) (h12 : sl[12]? = some (some (.tup [.bl (sA s), .bl (sB s)]))) :
    eLamC 0 T qn_law ar0__law_refusal Drefusal aNil (dMeth 0 "beat" ar2_Way_beat Dbeat (eVar 7) (aCons (eCon (.bl true)) (aCons (eVar 12) aNil))) sl vh = .ok (.v (.tup [.str "TooLost", .str (sN s)])) vh :=
  lamc hT fun f g H => ref_side (by simp [h7, h12, vw_w h.at_, isI, ar2_Way_beat, arrOf, pickAt, beat_lost h (bear_no h k hs hw)])
theorem odd3 (h : WayAt vh n l e w) {x : D} (hx : Plain x) (hb : bornB w.bound x = false) (hT : vh[0]? = some (.tbl T qn_law)) (h7 : sl[7]? = some (some (.ref n))) {p : D} (h12 : sl[12]? = some (some p)) (h13 : sl[13]? = some (some x)) :
    eLamC 0 T qn_law ar0__law_refusal Drefusal aNil (dMeth 0 "beat" ar3_Way_beat Dbeat (eVar 7) (aCons (eVar 13) (aCons (eVar 12) aNil))) sl vh = .ok (.v (.tup [.str "NoNumber", x])) vh :=
  lamc hT fun f g H => ref_word (by simp [h7, h12, h13, vw_w h.at_, isI, ar3_Way_beat, arrOf, pickAt, beat_word h hx hb])
theorem due_side : Ddue [.tup [.str "TooLost", .str (sN s)], .tup [.str "TooLost", .str (sN s)]] vh = .ok (.bl true) vh := by
  obtain ⟨x, hx⟩ : ∃ x, bRepr (.str (sN s)) = some (.v (.str x)) := by
    unfold sN
    split <;> exact Rp.repr ((Rp.str (by decide)).mono (Nat.zero_le _) (by decide))
  exact due_ok hx rfl
end
end PM

namespace PM
open PySem L2
theorem mk_two {vh : VH} {b K : Nat} {h m bd : Int} (hb : BagAt vh b K) (h0 : 1 ≤ h) (h1 : h ≤ 6) (m0 : 1 ≤ m) (m1 : m ≤ 4) (b0 : 1 ≤ bd) (b1 : bd ≤ 40) :
    ∃ v1 v2 l e k f, Dinit [.ref vh.length, .int h, .int m, .int bd] (vh ++ [.ins 0 []]) = .ok .non v1 ∧ Dinit [.ref v1.length, .int h, .int m, .int bd] (v1 ++ [.ins 0 []]) = .ok .non v2 ∧
      Duo v2 b vh.length l e v1.length k f (WS.fresh h m bd) (WS.fresh h m bd) K ∧ vh.length ≤ v2.length ∧ ∀ j < vh.length, v2[j]? = vh[j]? := by
  have hbl := hb.lt
  obtain ⟨v1, e1, w1, n1, f1⟩ := init_ok (vh := vh ++ [.ins 0 []]) (n := vh.length) (h := h) (m := m) (b := bd) (by simp) h0 h1 m0 m1 b0 b1
  have ln : (vh ++ [O.ins 0 []]).length = vh.length + 1 := by simp
  rw [ln] at w1 n1 f1
  obtain ⟨v2, e2, w2, n2, f2⟩ := init_ok (vh := v1 ++ [.ins 0 []]) (n := v1.length) (h := h) (m := m) (b := bd) (by simp) h0 h1 m0 m1 b0 b1
  have ln2 : (v1 ++ [O.ins 0 []]).length = v1.length + 1 := by simp
  rw [ln2] at w2 n2 f2
  have fr2 : ∀ j < v1.length, v2[j]? = v1[j]? := fun j hj => by rw [f2 j (by omega) (by omega), List.getElem?_append_left hj]
  have fr1 : ∀ j < vh.length, v1[j]? = vh[j]? := fun j hj => by rw [f1 j (by omega) (by omega), List.getElem?_append_left hj]
  have a1 := ltOf w1.at_; have a2 := ltOf w1.lt; have a3 := ltOf w1.ec
  have w1' := w1.keep (vh' := v2) fun j hj => fr2 j (by rcases hj with rfl | rfl | rfl <;> assumption)
  refine ⟨v1, v2, _, _, _, _, e1, e2, ⟨hb.keep (by rw [fr2 b (by omega), fr1 b hbl]), w1', w2, by omega, by omega, by omega, by omega, by omega, by omega, by omega, by omega, by omega⟩, by omega, fun j hj => by rw [fr2 j (by omega), fr1 j hj]⟩
end PM

namespace PM
open PySem L2
def WS.spoilt (w v : WS) : WS := { w.puts v with ll := 0, le := 0 }
theorem spoilt_ok {w v : WS} (k : Okay v w.hold w.bound) (h0 : 1 ≤ w.hold) (h1 : w.hold ≤ 6) (m0 : 1 ≤ w.miss) (m1 : w.miss ≤ 4) (b0 : 1 ≤ w.bound) (b1 : w.bound ≤ 40) : WOk (w.spoilt v) :=
  ⟨⟨k.mk0, k.mk1, k.la0, k.la1, k.be, k.tk, k.sl, k.bx, k.ll, k.el, k.lt, k.ec⟩, h0, h1, b0, b1, m0, m1, Int.le_refl _, by show (0 : Int) < w.miss; omega, Int.le_refl _, by show (0 : Int) < w.miss; omega⟩
theorem spoil_two {vh : VH} {b n l e m k f K : Nat} {w v : WS} (d : Duo vh b n l e m k f w w K) (ok : Okay v w.hold w.bound) (h1 : w.hold ≤ 6) :
    ∃ v1 v2 l' e' k' f', Dspoil [.ref n, sD v] vh = .ok .non v1 ∧ Dspoil [.ref m, sD v] v1 = .ok .non v2 ∧ Duo v2 b n l' e' m k' f' (w.spoilt v) (w.spoilt v) K := by
  obtain ⟨v1, e1, g1⟩ := spoil_ok d.w1 ok h1
  have d1 := d.go g1
  obtain ⟨v2, e2, g2⟩ := spoil_ok d1.w2 ok h1
  exact ⟨v1, v2, _, _, _, _, e1, e2, (d1.swap.go g2).swap⟩
end PM

namespace PM
open PySem L2
theorem WayAt.ne0 {vh : VH} {n l e : Nat} {w : WS} {T : Addr} (h : WayAt vh n l e w) (hT : vh[0]? = some (.tbl T qn_law)) : (0 : Nat) ≠ n ∧ (0 : Nat) ≠ l ∧ (0 : Nat) ≠ e := by
  refine ⟨fun x => ?_, fun x => ?_, fun x => ?_⟩ <;> subst x
  · have := h.at_.symm.trans hT; simp [wO] at this
  · have := h.lt.symm.trans hT; simp at this
  · have := h.ec.symm.trans hT; simp at this
/-- the table stays -/
theorem Go.tb {vh vh' : VH} {n l e l' e' : Nat} {w w' : WS} {T : Addr} (g : Go vh n l e vh' l' e' w') (h : WayAt vh n l e w) (hT : vh[0]? = some (.tbl T qn_law)) : vh'[0]? = some (.tbl T qn_law) := by
  obtain ⟨a, b, c⟩ := h.ne0 hT
  rw [g.fr 0 (ltOf hT) a b c]; exact hT
theorem worn_two {vh : VH} {b n l e m k f K s : Nat} {w : WS} {T : Addr} (d : Duo vh b n l e m k f w w K) (kw : WOk w) (hs : s < 3) (hl : w.ll = 0) (he : w.le = 0) (hT : vh[0]? = some (.tbl T qn_law)) :
    ∃ v1 v2 l' e' k' f', Dworn [.ref n, .int w.miss, .int s] vh = .ok (.bl (w.worn s).2) v1 ∧ Dworn [.ref m, .int w.miss, .int s] v1 = .ok (.bl (w.worn s).2) v2 ∧ Duo v2 b n l' e' m k' f' (w.worn s).1 (w.worn s).1 K ∧ WOk (w.worn s).1 ∧ v2[0]? = some (.tbl T qn_law) := by
  obtain ⟨v1, l1, e1, y1, g1, k1⟩ := worn_ok d.w1 kw hs hl he
  have d1 := d.go g1
  have t1 := g1.tb d.w1 hT
  obtain ⟨v2, l2, e2, y2, g2, k2⟩ := worn_ok d1.w2 kw hs hl he
  exact ⟨v1, v2, _, _, _, _, y1, y2, (d1.swap.go g2).swap, k1, g2.tb d1.w2 t1⟩
end PM

namespace PM
open PySem L2
noncomputable abbrev L2F (T : Addr) : SF := d_law_L2 Drefusal Dbeat Dspoil Dstore Ddue Deq Dnost Dodd Dworn Dlstore Dinit Dtake Dbag T
theorem BagAt.tb {vh vh' : VH} {b K : Nat} {T : Addr} (hb : BagAt vh b K) (fr : ∀ j < vh.length, j ≠ b → vh'[j]? = vh[j]?) (hT : vh[0]? = some (.tbl T qn_law)) : vh'[0]? = some (.tbl T qn_law) := by
  rw [fr 0 (ltOf hT) (bag_ne0 hb hT)]; exact hT
/-- the last beat: spoilt with its own store, a way of gap > 1 is not refused -/
theorem last_ok {vh : VH} {n l e s : Nat} {w : WS} {T : Addr} {sl : Sl} (h : WayAt vh n l e w) (k : WOk w) (hl : w.ll = 0) (he : w.le = 0) (hm : 1 < w.miss) (hT : vh[0]? = some (.tbl T qn_law)) (h7 : sl[7]? = some (some (.ref n))) (h12 : sl[12]? = some (some (.tup [.bl (sA s), .bl (sB s)]))) :
    ∃ vh' l' e', eLamC 0 T qn_law ar0__law_refusal Drefusal aNil (dMeth 0 "beat" ar0_Way_beat Dbeat (eVar 7) (aCons (eVar 12) aNil)) sl vh = .ok (.v (.tup [.str "none", .non])) vh' ∧ Go vh n l e vh' l' e' (w.beat none false (sA s) (sB s)) := by
  obtain ⟨c1, c2⟩ := lost_le (a := sA s) (b := sB s) k
  obtain ⟨d, v1, l1, e1, y1, g1, k1⟩ := bt_ok h k (a := sA s) (b := sB s) (by omega) (by omega)
  refine ⟨v1, l1, e1, lamc hT fun f g H => ref_none (e := .v d) ?_, g1⟩
  simp [h7, h12, vw_w h.at_, isI, ar0_Way_beat, arrOf, pickAt, y1]
end PM

namespace PM
open PySem L2
theorem pair_ix {s : Nat} (hs : s < 3) : pIx (.lst [.tup [.bl true, .bl false], .tup [.bl false, .bl true], .tup [.bl true, .bl true]]) (.int s) = some (.v (.tup [.bl (sA s), .bl (sB s)])) := by
  have : s = 0 ∨ s = 1 ∨ s = 2 := by omega
  rcases this with rfl | rfl | rfl <;> rfl
theorem name_ix {s : Nat} (hs : s < 3) : pIx (.lst [.str "letters", .str "echoes", .str "letters"]) (.int s) = some (.v (.str (sN s))) := by
  have : s = 0 ∨ s = 1 ∨ s = 2 := by omega
  rcases this with rfl | rfl | rfl <;> rfl
theorem lawL2 {vh : VH} {b K s : Nat} {T : Addr} {h m bd : Int} {a0 a1 a7 a8 a9 a10 a11 a12 a13 a14 a15 a16 a17 a18 : Option D} (hb : BagAt vh b (K + 700)) (hT : vh[0]? = some (.tbl T qn_law)) (hs : s < 3) (h0 : 1 ≤ h) (h1 : h ≤ 6) (m0 : 1 ≤ m) (m1 : m ≤ 4) (b0 : 1 ≤ bd) (b1 : bd ≤ 40) :
    ∃ c7 c8 c9 c10 c11 c12 c13 c14 c15 c16 c17 c18 vh', L2F T [a0, a1, some (.ref b), some (.int h), some (.int m), some (.int bd), some (.int s), a7, a8, a9, a10, a11, a12, a13, a14, a15, a16, a17, a18] vh =
      .nx [a0, a1, some (.ref b), some (.int h), some (.int m), some (.int bd), some (.int s), c7, c8, c9, c10, c11, c12, c13, c14, c15, c16, c17, c18] vh' ∧ BagAt vh' b K ∧ vh'[0]? = some (.tbl T qn_law) := by
  obtain ⟨v1, v2, l, e, k, f, e1, e2, d, n2, f2⟩ := mk_two hb h0 h1 m0 m1 b0 b1
  have t2 : v2[0]? = some (.tbl T qn_law) := by rw [f2 0 (ltOf hT)]; exact hT
  obtain ⟨v, v3, e3, ok, b3, n3, f3⟩ := lstore_ok (k := K + 600) (d.bag.mono (by omega)) h0 h1 b0 b1
  have d3 := d.draw b3 f3
  have t3 := d.bag.tb f3 t2
  obtain ⟨v4, y4, g4⟩ := spoil_ok d3.w1 ok h1
  have d4 := d3.go g4
  have t4 := g4.tb d3.w1 t3
  obtain ⟨v5, y5, g5⟩ := spoil_ok d4.w2 ok h1
  have d5 : Duo v5 b vh.length _ _ v1.length _ _ ((WS.fresh h m bd).spoilt v) ((WS.fresh h m bd).spoilt v) (K + 600) := (d4.swap.go g5).swap
  have t5 := g5.tb d4.w2 t4
  have kw : WOk ((WS.fresh h m bd).spoilt v) := spoilt_ok ok h0 h1 m0 m1 b0 b1
  obtain ⟨v6, v7, l7, e7, k7, f7, y6, y7, d7, k7', t7⟩ := worn_two (s := s) d5 kw hs rfl rfl t5
  obtain ⟨w1, w2, w3, w4⟩ := worn_eqs (s := s) hs kw rfl rfl
  have hm : ((WS.fresh h m bd).spoilt v).miss = m := rfl
  rw [hm] at y6 y7 w2 w4
  generalize hW : ((WS.fresh h m bd).spoilt v).worn s = W at *
  obtain ⟨W, q⟩ := W
  simp only at w1 w2 w3 w4 d7 k7' y6 y7
  have l2 : (2 : Nat) ≤ lim := le_lim (by decide)
  have l3 : (3 : Nat) ≤ lim := le_lim (by decide)
  have p1 := pair_ix hs
  have p2 := name_ix hs
  obtain ⟨v8, od, e8, g8, pl, nb, rx, hrx⟩ := odd_ok (b := K + 590) (top := bd) b0 b1 (BG.of (d7.bag.mono (by omega)))
  have d8 := d7.draw g8.1 fun j _ hj => g8.2.2 j hj
  have t8 := d7.bag.tb (fun j _ hj => g8.2.2 j hj) t7
  have le : ∀ q : Bool, opEq (.lst [.bl q, .bl q]) (.lst [.bl true, .bl true]) = some (.v (.bl q)) := fun q => by cases q <;> rfl
  have du : Ddue [.tup [.str "NoNumber", od], .tup [.str "NoNumber", od]] v8 = .ok (.bl true) v8 := due_ok hrx (vw_plain pl v8)
  have de := d8.ne k7'
  have okr : okR 0 (wD W k7 f7) = true := by simp [okR, wD]
  have o3 : ∀ sl : Sl, sl[7]? = some (some (.ref vh.length)) → sl[12]? = some (some (.tup [.bl (sA s), .bl (sB s)])) → sl[13]? = some (some od) →
      eLamC 0 T qn_law ar0__law_refusal Drefusal aNil (dMeth 0 "beat" ar3_Way_beat Dbeat (eVar 7) (aCons (eVar 13) (aCons (eVar 12) aNil))) sl v8 = .ok (.v (.tup [.str "NoNumber", od])) v8 := fun sl a c e => odd3 d8.w1 pl (by rw [w3]; exact nb) t8 a c e
  have hw : q = true → Worn W s := fun h => by rw [show m = W.miss from w2.symm] at w4; exact w4 h
  have o2 : q = true → ∀ sl : Sl, sl[7]? = some (some (.ref vh.length)) → sl[12]? = some (some (.tup [.bl (sA s), .bl (sB s)])) →
      eLamC 0 T qn_law ar0__law_refusal Drefusal aNil (dMeth 0 "beat" ar2_Way_beat Dbeat (eVar 7) (aCons (eCon (.bl true)) (aCons (eVar 12) aNil))) sl v8 = .ok (.v (.tup [.str "TooLost", .str (sN s)])) v8 := fun h sl a c => lost2 d8.w1 k7' hs (hw h) t8 a c
  have ds := fun vh => due_side (vh := vh) (s := s)
  have sl9 : W.hold = h := w1
  have sb9 : W.bound = bd := w3
  obtain ⟨x, y, v9, eT, d9, t9⟩ := lawT (K := K + 70) (Di := Dinit) (Db := Dbag) (sl := [a0, a1, some (.ref b), some (.int h), some (.int m), some (.int bd), some (.int s), some (.ref vh.length), some (.ref v1.length), some (sD v), some (.lst [.bl q, .bl q]), some (.bl q), some (.tup [.bl (sA s), .bl (sB s)]), some od, some (.tup [.str "NoNumber", od]), some (.tup [.str "TooLost", .str (sN s)]), a16, a17, a18])
    d8 k7' t8 rfl rfl (by simp [sl9]) (by simp [sb9]) rfl rfl
  have de9 := d9.ne k7'
  have o0 : q = true → ∀ sl : Sl, sl[7]? = some (some (.ref vh.length)) → sl[12]? = some (some (.tup [.bl (sA s), .bl (sB s)])) →
      eLamC 0 T qn_law ar0__law_refusal Drefusal aNil (dMeth 0 "beat" ar0_Way_beat Dbeat (eVar 7) (aCons (eVar 12) aNil)) sl v9 = .ok (.v (.tup [.str "TooLost", .str (sN s)])) v9 := fun h sl a c => lost0 d9.w1 k7' hs (hw h) t9 a c
  have st := store_ok d9.w1
  obtain ⟨v10, y10, g10⟩ := spoil_ok d9.w1 k7'.ok k7'.h1
  have t10 := g10.tb d9.w1 t9
  have d10 := d9.go g10
  have k10 : WOk (W.spoilt W) := spoilt_ok k7'.ok k7'.h0 k7'.h1 k7'.m0 k7'.m1 k7'.b0 k7'.b1
  have hl7 : ∃ r v11, (1 < m → eLamC 0 T qn_law ar0__law_refusal Drefusal aNil (dMeth 0 "beat" ar0_Way_beat Dbeat (eVar 7) (aCons (eVar 12) aNil)) [a0, a1, some (.ref b), some (.int h), some (.int m), some (.int bd), some (.int s), some (.ref vh.length), some (.ref v1.length), some (sD v), some (.lst [.bl q, .bl q]), some (.bl q), some (.tup [.bl (sA s), .bl (sB s)]), some od, some (.tup [.str "NoNumber", od]), some (.tup [.str "TooLost", .str (sN s)]), x, y, a18] v10 = .ok (.v (.tup [.str "none", .non])) v11) ∧ BagAt v11 b K ∧ v11[0]? = some (.tbl T qn_law) ∧ r = decide (1 < m) ∧ (¬ 1 < m → v11 = v10) := by
    by_cases gm : 1 < m
    · obtain ⟨v11, l11, e11, y11, g11⟩ := last_ok (s := s) (sl := [a0, a1, some (.ref b), some (.int h), some (.int m), some (.int bd), some (.int s), some (.ref vh.length), some (.ref v1.length), some (sD v), some (.lst [.bl q, .bl q]), some (.bl q), some (.tup [.bl (sA s), .bl (sB s)]), some od, some (.tup [.str "NoNumber", od]), some (.tup [.str "TooLost", .str (sN s)]), x, y, a18]) d10.w1 k10 rfl rfl (by show 1 < W.miss; rw [w2]; exact gm) t10 rfl rfl
      exact ⟨_, v11, fun _ => y11, (d10.go g11).bag.mono (by omega), g11.tb d10.w1 t10, rfl, fun z => absurd gm z⟩
    · exact ⟨_, v10, fun z => absurd z gm, d10.bag.mono (by omega), t10, rfl, fun _ => rfl⟩
  obtain ⟨r, v11, y11, b11, t11, er, en⟩ := hl7
  refine ⟨some (.ref vh.length), some (.ref v1.length), some (sD v), some (.lst [.bl q, .bl q]), some (.bl q), some (.tup [.bl (sA s), .bl (sB s)]), some od, some (.tup [.str "NoNumber", od]), some (.tup [.str "TooLost", .str (sN s)]), x, y, a18, v11, ?_, b11, t11⟩
  simp only [List.set] at eT
  have rn : opNe (.tup [.str "none", .non]) (.tup [.str "none", .non]) = some (.v (.bl false)) := by kernel_rfl
  have okr9 : okR 0 (wD W (v8.length) (v8.length)) = true := by simp [okR, wD]
  by_cases gm : 1 < m
  · have y11 := y11 gm
    cases q
    · simp [L2F, d_law_L2, d_law_E1, dMake, arrOf, pickAt, e1, e2, e3, y4, y5, y6, y7, ar0_Way___init__, ar0__law_store, ar0_Way_spoil, ar0_Way_store, ar0__law_worn, pTup, pLst, l2, l3, vw_w d3.w1.at_, vw_w d4.w2.at_, vw_w d8.w1.at_, vw_w d8.w2.at_, vw_w d9.w1.at_, vw_w d9.w2.at_, isI, p1, p2, ar0__law_odd, e8, lcLoop, wipeS, le, o3, ar0__law_as_due, du, ar0_Way___eq__, dCmpO, de, okr, cmpR, eT, de9, st, y10, rn, gm, y11]
    · simp [L2F, d_law_L2, d_law_E1, dMake, arrOf, pickAt, e1, e2, e3, y4, y5, y6, y7, ar0_Way___init__, ar0__law_store, ar0_Way_spoil, ar0_Way_store, ar0__law_worn, pTup, pLst, l2, l3, vw_w d3.w1.at_, vw_w d4.w2.at_, vw_w d8.w1.at_, vw_w d8.w2.at_, vw_w d9.w1.at_, vw_w d9.w2.at_, isI, p1, p2, ar0__law_odd, e8, lcLoop, wipeS, le, o3, ar0__law_as_due, du, ar0_Way___eq__, dCmpO, de, okr, cmpR, eT, de9, st, y10, rn, gm, y11, o2 rfl, o0 rfl, ds]
  · have en := en gm
    subst en
    cases q
    · simp [L2F, d_law_L2, d_law_E1, dMake, arrOf, pickAt, e1, e2, e3, y4, y5, y6, y7, ar0_Way___init__, ar0__law_store, ar0_Way_spoil, ar0_Way_store, ar0__law_worn, pTup, pLst, l2, l3, vw_w d3.w1.at_, vw_w d4.w2.at_, vw_w d8.w1.at_, vw_w d8.w2.at_, vw_w d9.w1.at_, vw_w d9.w2.at_, isI, p1, p2, ar0__law_odd, e8, lcLoop, wipeS, le, o3, ar0__law_as_due, du, ar0_Way___eq__, dCmpO, de, okr, cmpR, eT, de9, st, y10, rn, gm, p1]
    · simp [L2F, d_law_L2, d_law_E1, dMake, arrOf, pickAt, e1, e2, e3, y4, y5, y6, y7, ar0_Way___init__, ar0__law_store, ar0_Way_spoil, ar0_Way_store, ar0__law_worn, pTup, pLst, l2, l3, vw_w d3.w1.at_, vw_w d4.w2.at_, vw_w d8.w1.at_, vw_w d8.w2.at_, vw_w d9.w1.at_, vw_w d9.w2.at_, isI, p1, p2, ar0__law_odd, e8, lcLoop, wipeS, le, o3, ar0__law_as_due, du, ar0_Way___eq__, dCmpO, de, okr, cmpR, eT, de9, st, y10, rn, gm, o2 rfl, o0 rfl, ds]
end PM

namespace PM
open PySem L2
noncomputable abbrev L3F (T : Addr) : SF := d_law_L3 Drefusal Dbeat Dspoil Dstore Ddue Deq Dnost Dodd Dworn Dlstore Dinit Dtake Dbag T
noncomputable def Dlaw (T : Addr) : Den := runD 19 (d_law Drefusal Dbeat Dspoil Dstore Ddue Deq Dnost Dodd Dworn Dlstore Dinit Dtake Dbag T)
theorem rg1_nat {φ : EF} {sl : Sl} {vh vh' : VH} {n : Nat} (h : φ sl vh = .ok (.v (.int (n : Nat))) vh') (hn : n ≤ 1000000) : iRg1 φ sl vh = .ok ⟨rngI 0 n, none⟩ vh' := by
  have c : ((n : Int) < 2 ^ 62) ∧ (-(2 ^ 62) ≤ (n : Int)) := ⟨by omega, by omega⟩
  unfold iRg1
  rw [h]
  dsimp only
  rw [if_pos c, Int.toNat_natCast]
theorem law_cell {T : Addr} {ns : List Int} {i : Nat} (hi : i < 100) (vh : VH) (hT : vh[0]? = some (.tbl T qn_law)) (x2 x3 x4 x5 x6 x7 x8 x9 x10 x11 x12 x13 x14 x15 x16 x17 x18 : Option D) :
    ∃ vh' y2 y3 y4 y5 y6 y7 y8 y9 y10 y11 y12 y13 y14 y15 y16 y17 y18, L3F T [some (.scr ns), some (.int i), x2, x3, x4, x5, x6, x7, x8, x9, x10, x11, x12, x13, x14, x15, x16, x17, x18] vh =
      .nx [some (.scr ns), some (.int i), y2, y3, y4, y5, y6, y7, y8, y9, y10, y11, y12, y13, y14, y15, y16, y17, y18] vh' ∧ vh'[0]? = some (.tbl T qn_law) := by
  obtain ⟨o, t1, b1⟩ := bag_ok (ns := ns) (i := i) (vh := vh) hi
  have hn : (0 : Nat) < vh.length := ltOf hT
  have hT1 : (vh ++ [o])[0]? = some (.tbl T qn_law) := by rw [List.getElem?_append_left hn]; exact hT
  generalize vh ++ [o] = v1 at t1 b1 hT1
  obtain ⟨r1, v2, t2, r10, r11, g2⟩ := take_ok (m := 6) (b := 3000) (BG.of (b1.mono (by decide))) (by omega) (by omega)
  obtain ⟨r2, v3, t3, r20, r21, g3⟩ := take_ok (m := 4) (b := 2999) g2 (by omega) (by omega)
  obtain ⟨r3, v4, t4, r30, r31, g4⟩ := take_ok (m := 40) (b := 2998) g3 (by omega) (by omega)
  have hT4 : v4[0]? = some (.tbl T qn_law) := b1.tb (fun j _ hj => g4.2.2 j hj) hT1
  obtain ⟨a7, a8, a9, a10, a11, a12, a13, a14, a15, a16, a17, a18, v5, t5, b5, hT5⟩ := lawL2 (K := 2298) (s := 0) (h := 1 + r1) (m := 1 + r2) (bd := 1 + r3) (a0 := some (.scr ns)) (a1 := some (.int i)) (a7 := x7) (a8 := x8) (a9 := x9) (a10 := x10) (a11 := x11) (a12 := x12) (a13 := x13) (a14 := x14) (a15 := x15) (a16 := x16) (a17 := x17) (a18 := x18) g4.1 hT4 (by omega) (by omega) (by omega) (by omega) (by omega) (by omega) (by omega)
  obtain ⟨b7, b8, b9, b10, b11, b12, b13, b14, b15, b16, b17, b18, v6, t6, b6, hT6⟩ := lawL2 (K := 1598) (s := 1) (h := 1 + r1) (m := 1 + r2) (bd := 1 + r3) (a0 := some (.scr ns)) (a1 := some (.int i)) (a7 := a7) (a8 := a8) (a9 := a9) (a10 := a10) (a11 := a11) (a12 := a12) (a13 := a13) (a14 := a14) (a15 := a15) (a16 := a16) (a17 := a17) (a18 := a18) b5 hT5 (by omega) (by omega) (by omega) (by omega) (by omega) (by omega) (by omega)
  obtain ⟨c7, c8, c9, c10, c11, c12, c13, c14, c15, c16, c17, c18, v7, t7, b7', hT7⟩ := lawL2 (K := 898) (s := 2) (h := 1 + r1) (m := 1 + r2) (bd := 1 + r3) (a0 := some (.scr ns)) (a1 := some (.int i)) (a7 := b7) (a8 := b8) (a9 := b9) (a10 := b10) (a11 := b11) (a12 := b12) (a13 := b13) (a14 := b14) (a15 := b15) (a16 := b16) (a17 := b17) (a18 := b18) b6 hT6 (by omega) (by omega) (by omega) (by omega) (by omega) (by omega) (by omega)
  simp only [L2F] at t5 t6 t7
  simp at t5 t6 t7
  have hrg : rngI 0 3 = [.int 0, .int 1, .int 2] := rfl
  have l3 : (3 : Nat) ≤ lim := le_lim (by decide)
  exact ⟨v7, some (.ref vh.length), some (.int (1 + r1)), some (.int (1 + r2)), some (.int (1 + r3)), some (.int 2), c7, c8, c9, c10, c11, c12, c13, c14, c15, c16, c17, c18, by simp [L3F, d_law_L3, ar0__law_bag, ar0__law_take, t1, t2, t3, t4, pTup, l3, hrg, sLoop, t5, t6, t7], hT7⟩
theorem law_ok (T : Addr) (ns : List Int) (hl : ns.length ≤ 63) : ∃ vh', Dlaw T [.scr ns] [.tbl T qn_law] = .ok (.bl true) vh' := by
  obtain ⟨m, em⟩ : ∃ m : Nat, m = max 1 (min 4 ns.length) := ⟨_, rfl⟩
  have hm : m ≤ 4 := by omega
  have hlen : (rngI 0 m).length = m := by simp [rngI]
  have hrg := rg1_nat (φ := e2 bMax (eCon (.int 1)) (e2 bMin (eCon (.int 4)) (e1 bLen (eVar 0)))) (sl := [some (.scr ns), none, none, none, none, none, none, none, none, none, none, none, none, none, none, none, none, none, none]) (vh := [.tbl T qn_law]) (vh' := [.tbl T qn_law]) (n := m) (by
    simp
    (repeat' split) <;> omega) (by omega)
  obtain ⟨sl2, v2, e, _, hT2⟩ := sLoop_inv (γ := gNm 1) (δ := L3F T) (items := rngI 0 m) (sl := [some (.scr ns), none, none, none, none, none, none, none, none, none, none, none, none, none, none, none, none, none, none]) (vh := [.tbl T qn_law])
    (fun j sl v => (∃ y1 y2 y3 y4 y5 y6 y7 y8 y9 y10 y11 y12 y13 y14 y15 y16 y17 y18, sl = [some (.scr ns), y1, y2, y3, y4, y5, y6, y7, y8, y9, y10, y11, y12, y13, y14, y15, y16, y17, y18]) ∧ v[0]? = some (.tbl T qn_law)) ⟨⟨none, none, none, none, none, none, none, none, none, none, none, none, none, none, none, none, none, none, rfl⟩, rfl⟩ (by
      rintro j hj sl v ⟨⟨y1, y2, y3, y4, y5, y6, y7, y8, y9, y10, y11, y12, y13, y14, y15, y16, y17, y18, rfl⟩, hT⟩
      rw [hlen] at hj
      obtain ⟨v', z2, z3, z4, z5, z6, z7, z8, z9, z10, z11, z12, z13, z14, z15, z16, z17, z18, t, hT'⟩ := law_cell (T := T) (ns := ns) (i := j) (by omega) v hT y2 y3 y4 y5 y6 y7 y8 y9 y10 y11 y12 y13 y14 y15 y16 y17 y18
      have ej : (rngI 0 m)[j]'(by rw [hlen]; exact hj) = .int (j : Int) := by simp [rngI]
      refine ⟨_, _, _, _, ?_, t, ⟨_, _, _, _, _, _, _, _, _, _, _, _, _, _, _, _, _, _, rfl⟩, hT'⟩
      rw [ej]; rfl)
  simp only [L3F] at e
  refine ⟨v2, ?_⟩
  simp [Dlaw, d_law, slots, -x_rg1, hrg, e]
end PM

namespace PM
open PySem L2
section
variable {W : Wd} {P : Program} {w : World} {mg : Str → Option Value} {base : Heap}
theorem fn_Dmarks (o : Wo W w mg) : PFn W P w mg base 1 o.a_marks o.fd_marks ["hold"] Dmarks := ok_marks (k := 0) o
theorem fn_Dends (o : Wo W w mg) : PFn W P w mg base 2 o.a_Way_end_round o.fd_Way_end_round ["self", "bears", "slot"] Dends := ok_Way_end_round (k := 1) o ((fn_Dmarks o).mono (by omega))
theorem fn_Dhears (o : Wo W w mg) : PFn W P w mg base 3 o.a_Way_heard o.fd_Way_heard ["self"] Dhears := ok_Way_heard (k := 2) o ((fn_Dends o).mono (by omega))
theorem fn_Dtakes (o : Wo W w mg) : PFn W P w mg base 1 o.a_Way_taken_up o.fd_Way_taken_up ["self"] Dtakes := ok_Way_taken_up (k := 0) o
theorem fn_Dlose (o : Wo W w mg) : PFn W P w mg base 1 o.a_Way_would_lose o.fd_Way_would_lose ["self", "lost"] Dlose := ok_Way_would_lose (k := 0) o
theorem fn_Dbear (o : Wo W w mg) : PFn W P w mg base 3 o.a_Way_must_bear o.fd_Way_must_bear ["self", "lost"] Dbear := ok_Way_must_bear (k := 0) o ((fn_Dlose o).mono (by omega))
theorem fn_Dwhole (o : Wo W w mg) : PFn W P w mg base 1 o.a_is_whole o.fd_is_whole ["thing", "least", "most"] Dwhole := ok_is_whole (k := 0) o
theorem fn_Dborne (o : Wo W w mg) : PFn W P w mg base 2 o.a_is_borne o.fd_is_borne ["thing", "bound"] Dborne := ok_is_borne (k := 1) o ((fn_Dwhole o).mono (by omega))
theorem fn_Dbeat (o : Wo W w mg) : PFn W P w mg base 4 o.a_Way_beat o.fd_Way_beat ["self", "word", "taking", "lost"] Dbeat := ok_Way_beat (k := 1) o ((fn_Dhears o).mono (by omega)) ((fn_Dtakes o).mono (by omega)) ((fn_Dlose o).mono (by omega)) ((fn_Dbear o).mono (by omega)) ((fn_Dborne o).mono (by omega))
theorem fn_Dput (o : Wo W w mg) : PFn W P w mg base 1 o.a_Way_put_down o.fd_Way_put_down ["self", "store"] Dput := ok_Way_put_down (k := 0) o
theorem fn_Dis (o : Wo W w mg) : PFn W P w mg base 3 o.a_is_store o.fd_is_store ["thing", "hold", "bound"] Dis := ok_is_store (k := 2) o ((fn_Dborne o).mono (by omega)) ((fn_Dwhole o).mono (by omega))
theorem fn_Dspoil (o : Wo W w mg) : PFn W P w mg base 4 o.a_Way_spoil o.fd_Way_spoil ["self", "store"] Dspoil := ok_Way_spoil (k := 1) o ((fn_Dput o).mono (by omega)) ((fn_Dis o).mono (by omega))
theorem fn_Dstore (o : Wo W w mg) : PFn W P w mg base 1 o.a_Way_store o.fd_Way_store ["self"] Dstore := ok_Way_store (k := 0) o
theorem fn_Ddue (o : Wo W w mg) : PFn W P w mg base 1 o.a__law_as_due o.fd__law_as_due ["_law_told", "_law_due"] Ddue := ok__law_as_due (k := 0) o
theorem fn_Dparts (o : Wo W w mg) : PFn W P w mg base 2 o.a_Way_parts o.fd_Way_parts ["self"] Dparts := ok_Way_parts (k := 1) o ((fn_Dstore o).mono (by omega))
theorem fn_Deq (o : Wo W w mg) : PFn W P w mg base 3 o.a_Way___eq__ o.fd_Way___eq__ ["self", "other"] Deq := ok_Way___eq__ (k := 2) o ((fn_Dparts o).mono (by omega))
theorem fn_Dtake (o : Wo W w mg) : PFn W P w mg base 1 o.a__law_take o.fd__law_take ["_law_bag_here", "_law_many"] Dtake := ok__law_take (k := 0) o
theorem fn_Dnpart (o : Wo W w mg) : PFn W P w mg base 2 o.a__law_no_part o.fd__law_no_part ["_law_bag_here", "_law_k", "_law_size", "_law_top"] Dnpart := ok__law_no_part (k := 1) o ((fn_Dtake o).mono (by omega))
theorem fn_Dlstore (o : Wo W w mg) : PFn W P w mg base 2 o.a__law_store o.fd__law_store ["_law_bag_here", "_law_size", "_law_top"] Dlstore := ok__law_store (k := 1) o ((fn_Dtake o).mono (by omega))
theorem fn_Dnost (o : Wo W w mg) : PFn W P w mg base 3 o.a__law_no_store o.fd__law_no_store ["_law_bag_here", "_law_size", "_law_top"] Dnost := ok__law_no_store (k := 2) o ((fn_Dtake o).mono (by omega)) ((fn_Dnpart o).mono (by omega)) ((fn_Dlstore o).mono (by omega))
theorem fn_Dodd (o : Wo W w mg) : PFn W P w mg base 2 o.a__law_odd o.fd__law_odd ["_law_bag_here", "_law_top"] Dodd := ok__law_odd (k := 1) o ((fn_Dtake o).mono (by omega))
theorem fn_Dworn (o : Wo W w mg) : PFn W P w mg base 5 o.a__law_worn o.fd__law_worn ["_law_way", "_law_gap", "_law_side"] Dworn := ok__law_worn (k := 4) o ((fn_Dstore o).mono (by omega)) ((fn_Dbeat o).mono (by omega))
theorem fn_Dinit (o : Wo W w mg) : PFn W P w mg base 2 o.a_Way___init__ o.fd_Way___init__ ["self", "hold", "miss", "bound"] Dinit := ok_Way___init__ (k := 1) o ((fn_Dput o).mono (by omega)) ((fn_Dwhole o).mono (by omega))
theorem fn_Dbag (o : Wo W w mg) : PFn W P w mg base 1 o.a__law_bag o.fd__law_bag ["_law_script", "_law_at"] Dbag := ok__law_bag (k := 0) o
theorem fn_Dlaw (o : Wo W w mg) {cc T : Addr} (M : MkT W.K o.a_law cc T) (TB : LamX.TabB base mg cc T) : PFn W P w mg base 7 o.a_law o.fd_law ["_law_script"] (Dlaw T) := ok_law (k := 4) o (fun A outer s H L ψ act => ok__law_refusal o act) ((fn_Dbeat o).mono (by omega)) ((fn_Dspoil o).mono (by omega)) ((fn_Dstore o).mono (by omega)) ((fn_Ddue o).mono (by omega)) ((fn_Deq o).mono (by omega)) ((fn_Dnost o).mono (by omega)) ((fn_Dodd o).mono (by omega)) ((fn_Dworn o).mono (by omega)) ((fn_Dlstore o).mono (by omega)) ((fn_Dinit o).mono (by omega)) ((fn_Dtake o).mono (by omega)) ((fn_Dbag o).mono (by omega)) M TB
end
end PM

open PySem PySem.W PySem.Calls PyProof.Rows
theorem PySem.Challenge.cw_anystore_k57_ways_refused_holds : PySem.Challenge.rw_anystore_k57_ways_refused.Holds := by
  w_on; o_law
  refine HandSHeadRun.head_any (r := OpenLaw.row PySem.Challenge.rw_anystore_k57_ways_refused) (q := view (OpenLaw.row PySem.Challenge.rw_anystore_k57_ways_refused).prog [30]) (H := PM.hk) (ob := PM.obH) (M := 9000)
    (loose := PM.loose) (d := HandSHeadRun.topDef (OpenLaw.row PySem.Challenge.rw_anystore_k57_ways_refused).prog 30) (kwd := []) PM.obH_eq
    (by kernel_rfl) (fun s => by kernel_rfl) PM.run (by kernel_rfl) (by kernel_rfl) (by kernel_rfl) (by rfl) (by first | assumption | decide +kernel) (by decide +kernel) ⟨rfl, rfl, rfl, rfl, rfl, by decide +kernel⟩ ?hw ?hc
  case hw => w_witness2
  case hc =>
    refine PM.law_walk1 (l := PySem.Challenge.rw_anystore_k57_ways_refused) (n := 63) (k := 7) (x := "_law_script") rfl (by decide) (by kernel_rfl) ⟨rfl, by decide, by decide⟩ ?F
    intro w mg fa h Y G hmg0
    obtain ⟨K, KX, c⟩ := Y
    obtain ⟨o⟩ := PM.wo_of KX G c
    have hmg : mg ("law" : PySem.Str) = some (.ref fa) := by
      have e : (HandSHeadRun.topDef (OpenLaw.row PySem.Challenge.rw_anystore_k57_ways_refused).prog 30).name = ("law" : PySem.Str) := by kernel_rfl
      rw [← e]
      exact hmg0
    have e := hmg.symm.trans o.g_law
    cases e
    have eg := o.g_law.symm.trans (He.glo_ok KX G (PM.fact_in c.t.d (f := .glo "law") (by decide +kernel) ⟨_, rfl⟩))
    obtain ⟨M, eT⟩ := PM.mkT_of (p := ("law", none)) c (by decide +kernel) (PM.txt_of o.F_law) (show o.a_law = He.fAd K ("law", none) from Value.ref.inj (Option.some.inj eg))
    have b := L2.FunD.bindsA (ps := ["_law_script"]) o.F_law fun _ _ _ _ _ _ us hl => match us, hl with | [_], _ => rfl
    exact ⟨⟨K, fun _ => 0, PM.clsOf K⟩, o.fd_law, PM.Dlaw _, _, _, PM.qn_law, KX, M, eT, fun s u => b s [u] rfl, fun ns hl => PM.law_ok _ ns hl, fun base _ _ TB => PM.fn_Dlaw (W := ⟨K, fun _ => 0, PM.clsOf K⟩) o M TB⟩
