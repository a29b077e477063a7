import PyProof.Rows.All
import Wide.All
import OpenK.AllK
import Wide.FinOn
import HandS.ForMost
import HandS.ForExc
import HandS.AnyAll
import HandS.TupAny
import HandS.TupMul
import HandS.Style
import HandS.Wide
import HandS.Deep
import PyProof.StrOps2
import HandS.IsInst
import HandS.Text
import HandS.WordsDict
import HandS.SortInts
import HandS.GenOver
import HandS.GenList
import HandS.Dict
import HandS.Words
import HandS.WordsExc
import HandS.Defaults
import HandS.HeadHook4
import HandS.Head2
import HandS.EndTab
import HandS.ExcIs
import HandS.SetFor
import HandS.Strs
import KE.GoesEnum
import PySem.Challenge.RW_knittold_k18_counters_of_rows
set_option Elab.async false
set_option linter.all false
set_option maxRecDepth 100000
set_option maxHeartbeats 1000000
/-! DA: the D layer, core: pure values held by heaps, the state relation, the judgements' readings -/
namespace DL
open PySem PySem.Spec PyProof.Rows L2
abbrev PV := PyData

/-- an exception: its class's name, its field -/
structure Xn where
  cls : Str
  fld : Option (Str × PV)
inductive Out (α : Type) where
  | ok (a : α) (n : Nat)
  | exc (x : Xn) (n : Nat)
  | stuck
def Out.bind {α β : Type} (o : Out α) (f : α → Nat → Out β) : Out β := match o with
  | .ok a n => f a n
  | .exc x n => .exc x n
  | .stuck => .stuck
@[simp] theorem Out.bind_ok {α β : Type} (a : α) (n : Nat) (f : α → Nat → Out β) : (Out.ok a n).bind f = f a n := rfl
@[simp] theorem Out.bind_exc {α β : Type} (x : Xn) (n : Nat) (f : α → Nat → Out β) : (Out.exc x n : Out α).bind f = .exc x n := rfl
@[simp] theorem Out.bind_stuck {α β : Type} (f : α → Nat → Out β) : (Out.stuck : Out α).bind f = .stuck := rfl
inductive FOut where
  | ok (p : PV)
  | exc (x : Xn)
  | stuck
/-- a slot: a shared value, a container of the def's own, the box -/
inductive SV where
  | sh (p : PV)
  | ow (p : PV)
  | bx
abbrev DEnv := List (Option SV)
inductive SOut where
  | next (ρ : DEnv) (n : Nat)
  | ret (p : PV) (n : Nat)
  | brk (ρ : DEnv) (n : Nat)
  | cont (ρ : DEnv) (n : Nat)
  | exc (x : Xn) (ρ : DEnv) (n : Nat)
  | stuck
abbrev M := DEnv → Nat → Out PV
abbrev MA := DEnv → Nat → Out (List PV)
abbrev MB := DEnv → Nat → Out Bool
abbrev MS := DEnv → Nat → SOut

def keyPV : Key → PV
  | .inl i => .int i
  | .inr s => .str s
mutual
inductive Rp (K : PySem.W.Frag) (F : Hp) : PV → V → Prop
  | non : Rp K F .none .non
  | bl (b : Bool) : Rp K F (.bool b) (.bl b)
  | int (i : Int) : Rp K F (.int i) (.int i)
  | str (x : Str) : Rp K F (.str x) (.str x)
  | lst {a : Addr} {vs : List V} {ds : List PV} : F a = some (.lst vs) → Rps K F ds vs → Rp K F (.list ds) (.ref a)
  | tup {a : Addr} {vs : List V} {ds : List PV} : SqT K F a vs → Rps K F ds vs → Rp K F (.tuple ds) (.ref a)
  | dic {a : Addr} {kvs : List (Key × V)} {ds : List (PV × PV)} : F a = some (.dK kvs) → Rkv K F ds kvs → Rp K F (.dict ds) (.ref a)
inductive Rps (K : PySem.W.Frag) (F : Hp) : List PV → List V → Prop
  | nil : Rps K F [] []
  | cons {d : PV} {v : V} {ds : List PV} {vs : List V} : Rp K F d v → Rps K F ds vs → Rps K F (d :: ds) (v :: vs)
inductive Rkv (K : PySem.W.Frag) (F : Hp) : List (PV × PV) → List (Key × V) → Prop
  | nil : Rkv K F [] []
  | cons {k : Key} {d : PV} {v : V} {ds : List (PV × PV)} {kvs : List (Key × V)} : Rp K F d v → Rkv K F ds kvs → Rkv K F ((keyPV k, d) :: ds) ((k, v) :: kvs)
end
def Sub (F F' : Hp) : Prop := ∀ a o, F a = some o → F' a = some o
theorem Sub.refl (F : Hp) : Sub F F := fun _ _ h => h
theorem Sub.trans {F F1 F2 : Hp} (a : Sub F F1) (b : Sub F1 F2) : Sub F F2 := fun c o h => b c o (a c o h)
theorem Sub.sqT {K : PySem.W.Frag} {F F' : Hp} (s : Sub F F') {a : Addr} {xs : List V} (h : SqT K F a xs) : SqT K F' a xs := by
  rcases h with (h | ⟨o, h⟩) | h
  · exact .inl (.inl (s _ _ h))
  · exact .inl (.inr ⟨o, s _ _ h⟩)
  · exact .inr h
mutual
theorem Rp.mono {K : PySem.W.Frag} {F F' : Hp} (s : Sub F F') : ∀ {d : PV} {v : V}, Rp K F d v → Rp K F' d v
  | _, _, .non => .non
  | _, _, .bl b => .bl b
  | _, _, .int i => .int i
  | _, _, .str x => .str x
  | _, _, .lst h r => .lst (s _ _ h) (Rps.mono s r)
  | _, _, .tup h r => .tup (s.sqT h) (Rps.mono s r)
  | _, _, .dic h r => .dic (s _ _ h) (Rkv.mono s r)
theorem Rps.mono {K : PySem.W.Frag} {F F' : Hp} (s : Sub F F') : ∀ {ds : List PV} {vs : List V}, Rps K F ds vs → Rps K F' ds vs
  | _, _, .nil => .nil
  | _, _, .cons h r => .cons (Rp.mono s h) (Rps.mono s r)
theorem Rkv.mono {K : PySem.W.Frag} {F F' : Hp} (s : Sub F F') : ∀ {ds : List (PV × PV)} {kvs : List (Key × V)}, Rkv K F ds kvs → Rkv K F' ds kvs
  | _, _, .nil => .nil
  | _, _, .cons h r => .cons (Rp.mono s h) (Rkv.mono s r)
end
mutual
/-- plain data, as the library tells it -/
theorem Rp.dp {K : PySem.W.Frag} {F : Hp} : ∀ {d : PV} {v : V}, Rp K F d v → d.canLay0 = true → Dp K F v d
  | _, _, .non, _ => .non
  | _, _, .bl b, _ => .bl b
  | _, _, .int i, _ => .int i
  | _, _, .str x, _ => .str x
  | _, _, .lst h r, c => .lst (SqL.of h) (Rps.dp r (by simpa only [PyData.canLay0] using c))
  | _, _, .tup h r, c => .tup h (Rps.dp r (by simpa only [PyData.canLay0] using c))
  | _, _, .dic h r, c => by simp [PyData.canLay0] at c
theorem Rps.dp {K : PySem.W.Frag} {F : Hp} : ∀ {ds : List PV} {vs : List V}, Rps K F ds vs → PyData.canLayAll0 ds = true → DpAll K F vs ds
  | _, _, .nil, _ => .nil
  | _, _, .cons h r, c => by
    have c' := Bool.and_eq_true_iff.mp (by simpa only [PyData.canLayAll0] using c)
    exact .cons (Rp.dp h c'.1) (Rps.dp r c'.2)
end
theorem Rps.length {K : PySem.W.Frag} {F : Hp} : ∀ {ds : List PV} {vs : List V}, Rps K F ds vs → vs.length = ds.length
  | _, _, .nil => rfl
  | _, _, .cons _ r => congrArg (· + 1) (Rps.length r)
theorem Rkv.length {K : PySem.W.Frag} {F : Hp} : ∀ {ds : List (PV × PV)} {vs : List (Key × V)}, Rkv K F ds vs → vs.length = ds.length
  | _, _, .nil => rfl
  | _, _, .cons _ r => congrArg (· + 1) (Rkv.length r)
theorem Rps.get {K : PySem.W.Frag} {F : Hp} : ∀ {ds : List PV} {vs : List V} {i : Nat} {d : PV}, Rps K F ds vs → ds[i]? = some d → ∃ v, vs[i]? = some v ∧ Rp K F d v
  | _, _, _, _, .nil, h => by simp at h
  | _, _, 0, _, .cons h _, e => by
    have e' := Option.some.inj e
    subst e'
    exact ⟨_, rfl, h⟩
  | _, _, i + 1, _, .cons _ r, e => Rps.get (i := i) r e
theorem Rps.append {K : PySem.W.Frag} {F : Hp} : ∀ {ds es : List PV} {vs us : List V}, Rps K F ds vs → Rps K F es us → Rps K F (ds ++ es) (vs ++ us)
  | _, _, _, _, .nil, s => s
  | _, _, _, _, .cons h r, s => .cons h (Rps.append r s)
theorem Rps.take {K : PySem.W.Frag} {F : Hp} : ∀ {ds : List PV} {vs : List V} (n : Nat), Rps K F ds vs → Rps K F (ds.take n) (vs.take n)
  | _, _, 0, _ => .nil
  | _, _, _ + 1, .nil => .nil
  | _, _, n + 1, .cons h r => .cons h (Rps.take n r)
theorem Rps.drop {K : PySem.W.Frag} {F : Hp} : ∀ {ds : List PV} {vs : List V} (n : Nat), Rps K F ds vs → Rps K F (ds.drop n) (vs.drop n)
  | _, _, 0, r => r
  | _, _, _ + 1, .nil => .nil
  | _, _, n + 1, .cons _ r => Rps.drop n r
theorem Rps.set {K : PySem.W.Frag} {F : Hp} {d : PV} {v : V} (h : Rp K F d v) : ∀ {ds : List PV} {vs : List V} (i : Nat), Rps K F ds vs → Rps K F (ds.set i d) (vs.set i v)
  | _, _, _, .nil => .nil
  | _, _, 0, .cons _ r => .cons h r
  | _, _, i + 1, .cons q r => .cons q (Rps.set h i r)
theorem Rps.reverse {K : PySem.W.Frag} {F : Hp} : ∀ {ds : List PV} {vs : List V}, Rps K F ds vs → Rps K F ds.reverse vs.reverse
  | _, _, .nil => .nil
  | _, _, .cons h r => by
    rw [List.reverse_cons, List.reverse_cons]
    exact (Rps.reverse r).append (.cons h .nil)
theorem Rps.rep {K : PySem.W.Frag} {F : Hp} {ds : List PV} {vs : List V} (h : Rps K F ds vs) : ∀ k : Nat, Rps K F (List.replicate k ds).flatten (List.replicate k vs).flatten
  | 0 => .nil
  | k + 1 => by
    rw [List.replicate_succ, List.replicate_succ, List.flatten_cons, List.flatten_cons]
    exact h.append (Rps.rep h k)

/-- what is fixed through a body: the module's part, the code tables, frozen and whole heap at the entry, the wish about exceptions, the box -/
structure Gx where
  K : PySem.W.Frag
  mg : Str → Option Value
  T : List Addr
  F0 : Hp
  H0 : Hp
  W : WX
  bx : Option (Addr × List Int)
def XnOk (K : PySem.W.Frag) (mg : Str → Option Value) (x : Xn) (cls : Value) (d : Option Addr) (F H : Hp) : Prop :=
  (∃ C, mg x.cls = some (.ref C) ∧ cls = .ref C) ∧ match x.fld with
    | none => d = none
    | some (f, p) => ∃ dd v, d = some dd ∧ H dd = some (.xd [(f, v)]) ∧ Rp K F p v
/-- an address of the tables or of the box -/
def Gx.odd (g : Gx) (a : Addr) : Prop := a ∈ g.T ∨ ∃ R, g.bx = some (a, R)
/-- the heap without these -/
noncomputable def vw (g : Gx) (H : Hp) : Hp := by
  classical
  exact fun a => if g.odd a then none else H a
theorem vw_of {g : Gx} {H : Hp} {a : Addr} (h : ¬ g.odd a) : vw g H a = H a := by
  unfold vw
  exact if_neg h
theorem vw_some {g : Gx} {H : Hp} {a : Addr} {o : HO} (h : vw g H a = some o) : ¬ g.odd a ∧ H a = some o := by
  unfold vw at h
  by_cases q : g.odd a
  · rw [if_pos q] at h
    cases h
  · rw [if_neg q] at h
    exact ⟨q, h⟩
theorem vw_sub {g : Gx} {H : Hp} : Sub (vw g H) H := fun _ _ h => (vw_some h).2
structure Bd (g : Gx) (n : Nat) (F H : Hp) : Prop where
  fh : Sub F H
  sub : Sub g.F0 F
  kept : ∀ a o, g.H0 a = some o → ¬ g.odd a → H a = some o ∧ F a = g.F0 a
  was : ∀ a, g.odd a → ∃ o, g.H0 a = some o
  tab : ∀ P ∈ g.T, GxR.TabG H P ∧ F P = none
  box : ∀ B R, g.bx = some (B, R) → B ∉ g.T ∧ F B = none ∧ ∃ r, H B = some (.dK [(.inr "row", .ref r), (.inr "at", .int n)]) ∧ F r = some (.lst (R.map V.int))
structure Stp (g : Gx) (F H F' H' : Hp) : Prop where
  ff : Sub F F'
  hh : ∀ a o, H a = some o → ¬ g.odd a → H' a = some o
  fz : ∀ a o, H a = some o → F' a = F a
def Con (K : PySem.W.Frag) (F H : Hp) (p : PV) (a : Addr) : Prop := match p with
  | .list ds => ∃ vs, H a = some (.lst vs) ∧ Rps K F ds vs
  | .dict ds => ∃ kvs, H a = some (.dK kvs) ∧ Rkv K F ds kvs
  | _ => False
def SvOk (g : Gx) (F H : Hp) : SV → V → Prop
  | .sh p, v => Rp g.K F p v
  | .ow p, v => ∃ a, v = .ref a ∧ F a = none ∧ g.H0 a = none ∧ Con g.K F H p a
  | .bx, v => ∃ B R, g.bx = some (B, R) ∧ v = .ref B
structure Ok (g : Gx) (ρ : DEnv) (n : Nat) (σ : L2.St) (F H : Hp) : Prop where
  bd : Bd g n F H
  sl : ∀ (i : Nat) (sv : SV), ρ[i]? = some (some sv) → ∃ v, σ[i]? = some (some v) ∧ SvOk g F H sv v
  ap : ∀ (i j : Nat) (a : Addr) (p q : PV), ρ[i]? = some (some (.ow p)) → ρ[j]? = some (some (.ow q)) → σ[i]? = some (some (.ref a)) → σ[j]? = some (some (.ref a)) → i = j
  len : ρ.length = σ.length

theorem Con.some {K : PySem.W.Frag} {F H : Hp} {p : PV} {a : Addr} (h : Con K F H p a) : ∃ o, H a = some o := by
  cases p with
  | list ds => obtain ⟨vs, h, _⟩ := h; exact ⟨_, h⟩
  | dict ds => obtain ⟨vs, h, _⟩ := h; exact ⟨_, h⟩
  | _ => exact h.elim
theorem Con.mono {K : PySem.W.Frag} {F H F' H' : Hp} {p : PV} {a : Addr} (h : Con K F H p a) (s : Sub F F') (e : ∀ o, H a = Option.some o → H' a = Option.some o) : Con K F' H' p a := by
  cases p with
  | list ds => obtain ⟨vs, h, r⟩ := h; exact ⟨vs, e _ h, r.mono s⟩
  | dict ds => obtain ⟨vs, h, r⟩ := h; exact ⟨vs, e _ h, r.mono s⟩
  | _ => exact h.elim
/-- a container as it stands, read -/
theorem Con.rp {K : PySem.W.Frag} {F H : Hp} {p : PV} {a : Addr} (h : Con K F H p a) {F' : Hp} (s : Sub F F') (e : ∀ o, H a = Option.some o → F' a = Option.some o) : Rp K F' p (.ref a) := by
  cases p with
  | list ds => obtain ⟨vs, h, r⟩ := h; exact .lst (e _ h) (r.mono s)
  | dict ds => obtain ⟨vs, h, r⟩ := h; exact .dic (e _ h) (r.mono s)
  | _ => exact h.elim

section
variable {g : Gx} {ρ ρ' : DEnv} {n n' : Nat} {σ : L2.St} {F H F' H' F'' H'' : Hp}
theorem Bd.notOdd (b : Bd g n F H) {a : Addr} (h : g.H0 a = none) : ¬ g.odd a := fun q => by
  obtain ⟨o, e⟩ := b.was a q
  rw [h] at e
  cases e
theorem Bd.there (b : Bd g n F H) {a : Addr} (h : g.odd a) : ∃ o, H a = some o := by
  rcases h with h | ⟨R, h⟩
  · obtain ⟨⟨ps, e, _⟩, _⟩ := b.tab a h
    exact ⟨_, e⟩
  · obtain ⟨_, _, r, e, _⟩ := b.box a R h
    exact ⟨_, e⟩
theorem Bd.new0 (b : Bd g n F H) {a : Addr} (h : H a = none) : g.H0 a = none := by
  cases e : g.H0 a with
  | none => rfl
  | some o =>
    by_cases q : g.odd a
    · obtain ⟨o', e'⟩ := b.there q
      rw [h] at e'
      cases e'
    · rw [(b.kept a o e q).1] at h
      cases h
theorem Bd.fodd (b : Bd g n F H) {a : Addr} (h : g.odd a) : F a = none := by
  rcases h with h | ⟨R, h⟩
  · exact (b.tab a h).2
  · exact (b.box a R h).2.1
theorem Bd.fvw (b : Bd g n F H) : Sub F (vw g H) := fun a o h => by
  rw [vw_of]
  · exact b.fh a o h
  · intro q
    rw [b.fodd q] at h
    cases h
theorem Stp.refl : Stp g F H F H := ⟨Sub.refl _, fun _ _ h _ => h, fun _ _ _ => rfl⟩
theorem Stp.trans (b1 : Bd g n F' H') (x : Stp g F H F' H') (y : Stp g F' H' F'' H'') : Stp g F H F'' H'' :=
  ⟨x.ff.trans y.ff, fun a o h q => y.hh a o (x.hh a o h q) q, fun a o h => by
    by_cases q : g.odd a
    · obtain ⟨o', e⟩ := b1.there q
      exact (y.fz a o' e).trans (x.fz a o h)
    · exact (y.fz a o (x.hh a o h q)).trans (x.fz a o h)⟩
theorem Stp.vw (x : Stp g F H F' H') : Sub (vw g H) (vw g H') := fun a o h => by
  obtain ⟨q, e⟩ := vw_some h
  rw [vw_of q]
  exact x.hh a o e q
theorem Ok.step (k : Ok g ρ n σ F H) (b : Bd g n' F' H') (x : Stp g F H F' H') : Ok g ρ n' σ F' H' := by
  refine ⟨b, fun i sv e => ?_, k.ap, k.len⟩
  obtain ⟨v, e1, h⟩ := k.sl i sv e
  refine ⟨v, e1, ?_⟩
  cases sv with
  | sh p => exact Rp.mono x.ff h
  | ow p =>
    obtain ⟨a, rfl, h1, h2, h3⟩ := h
    obtain ⟨o, ho⟩ := h3.some
    exact ⟨a, rfl, (x.fz a o ho).trans h1, h2, h3.mono x.ff fun o ho => x.hh a o ho (k.bd.notOdd h2)⟩
  | bx => exact h
/-- a new object, left alone (frozen) -/
noncomputable def put (F : Hp) (a : Addr) (o : HO) : Hp := upd F a o
theorem Bd.newF (b : Bd g n F H) {p : Addr} {o : HO} (np : H p = none) : Bd g n (upd F p o) (upd H p o) := by
  have n0 := b.new0 np
  have no : ¬ g.odd p := b.notOdd n0
  have fn : F p = none := by
    cases e : F p with
    | none => rfl
    | some u => rw [b.fh p u e] at np; cases np
  refine ⟨fun a u h => ?_, fun a u h => ?_, fun a u h q => ?_, b.was, fun P hP => ?_, fun B R e => ?_⟩
  · by_cases ha : a = p
    · subst ha
      rw [upd_same] at h ⊢
      exact h
    · rw [upd_ne ha] at h ⊢
      exact b.fh a u h
  · have ha : a ≠ p := fun z => by
      subst z
      rw [b.sub a u h] at fn
      cases fn
    rw [upd_ne ha]
    exact b.sub a u h
  · have ha : a ≠ p := fun z => by
      subst z
      rw [n0] at h
      cases h
    rw [upd_ne ha, upd_ne ha]
    exact b.kept a u h q
  · have ha : P ≠ p := fun z => by
      subst z
      exact no (.inl hP)
    obtain ⟨⟨ps, e, t⟩, f⟩ := b.tab P hP
    exact ⟨⟨ps, by rw [upd_ne ha]; exact e, t⟩, by rw [upd_ne ha]; exact f⟩
  · obtain ⟨h1, h2, r, h3, h4⟩ := b.box B R e
    have ha : B ≠ p := fun z => by
      subst z
      exact no (.inr ⟨R, e⟩)
    have hr : r ≠ p := fun z => by
      subst z
      rw [fn] at h4
      cases h4
    exact ⟨h1, by rw [upd_ne ha]; exact h2, r, by rw [upd_ne ha]; exact h3, by rw [upd_ne hr]; exact h4⟩
/-- a new object of one's own -/
theorem Bd.newH (b : Bd g n F H) {p : Addr} {o : HO} (np : H p = none) : Bd g n F (upd H p o) := by
  have n0 := b.new0 np
  have no : ¬ g.odd p := b.notOdd n0
  have hne : ∀ a u, H a = some u → a ≠ p := fun a u h z => by
    subst z
    rw [np] at h
    cases h
  refine ⟨fun a u h => ?_, b.sub, fun a u h q => ?_, b.was, fun P hP => ?_, fun B R e => ?_⟩
  · rw [upd_ne (hne a u (b.fh a u h))]
    exact b.fh a u h
  · obtain ⟨h1, h2⟩ := b.kept a u h q
    rw [upd_ne (hne a u h1)]
    exact ⟨h1, h2⟩
  · obtain ⟨⟨ps, e, t⟩, f⟩ := b.tab P hP
    exact ⟨⟨ps, by rw [upd_ne (hne P _ e)]; exact e, t⟩, f⟩
  · obtain ⟨h1, h2, r, h3, h4⟩ := b.box B R e
    exact ⟨h1, h2, r, by rw [upd_ne (hne B _ h3)]; exact h3, h4⟩
theorem Stp.newF (np : H p = none) (fh : Sub F H) : Stp g F H (upd F p o) (upd H p o) := by
  have hne : ∀ a u, H a = some u → a ≠ p := fun a u h z => by
    subst z
    rw [np] at h
    cases h
  exact ⟨fun a u h => by rw [upd_ne (hne a u (fh a u h))]; exact h, fun a u h _ => by rw [upd_ne (hne a u h)]; exact h, fun a u h => upd_ne (hne a u h)⟩
theorem Stp.newH (np : H p = none) : Stp g F H F (upd H p o) := by
  have hne : ∀ a u, H a = some u → a ≠ p := fun a u h z => by
    subst z
    rw [np] at h
    cases h
  exact ⟨Sub.refl _, fun a u h _ => by rw [upd_ne (hne a u h)]; exact h, fun a u h => rfl⟩
end

/-! ### readings -/
/-- frozen -/
def RF (g : Gx) (F H F' H' : Hp) (p : PV) (v : V) : Prop := Rp g.K F' p v
/-- frozen, or a container of one's own as it stands, its items frozen -/
def Pk (g : Gx) (F H : Hp) (p : PV) (v : V) : Prop := Rp g.K F p v ∨ ∃ a, v = .ref a ∧ ¬ g.odd a ∧ Con g.K F H p a
theorem Pk.rp {g : Gx} {n : Nat} {F H : Hp} {p : PV} {v : V} (b : Bd g n F H) (h : Pk g F H p v) : Rp g.K (vw g H) p v := by
  rcases h with h | ⟨a, rfl, h1, h2⟩
  · exact h.mono b.fvw
  · exact h2.rp b.fvw fun o ho => by rw [vw_of h1]; exact ho
theorem Pk.step {g : Gx} {F H F' H' : Hp} {p : PV} {v : V} (s : Stp g F H F' H') (h : Pk g F H p v) : Pk g F' H' p v := by
  rcases h with h | ⟨a, rfl, h1, h2⟩
  · exact .inl (h.mono s.ff)
  · exact .inr ⟨a, rfl, h1, h2.mono s.ff fun o ho => s.hh a o ho h1⟩
theorem Pk.list {g : Gx} {n : Nat} {F H : Hp} {ds : List PV} {v : V} (b : Bd g n F H) (h : Pk g F H (.list ds) v) : ∃ a vs, v = .ref a ∧ H a = some (.lst vs) ∧ Rps g.K F ds vs := by
  rcases h with h | ⟨a, rfl, h1, vs, h2, h3⟩
  · cases h with
    | lst e r => exact ⟨_, _, rfl, b.fh _ _ e, r⟩
  · exact ⟨a, vs, rfl, h2, h3⟩
theorem Pk.dict {g : Gx} {n : Nat} {F H : Hp} {ds : List (PV × PV)} {v : V} (b : Bd g n F H) (h : Pk g F H (.dict ds) v) : ∃ a vs, v = .ref a ∧ H a = some (.dK vs) ∧ Rkv g.K F ds vs := by
  rcases h with h | ⟨a, rfl, h1, vs, h2, h3⟩
  · cases h with
    | dic e r => exact ⟨_, _, rfl, b.fh _ _ e, r⟩
  · exact ⟨a, vs, rfl, h2, h3⟩
theorem Pk.tup {g : Gx} {F H : Hp} {ds : List PV} {v : V} (h : Pk g F H (.tuple ds) v) : ∃ a vs, v = .ref a ∧ SqT g.K F a vs ∧ Rps g.K F ds vs := by
  rcases h with h | ⟨a, rfl, h1, h2⟩
  · cases h with
    | tup e r => exact ⟨_, _, rfl, e, r⟩
  · exact h2.elim
theorem Pk.int {g : Gx} {F H : Hp} {i : Int} {v : V} (h : Pk g F H (.int i) v) : v = .int i := by
  rcases h with h | ⟨a, rfl, h1, h2⟩
  · cases h
    rfl
  · exact h2.elim
theorem Pk.bl {g : Gx} {F H : Hp} {i : Bool} {v : V} (h : Pk g F H (.bool i) v) : v = .bl i := by
  rcases h with h | ⟨a, rfl, h1, h2⟩
  · cases h
    rfl
  · exact h2.elim
theorem Pk.str {g : Gx} {F H : Hp} {i : Str} {v : V} (h : Pk g F H (.str i) v) : v = .str i := by
  rcases h with h | ⟨a, rfl, h1, h2⟩
  · cases h
    rfl
  · exact h2.elim
theorem Pk.non {g : Gx} {F H : Hp} {v : V} (h : Pk g F H .none v) : v = .non := by
  rcases h with h | ⟨a, rfl, h1, h2⟩
  · cases h
    rfl
  · exact h2.elim
def RP (g : Gx) (F H F' H' : Hp) (p : PV) (v : V) : Prop := Pk g F' H' p v
/-- a new container of one's own -/
def RO (g : Gx) (F H F' H' : Hp) (p : PV) (v : V) : Prop := ∃ a, v = .ref a ∧ H a = none ∧ F' a = none ∧ Con g.K F' H' p a
abbrev Rel := Gx → Hp → Hp → Hp → Hp → PV → V → Prop
/-- what follows an outcome -/
def PO (g : Gx) (F H : Hp) (σ : L2.St) {α : Type} (o : Out α) (Q : α → Nat → Hp → Hp → Prop) : Prop := match o with
  | .ok a n' => ∀ F' H', Bd g n' F' H' → Stp g F H F' H' → Q a n' F' H'
  | .exc x n' => ∀ cls d F' H', Bd g n' F' H' → Stp g F H F' H' → XnOk g.K g.mg x cls d F' H' → g.W cls d σ H'
  | .stuck => False
theorem PO.imp {g : Gx} {F H : Hp} {σ : L2.St} {α : Type} {o : Out α} {Q Q' : α → Nat → Hp → Hp → Prop} (h : PO g F H σ o Q) (f : ∀ a n' F' H', Bd g n' F' H' → Stp g F H F' H' → Q a n' F' H' → Q' a n' F' H') : PO g F H σ o Q' := by
  cases o with
  | ok a n' => exact fun F' H' b s => f a n' F' H' b s (h F' H' b s)
  | exc x n' => exact h
  | stuck => exact h
theorem PO.mono {g : Gx} {F H F1 H1 : Hp} {n1 : Nat} {σ : L2.St} {α : Type} {o : Out α} {Q : α → Nat → Hp → Hp → Prop} (b1 : Bd g n1 F1 H1) (s1 : Stp g F H F1 H1) (h : PO g F H σ o Q) : PO g F1 H1 σ o Q := by
  cases o with
  | ok a n' => exact fun F' H' b s => h F' H' b (s1.trans b1 s)
  | exc x n' => exact fun cls d F' H' b s => h cls d F' H' b (s1.trans b1 s)
  | stuck => exact h
theorem PO.bind {g : Gx} {F H : Hp} {σ : L2.St} {α β : Type} {o : Out α} {f : α → Nat → Out β} {Q : β → Nat → Hp → Hp → Prop} (h : PO g F H σ (o.bind f) Q) : PO g F H σ o (fun a n1 F1 H1 => PO g F1 H1 σ (f a n1) Q) := by
  cases o with
  | ok a n' => exact fun F' H' b s => PO.mono b s (show PO g F H σ (f a n') Q from h)
  | exc x n' => exact h
  | stuck => exact h
def tD (g : Gx) (R : Rel) (f : M) : TE := fun σ H Q => ∃ ρ n F, Ok g ρ n σ F H ∧ PO g F H σ (f ρ n) fun p _ F' H' => ∀ v, R g F H F' H' p v → Q v H'
def tDA (g : Gx) (f : MA) : TA := fun σ H Q => ∃ ρ n F, Ok g ρ n σ F H ∧ PO g F H σ (f ρ n) fun ps _ F' H' => ∀ vs, Rps g.K F' ps vs → Q vs H'
def tDB (g : Gx) (f : MB) : TT := fun σ H Q => ∃ ρ n F, Ok g ρ n σ F H ∧ PO g F H σ (f ρ n) fun b _ _ H' => Q b H'
def SO (g : Gx) (F : Hp) (D : Ends) (o : SOut) : Prop := match o with
  | .next ρ' n' => ∀ σ' F' H', Ok g ρ' n' σ' F' H' → Sub F F' → D.nx σ' H'
  | .cont ρ' n' => ∀ σ' F' H', Ok g ρ' n' σ' F' H' → Sub F F' → D.ct σ' H'
  | .brk ρ' n' => ∀ σ' F' H', Ok g ρ' n' σ' F' H' → Sub F F' → D.bk σ' H'
  | .ret p n' => ∀ v F' H', Bd g n' F' H' → Rp g.K F' p v → D.rt v H'
  | .exc x ρ' n' => ∀ cls d σ' F' H', Ok g ρ' n' σ' F' H' → XnOk g.K g.mg x cls d F' H' → g.W cls d σ' H'
  | .stuck => False
def tDS (g : Gx) (f : MS) : TS := fun D σ H => ∃ ρ n F, Ok g ρ n σ F H ∧ SO g F D (f ρ n)
theorem SO.mono {g : Gx} {F F1 : Hp} {D : Ends} {o : SOut} (s : Sub F F1) (h : SO g F D o) : SO g F1 D o := by
  cases o with
  | next ρ' n' => exact fun σ' F' H' k q => h σ' F' H' k (s.trans q)
  | cont ρ' n' => exact fun σ' F' H' k q => h σ' F' H' k (s.trans q)
  | brk ρ' n' => exact fun σ' F' H' k q => h σ' F' H' k (s.trans q)
  | ret p n' => exact h
  | exc x ρ' n' => exact h
  | stuck => exact h

/-! ### weakening -/
section
variable {X : Cx} {e : Expr} {es : List Expr} {st : Stmt} {sts : List Stmt}
theorem pe_imp {t t' : TE} (h : PE X e t) (w : ∀ σ H Q, t' σ H Q → t σ H Q) : PE X e t' := ⟨fun pins s σ H Q I hw => h.run pins s σ H Q I (w σ H Q hw)⟩
theorem pt_imp {t t' : TT} (h : PT X e t) (w : ∀ σ H Q, t' σ H Q → t σ H Q) : PT X e t' := ⟨fun pins s σ H Q I hw => h.run pins s σ H Q I (w σ H Q hw)⟩
theorem pw_imp {t t' : TT} (h : PW X e t) (w : ∀ σ H Q, t' σ H Q → t σ H Q) : PW X e t' := ⟨fun wh pins s σ H Q I hw => h.run wh pins s σ H Q I (w σ H Q hw)⟩
theorem pa_imp {t t' : TA} (h : PA X es t) (w : ∀ σ H Q, t' σ H Q → t σ H Q) : PA X es t' := ⟨fun pos pins s σ H Q I hw => h.run pos pins s σ H Q I (w σ H Q hw)⟩
theorem ps_imp {t t' : TS} (h : PS X st t) (w : ∀ D σ H, t' D σ H → t D σ H) : PS X st t' := ⟨fun pins s σ H D I hw => h.run pins s σ H D I (w D σ H hw)⟩
theorem pss_imp {t t' : TS} (h : PSs X sts t) (w : ∀ D σ H, t' D σ H → t D σ H) : PSs X sts t' := ⟨fun pins s σ H D I hw => h.run pins s σ H D I (w D σ H hw)⟩
end
/-- what is frozen may be read as it stands -/
theorem tD_FP {g : Gx} {f : M} {σ : L2.St} {H : Hp} {Q : VK} (h : tD g RP f σ H Q) : tD g RF f σ H Q := by
  obtain ⟨ρ, n, F, k, h⟩ := h
  exact ⟨ρ, n, F, k, h.imp fun p n' F' H' b s h v r => h v (.inl r)⟩
/-- an own new container is frozen -/
theorem Bd.freeze {g : Gx} {n : Nat} {F H : Hp} (b : Bd g n F H) {a : Addr} {o : HO} (h0 : g.H0 a = none) (fa : F a = none) (ha : H a = some o) : Bd g n (upd F a o) H ∧ Sub F (upd F a o) := by
  have ne : ∀ c u, F c = some u → c ≠ a := fun c u q z => by
    subst z
    rw [fa] at q
    cases q
  have sb : Sub F (upd F a o) := fun c u q => by
    rw [upd_ne (ne c u q)]
    exact q
  refine ⟨⟨fun c u q => ?_, fun c u q => sb c u (b.sub c u q), fun c u q z => ?_, b.was, fun P hP => ?_, fun B R e2 => ?_⟩, sb⟩
  · by_cases hc : c = a
    · subst hc
      rw [upd_same] at q
      cases q
      exact ha
    · rw [upd_ne hc] at q
      exact b.fh c u q
  · have hc : c ≠ a := fun z2 => by
      subst z2
      rw [h0] at q
      cases q
    rw [upd_ne hc]
    exact b.kept c u q z
  · have hc : P ≠ a := fun z2 => by
      subst z2
      exact b.notOdd h0 (.inl hP)
    rw [upd_ne hc]
    exact b.tab P hP
  · obtain ⟨q1, q2, r, q3, q4⟩ := b.box B R e2
    have hc : B ≠ a := fun z2 => by
      subst z2
      exact b.notOdd h0 (.inr ⟨R, e2⟩)
    exact ⟨q1, by rw [upd_ne hc]; exact q2, r, q3, sb r _ q4⟩
/-- what is new may be frozen -/
theorem tD_OF {g : Gx} {f : M} {σ : L2.St} {H : Hp} {Q : VK} (h : tD g RF f σ H Q) : tD g RO f σ H Q := by
  obtain ⟨ρ, n, F, k, h⟩ := h
  refine ⟨ρ, n, F, k, ?_⟩
  cases e : f ρ n with
  | ok p n' =>
    rw [e] at h
    intro F' H' b s v r
    obtain ⟨a, rfl, h1, h2, h3⟩ := r
    obtain ⟨o, ho⟩ := h3.some
    obtain ⟨b2, sb⟩ := b.freeze (k.bd.new0 h1) h2 ho
    refine h (upd F' a o) H' b2 ⟨s.ff.trans sb, s.hh, fun c u q => ?_⟩ (.ref a) (h3.rp sb fun o' ho' => by rw [ho] at ho'; cases ho'; exact upd_same)
    have hc : c ≠ a := fun z2 => by
      subst z2
      rw [h1] at q
      cases q
    rw [upd_ne hc]
    exact s.fz c u q
  | exc x n' =>
    rw [e] at h
    exact h
  | stuck =>
    rw [e] at h
    exact h
theorem fp {X : Cx} {e : Expr} {g : Gx} {f : M} (h : PE X e (tD g RF f)) : PE X e (tD g RP f) := pe_imp h fun _ _ _ => tD_FP
theorem of {X : Cx} {e : Expr} {g : Gx} {f : M} (h : PE X e (tD g RO f)) : PE X e (tD g RF f) := pe_imp h fun _ _ _ => tD_OF
theorem op {X : Cx} {e : Expr} {g : Gx} {f : M} (h : PE X e (tD g RO f)) : PE X e (tD g RP f) := fp (of h)
end DL
set_option Elab.async false
set_option linter.all false
set_option maxRecDepth 100000
set_option maxHeartbeats 1000000
/-! DB: the D layer: names, constants, operators, comparisons, tests, displays -/
namespace DL
open PySem PySem.Spec PyProof.Rows L2

/-! ### the combinators -/
def opt (o : Option PV) (n : Nat) : Out PV := match o with
  | some p => .ok p n
  | none => .stuck
@[simp] theorem opt_some (p : PV) (n : Nat) : opt (some p) n = .ok p n := rfl
@[simp] theorem opt_none (n : Nat) : opt none n = .stuck := rfl
def kM (p : PV) : M := fun _ n => .ok p n
def rdS (i : Nat) : M := fun ρ n => match ρ[i]? with
  | some (some (.sh p)) => .ok p n
  | _ => .stuck
def rdP (i : Nat) : M := fun ρ n => match ρ[i]? with
  | some (some (.sh p)) => .ok p n
  | some (some (.ow p)) => .ok p n
  | _ => .stuck
def bin (k : PV → PV → Option PV) (f h : M) : M := fun ρ n => (f ρ n).bind fun p n1 => (h ρ n1).bind fun q n2 => opt (k p q) n2
def una (k : PV → Option PV) (f : M) : M := fun ρ n => (f ρ n).bind fun p n1 => opt (k p) n1
def nilA : MA := fun _ n => .ok [] n
def consA (f : M) (fs : MA) : MA := fun ρ n => (f ρ n).bind fun p n1 => (fs ρ n1).bind fun ps n2 => .ok (p :: ps) n2
def opB (o : Option Bool) (n : Nat) : Out Bool := match o with
  | some p => .ok p n
  | none => .stuck
@[simp] theorem opB_some (p : Bool) (n : Nat) : opB (some p) n = .ok p n := rfl
@[simp] theorem opB_none (n : Nat) : opB none n = .stuck := rfl
def blV : PV → Option Bool
  | .bool b => some b
  | _ => none
def truV : PV → Option Bool
  | .none => some false
  | .bool b => some b
  | .int i => some (i != 0)
  | .str x => if x.length ≤ sizeLine then some ((x.length : Int) != 0) else none
  | .list xs => some (!xs.isEmpty)
  | .tuple xs => some (!xs.isEmpty)
  | .dict xs => some (!xs.isEmpty)
def tst (f : M) : MB := fun ρ n => (f ρ n).bind fun p n1 => opB (blV p) n1
def tru (f : M) : MB := fun ρ n => (f ρ n).bind fun p n1 => opB (truV p) n1
def andB (a b : MB) : MB := fun ρ n => (a ρ n).bind fun c n1 => if c = true then b ρ n1 else .ok false n1
def orB (a b : MB) : MB := fun ρ n => (a ρ n).bind fun c n1 => if c = true then .ok true n1 else b ρ n1
def notB (a : MB) : MB := fun ρ n => (a ρ n).bind fun c n1 => .ok (!c) n1
def iteM (c : MB) (a b : M) : M := fun ρ n => (c ρ n).bind fun d n1 => if d = true then a ρ n1 else b ρ n1
/-- and, or among bools, as values -/
def andV (a b : M) : M := fun ρ n => (a ρ n).bind fun p n1 => match p with
  | .bool true => b ρ n1
  | .bool false => .ok (.bool false) n1
  | _ => .stuck
def orV (a b : M) : M := fun ρ n => (a ρ n).bind fun p n1 => match p with
  | .bool true => .ok (.bool true) n1
  | .bool false => b ρ n1
  | _ => .stuck
def notV : PV → Option PV
  | .bool b => some (.bool !b)
  | _ => none
def tupA (fs : MA) : M := fun ρ n => (fs ρ n).bind fun ps n1 => if ps.length ≤ sizeLine then .ok (.tuple ps) n1 else .stuck
def lstA (fs : MA) : M := fun ρ n => (fs ρ n).bind fun ps n1 => if ps.length ≤ sizeLine then .ok (.list ps) n1 else .stuck

/-! ### names and constants -/
section
variable {X : Cx} {g : Gx} {pos : Pos} {R : Rel}
theorem de_sh (i : Nat) {x : Str} (hN : X.N[i]? = some x) (hv : Vis X.env.scope x) (hd : (x == ("__debug__" : Str)) = false := by decide) (hcd : (x == ("__classdict__" : Str)) = false := by decide) : PE X (.Name x pos) (tD g RF (rdS i)) := by
  refine pe_imp (pe_var hN hv hd hcd) fun σ H Q h => ?_
  obtain ⟨ρ, n, F, k, h⟩ := h
  unfold rdS at h
  cases e : ρ[i]? with
  | none => rw [e] at h; exact h.elim
  | some o =>
    cases o with
    | none => rw [e] at h; exact h.elim
    | some sv =>
      cases sv with
      | sh p =>
        rw [e] at h
        obtain ⟨v, e1, r⟩ := k.sl i _ e
        exact ⟨v, e1, h F H k.bd Stp.refl v r⟩
      | ow p => rw [e] at h; exact h.elim
      | bx => rw [e] at h; exact h.elim
theorem dp_nm (i : Nat) {x : Str} (hN : X.N[i]? = some x) (hv : Vis X.env.scope x) (hd : (x == ("__debug__" : Str)) = false := by decide) (hcd : (x == ("__classdict__" : Str)) = false := by decide) : PE X (.Name x pos) (tD g RP (rdP i)) := by
  refine pe_imp (pe_var hN hv hd hcd) fun σ H Q h => ?_
  obtain ⟨ρ, n, F, k, h⟩ := h
  unfold rdP at h
  cases e : ρ[i]? with
  | none => rw [e] at h; exact h.elim
  | some o =>
    cases o with
    | none => rw [e] at h; exact h.elim
    | some sv =>
      cases sv with
      | sh p =>
        rw [e] at h
        obtain ⟨v, e1, r⟩ := k.sl i _ e
        exact ⟨v, e1, h F H k.bd Stp.refl v (.inl r)⟩
      | ow p =>
        rw [e] at h
        obtain ⟨v, e1, a, rfl, f1, f2, c⟩ := k.sl i _ e
        exact ⟨.ref a, e1, h F H k.bd Stp.refl (.ref a) (.inr ⟨a, rfl, k.bd.notOdd f2, c⟩)⟩
      | bx => rw [e] at h; exact h.elim
theorem de_k {e : Expr} {v : V} {p : PV} (h : PE X e (tC v)) (r : ∀ K F, Rp K F p v) : PE X e (tD g RF (kM p)) :=
  pe_imp h fun σ H Q ⟨_, _, F, k, h⟩ => h F H k.bd Stp.refl v (r _ _)
theorem de_int {i : Int} {j} : PE X (.Constant (.int i) j pos) (tD g RF (kM (.int i))) := de_k pe_int fun _ _ => .int i
theorem de_bl {b : Bool} {j} : PE X (.Constant (.bool b) j pos) (tD g RF (kM (.bool b))) := de_k pe_bl fun _ _ => .bl b
theorem de_non {j} : PE X (.Constant .none j pos) (tD g RF (kM .none)) := de_k pe_non fun _ _ => .non
theorem de_str {x : Str} {j} : PE X (.Constant (.str x) j pos) (tD g RF (kM (.str x))) := de_k pe_str fun _ _ => .str x

/-! ### argument lists, displays -/
theorem da_nil : PA X [] (tDA g nilA) := pa_imp pa_nil fun σ H Q ⟨_, _, F, k, h⟩ => h F H k.bd Stp.refl [] .nil
theorem da_cons {e : Expr} {es : List Expr} {f : M} {fs : MA} (ha : PE X e (tD g RF f)) (hr : PA X es (tDA g fs)) (hs : starEach (e :: es) X.env = (false, eval e X.env) :: starEach es X.env := by rfl) : PA X (e :: es) (tDA g (consA f fs)) := by
  refine pa_imp (pa_cons ha hr hs) fun σ H Q ⟨ρ, n, F, k, h⟩ => ⟨ρ, n, F, k, (PO.bind h).imp fun p n1 F1 H1 b1 s1 h1 v r => ?_⟩
  refine ⟨ρ, n1, F1, k.step b1 s1, (PO.bind h1).imp fun ps n2 F2 H2 b2 s2 h2 vs rs => ?_⟩
  exact h2 F2 H2 b2 Stp.refl (v :: vs) (.cons (Rp.mono s2.ff r) rs)
theorem dt_tup {es : List Expr} {fs : MA} {x1} (h : PA X es (tDA g fs)) : PE X (.Tuple es x1 pos) (tD g RF (tupA fs)) := by
  refine pe_imp (pe_tup h) fun σ H Q ⟨ρ, n, F, k, h⟩ => ⟨ρ, n, F, k, (PO.bind h).imp fun ps n1 F1 H1 b1 s1 h1 vs rs => ?_⟩
  by_cases hz : ps.length ≤ sizeLine
  · rw [if_pos hz] at h1
    refine ⟨by rw [rs.length]; exact hz, fun p np => h1 _ _ (b1.newF np) (Stp.newF np b1.fh) (.ref p) ?_⟩
    have sb := (Stp.newF (g := g) (o := .tup vs) np b1.fh).ff
    exact .tup (SqT.of upd_same) (rs.mono sb)
  · rw [if_neg hz] at h1
    exact h1.elim
theorem dt_lstO {es : List Expr} {fs : MA} (h : PA X es (tDA g fs)) : PE X (.List es pos) (tD g RO (lstA fs)) := by
  refine pe_imp (pe_lst h) fun σ H Q ⟨ρ, n, F, k, h⟩ => ⟨ρ, n, F, k, (PO.bind h).imp fun ps n1 F1 H1 b1 s1 h1 vs rs => ?_⟩
  by_cases hz : ps.length ≤ sizeLine
  · rw [if_pos hz] at h1
    refine ⟨by rw [rs.length]; exact hz, fun p np => ?_⟩
    have h0 : H p = none := by
      cases q : H p with
      | none => rfl
      | some o =>
        by_cases od : g.odd p
        · obtain ⟨o', e'⟩ := b1.there od
          rw [np] at e'
          cases e'
        · rw [s1.hh p o q od] at np
          cases np
    have f1 : F1 p = none := by
      cases q : F1 p with
      | none => rfl
      | some o => rw [b1.fh p o q] at np; cases np
    exact h1 _ _ (b1.newH np) (Stp.newH np) (.ref p) ⟨p, rfl, h0, f1, vs, upd_same, rs⟩
  · rw [if_neg hz] at h1
    exact h1.elim
end

/-! ### operators -/
def RuleR (g : Gx) (R : Rel) (k : PV → PV → Option PV) (r : R2) : Prop :=
  ∀ (n : Nat) (F0 H0 F H : Hp) (p q s : PV) (v w : V) (Q : VK), Bd g n F H → Stp g F0 H0 F H → Pk g F H p v → Pk g F H q w → k p q = some s →
    (∀ u F' H', Bd g n F' H' → Stp g F H F' H' → R g F0 H0 F' H' s u → Q u H') → r v w H Q
def RuleU (g : Gx) (R : Rel) (k : PV → Option PV) (r : V → Hp → VK → Prop) : Prop :=
  ∀ (n : Nat) (F0 H0 F H : Hp) (p s : PV) (v : V) (Q : VK), Bd g n F H → Stp g F0 H0 F H → Pk g F H p v → k p = some s →
    (∀ u F' H', Bd g n F' H' → Stp g F H F' H' → R g F0 H0 F' H' s u → Q u H') → r v H Q
theorem PO.opt {g : Gx} {F H : Hp} {σ : L2.St} {o : Option PV} {n : Nat} {Q : PV → Nat → Hp → Hp → Prop} (h : PO g F H σ (DL.opt o n) Q) : ∃ s, o = some s ∧ ∀ F' H', Bd g n F' H' → Stp g F H F' H' → Q s n F' H' := by
  cases o with
  | none => exact h.elim
  | some s => exact ⟨s, rfl, h⟩
theorem tOp_of {g : Gx} {R : Rel} {r : R2} {k : PV → PV → Option PV} {fa fb : M} (rule : RuleR g R k r) {σ : L2.St} {H : Hp} {Q : VK} (h : tD g R (bin k fa fb) σ H Q) : tOp r (tD g RP fa) (tD g RP fb) σ H Q := by
  obtain ⟨ρ, n, F, kk, h⟩ := h
  refine ⟨ρ, n, F, kk, (PO.bind h).imp fun p n1 F1 H1 b1 s1 h1 v rv => ⟨ρ, n1, F1, kk.step b1 s1, (PO.bind h1).imp fun q n2 F2 H2 b2 s2 h2 w rw' => ?_⟩⟩
  obtain ⟨s, e, h3⟩ := PO.opt h2
  exact rule n2 F H F2 H2 p q s v w Q b2 (s1.trans b1 s2) (Pk.step s2 rv) rw' e fun u F' H' b' s' ru => h3 F' H' b' s' u ru
theorem tUn_of {g : Gx} {R : Rel} {r : V → Hp → VK → Prop} {k : PV → Option PV} {fa : M} (rule : RuleU g R k r) {σ : L2.St} {H : Hp} {Q : VK} (h : tD g R (una k fa) σ H Q) : tD g RP fa σ H fun x H1 => r x H1 Q := by
  obtain ⟨ρ, n, F, kk, h⟩ := h
  refine ⟨ρ, n, F, kk, (PO.bind h).imp fun p n1 F1 H1 b1 s1 h1 v rv => ?_⟩
  obtain ⟨s, e, h3⟩ := PO.opt h1
  exact rule n1 F H F1 H1 p s v Q b1 s1 rv e fun u F' H' b' s' ru => h3 F' H' b' s' u ru
section
variable {X : Cx} {g : Gx} {pos : Pos} {R : Rel} {a b : Expr} {fa fb : M}
theorem de_op {op : Operator} {r : R2} {k : PV → PV → Option PV} (ho : OpR X (binaryOp op) r) (rule : RuleR g R k r) (ha : PE X a (tD g RP fa)) (hb : PE X b (tD g RP fb)) : PE X (.BinOp a op b pos) (tD g R (bin k fa fb)) :=
  pe_imp (pe_op ho ha hb) fun _ _ _ => tOp_of rule
theorem de_un {op : UnaryOp} {r : V → Hp → VK → Prop} {k : PV → Option PV} (ho : UnR X (unaryOp op) r) (rule : RuleU g R k r) (ha : PE X a (tD g RP fa)) : PE X (.UnaryOp op a pos) (tD g R (una k fa)) :=
  pe_imp (pe_un ho ha) fun _ _ _ => tUn_of rule
theorem de_cmp {op : CmpOp} {r : R2} {k : PV → PV → Option PV} (ho : OpR X (compareOp op) r) (rule : RuleR g RF k r) (ha : PE X a (tD g RP fa)) (hb : PE X b (tD g RP fb)) (hm : behindInMarks op b = false) : PE X (.Compare a [op] [b] pos) (tD g RF (bin k fa fb)) :=
  pe_imp (pe_cmpR ho ha hb hm) fun _ _ _ => tOp_of rule
end
/-- a value tested -/
theorem tTest_of {g : Gx} {f : M} {t : TE} (w : ∀ σ H Q, tD g RF f σ H Q → t σ H Q) {σ : L2.St} {H : Hp} {Q : Bool → Hp → Prop} (h : tDB g (tst f) σ H Q) : tTest t σ H Q := by
  obtain ⟨ρ, n, F, kk, h⟩ := h
  refine w σ H _ ⟨ρ, n, F, kk, (PO.bind h).imp fun p n1 F1 H1 b1 s1 h1 v rv => ?_⟩
  cases p with
  | bool c =>
    cases rv
    exact ⟨c, rfl, h1 F1 H1 b1 Stp.refl⟩
  | _ => exact h1.elim
section
variable {X : Cx} {g : Gx} {pos : Pos} {R : Rel} {a b c : Expr} {fa fb fc : M} {ta tb : MB} {rest : List Expr}
theorem dt_cmp {op : CmpOp} {r : R2} {k : PV → PV → Option PV} (ho : OpR X (compareOp op) r) (rule : RuleR g RF k r) (ha : PE X a (tD g RP fa)) (hb : PE X b (tD g RP fb)) (hm : behindInMarks op b = false) : PT X (.Compare a [op] [b] pos) (tDB g (tst (bin k fa fb))) :=
  pt_imp (pt_cmpR ho ha hb hm) fun _ _ _ => tTest_of fun _ _ _ => tOp_of rule
/-- a < b < c -/
def chn (k k' : PV → PV → Option PV) (f h l : M) : M := fun ρ n => (f ρ n).bind fun p n1 => (h ρ n1).bind fun q n2 => (opt (k p q) n2).bind fun c n3 => match c with
  | .bool true => (l ρ n3).bind fun s n4 => opt (k' q s) n4
  | .bool false => .ok (.bool false) n3
  | _ => .stuck
theorem tChain_of {r r' : R2} {k k' : PV → PV → Option PV} (rule : RuleR g RF k r) (rule' : RuleR g RF k' r') {σ : L2.St} {H : Hp} {Q : VK} (h : tD g RF (chn k k' fa fb fc) σ H Q) : tChain r r' (tD g RP fa) (tD g RP fb) (tD g RP fc) σ H Q := by
  obtain ⟨ρ, n, F, kk, h⟩ := h
  refine ⟨ρ, n, F, kk, (PO.bind h).imp fun p n1 F1 H1 b1 s1 h1 v rv => ⟨ρ, n1, F1, kk.step b1 s1, (PO.bind h1).imp fun q n2 F2 H2 b2 s2 h2 w rw' => ?_⟩⟩
  obtain ⟨s, e, h3⟩ := PO.opt (PO.bind h2)
  refine rule n2 F H F2 H2 p q s v w _ b2 (s1.trans b1 s2) (Pk.step s2 rv) rw' e fun u F3 H3 b3 s3 ru => ?_
  have k3 := ((kk.step b1 s1).step b2 s2).step b3 s3
  have h4 := h3 F3 H3 b3 s3
  cases s with
  | bool d =>
    cases ru
    refine ⟨d, rfl, ?_⟩
    cases d with
    | true =>
      rw [if_pos rfl]
      refine ⟨ρ, n2, F3, k3, (PO.bind h4).imp fun t n5 F5 H5 b5 s5 h5 x rx => ?_⟩
      obtain ⟨s', e', h6⟩ := PO.opt h5
      exact rule' n5 F H F5 H5 q t s' w x Q b5 (((s1.trans b1 s2).trans b2 s3).trans b3 s5) (Pk.step s5 (Pk.step s3 rw')) rx e' fun u F' H' b' s' ru => h6 F' H' b' s' u ru
    | false =>
      rw [if_neg Bool.false_ne_true]
      exact h4 F3 H3 b3 Stp.refl _ (.bl false)
  | _ => exact h4.elim
theorem de_chain {op op' : CmpOp} {r r' : R2} {k k' : PV → PV → Option PV} (ho : OpR X (compareOp op) r) (ho' : OpR X (compareOp op') r') (rule : RuleR g RF k r) (rule' : RuleR g RF k' r') (ha : PE X a (tD g RP fa)) (hb : PE X b (tD g RP fb)) (hc : PE X c (tD g RP fc))
    (hm : lastMarks [op, op'] [b, c] = false := by with_unfolding_all rfl) : PE X (.Compare a [op, op'] [b, c] pos) (tD g RF (chn k k' fa fb fc)) := pe_imp (pe_chain ho ho' ha hb hc hm) fun _ _ _ => tChain_of rule rule'
theorem dt_chain {op op' : CmpOp} {r r' : R2} {k k' : PV → PV → Option PV} (ho : OpR X (compareOp op) r) (ho' : OpR X (compareOp op') r') (rule : RuleR g RF k r) (rule' : RuleR g RF k' r') (ha : PE X a (tD g RP fa)) (hb : PE X b (tD g RP fb)) (hc : PE X c (tD g RP fc))
    (hm : lastMarks [op, op'] [b, c] = false := by with_unfolding_all rfl) : PT X (.Compare a [op, op'] [b, c] pos) (tDB g (tst (chn k k' fa fb fc))) := pt_imp (pt_chain ho ho' ha hb hc hm) fun _ _ _ => tTest_of fun _ _ _ => tChain_of rule rule'
theorem dt_truth {e : Expr} {f : M} (h : PE X e (tD g RP f)) (hK : g.K = X.K) (he : ∀ whole, isTrue e X.env whole = (do let v ← whole; standAt e.pos; holding [v] (truthy v))) : PT X e (tDB g (tru f)) := by
  refine pt_imp (pt_truth h he) fun σ H Q ⟨ρ, n, F, kk, h⟩ => ⟨ρ, n, F, kk, (PO.bind h).imp fun p n1 F1 H1 b1 s1 h1 v rv => ?_⟩
  have fin : ∀ {b : Bool}, truV p = some b → Q b H1 := fun e => by
    rw [e] at h1
    exact h1 F1 H1 b1 Stp.refl
  cases Pk.rp b1 rv with
  | non => exact ⟨false, rfl, fin rfl⟩
  | bl b => exact ⟨b, rfl, fin rfl⟩
  | int i => exact ⟨_, rfl, fin rfl⟩
  | str x =>
    by_cases hz : x.length ≤ sizeLine
    · exact ⟨_, ⟨hz, rfl⟩, fin (if_pos hz)⟩
    · have : truV (.str x) = none := if_neg hz
      rw [this] at h1
      exact h1.elim
  | lst q rs =>
    rename_i a0 vs ds
    refine ⟨!vs.isEmpty, .inl ⟨vs, SqL.of (vw_sub _ _ q), rfl⟩, fin ?_⟩
    have := rs.length
    show some (!ds.isEmpty) = some (!vs.isEmpty)
    cases rs <;> rfl
  | tup q rs =>
    rename_i a0 vs ds
    refine ⟨!vs.isEmpty, .inr (.inl ⟨vs, by rw [← hK]; exact vw_sub.sqT q, rfl⟩), fin ?_⟩
    show some (!ds.isEmpty) = some (!vs.isEmpty)
    cases rs <;> rfl
  | dic q rs =>
    rename_i a0 kvs ds
    refine ⟨!kvs.isEmpty, .inr (.inr ⟨kvs, vw_sub _ _ q, rfl⟩), fin ?_⟩
    show some (!ds.isEmpty) = some (!kvs.isEmpty)
    cases rs <;> rfl
/-! ### and, or, not -/
theorem dw_and1 (ha : PT X a (tDB g ta)) : PW X (.BoolOp .And [a] pos) (tDB g ta) := pw_and1 ha
theorem dw_or1 (ha : PT X a (tDB g ta)) : PW X (.BoolOp .Or [a] pos) (tDB g ta) := pw_or1 ha
theorem dw_and (ha : PT X a (tDB g ta)) (hb : PW X (.BoolOp .And (b :: rest) pos) (tDB g tb)) : PW X (.BoolOp .And (a :: b :: rest) pos) (tDB g (andB ta tb)) := by
  refine pw_imp (pw_and ha hb) fun σ H Q ⟨ρ, n, F, kk, h⟩ => ⟨ρ, n, F, kk, (PO.bind h).imp fun c n1 F1 H1 b1 s1 h1 => ?_⟩
  cases c with
  | true =>
    rw [if_pos rfl] at h1 ⊢
    exact ⟨ρ, n1, F1, kk.step b1 s1, h1⟩
  | false =>
    rw [if_neg Bool.false_ne_true] at h1 ⊢
    exact h1 F1 H1 b1 Stp.refl
theorem dw_or (ha : PT X a (tDB g ta)) (hb : PW X (.BoolOp .Or (b :: rest) pos) (tDB g tb)) : PW X (.BoolOp .Or (a :: b :: rest) pos) (tDB g (orB ta tb)) := by
  refine pw_imp (pw_or ha hb) fun σ H Q ⟨ρ, n, F, kk, h⟩ => ⟨ρ, n, F, kk, (PO.bind h).imp fun c n1 F1 H1 b1 s1 h1 => ?_⟩
  cases c with
  | true =>
    rw [if_pos rfl] at h1 ⊢
    exact h1 F1 H1 b1 Stp.refl
  | false =>
    rw [if_neg Bool.false_ne_true] at h1 ⊢
    exact ⟨ρ, n1, F1, kk.step b1 s1, h1⟩
theorem dt_not (ha : PT X a (tDB g ta)) : PT X (.UnaryOp .Not a pos) (tDB g (notB ta)) :=
  pt_imp (pt_not ha) fun σ H Q ⟨ρ, n, F, kk, h⟩ => ⟨ρ, n, F, kk, (PO.bind h).imp fun c n1 F1 H1 b1 s1 h1 => h1 F1 H1 b1 Stp.refl⟩
theorem de_if {c : Expr} {tc : MB} (hc : PT X c (tDB g tc)) (ha : PE X a (tD g R fa)) (hb : PE X b (tD g R fb)) (hR : ∀ F H F1 H1 F' H' n1 p v, Bd g n1 F1 H1 → Stp g F H F1 H1 → R g F1 H1 F' H' p v → R g F H F' H' p v) : PE X (.IfExp c a b pos) (tD g R (iteM tc fa fb)) := by
  refine pe_imp (pe_ifExp hc ha hb) fun σ H Q ⟨ρ, n, F, kk, h⟩ => ⟨ρ, n, F, kk, (PO.bind h).imp fun d n1 F1 H1 b1 s1 h1 => ?_⟩
  cases d with
  | true =>
    rw [if_pos rfl] at h1 ⊢
    exact ⟨ρ, n1, F1, kk.step b1 s1, h1.imp fun p n2 F2 H2 b2 s2 h2 v r => h2 v (hR F H F1 H1 F2 H2 n1 p v b1 s1 r)⟩
  | false =>
    rw [if_neg Bool.false_ne_true] at h1 ⊢
    exact ⟨ρ, n1, F1, kk.step b1 s1, h1.imp fun p n2 F2 H2 b2 s2 h2 v r => h2 v (hR F H F1 H1 F2 H2 n1 p v b1 s1 r)⟩
theorem de_ifF {c : Expr} {tc : MB} (hc : PT X c (tDB g tc)) (ha : PE X a (tD g RF fa)) (hb : PE X b (tD g RF fb)) : PE X (.IfExp c a b pos) (tD g RF (iteM tc fa fb)) := de_if hc ha hb fun _ _ _ _ _ _ _ _ _ _ _ r => r
theorem de_one {op} (ha : PE X a (tD g R fa)) : PE X (.BoolOp op [a] pos) (tD g R fa) := pe_one ha
theorem de_and (ha : PE X a (tD g RF fa)) (hb : PE X (.BoolOp .And (b :: rest) pos) (tD g RF fb)) : PE X (.BoolOp .And (a :: b :: rest) pos) (tD g RF (andV fa fb)) := by
  refine pe_imp (pe_and ha hb) fun σ H Q ⟨ρ, n, F, kk, h⟩ => ⟨ρ, n, F, kk, (PO.bind h).imp fun p n1 F1 H1 b1 s1 h1 v r => ?_⟩
  cases p with
  | bool c =>
    cases r
    refine ⟨c, rfl, ?_⟩
    cases c with
    | true => exact ⟨ρ, n1, F1, kk.step b1 s1, h1⟩
    | false => exact h1 F1 H1 b1 Stp.refl _ (.bl false)
  | _ => exact h1.elim
theorem de_or (ha : PE X a (tD g RF fa)) (hb : PE X (.BoolOp .Or (b :: rest) pos) (tD g RF fb)) : PE X (.BoolOp .Or (a :: b :: rest) pos) (tD g RF (orV fa fb)) := by
  refine pe_imp (pe_or ha hb) fun σ H Q ⟨ρ, n, F, kk, h⟩ => ⟨ρ, n, F, kk, (PO.bind h).imp fun p n1 F1 H1 b1 s1 h1 v r => ?_⟩
  cases p with
  | bool c =>
    cases r
    refine ⟨c, rfl, ?_⟩
    cases c with
    | true => exact h1 F1 H1 b1 Stp.refl _ (.bl true)
    | false => exact ⟨ρ, n1, F1, kk.step b1 s1, h1⟩
  | _ => exact h1.elim
theorem de_not (ha : PE X a (tD g RF fa)) : PE X (.UnaryOp .Not a pos) (tD g RF (una notV fa)) := by
  refine pe_imp (pe_not ha) fun σ H Q ⟨ρ, n, F, kk, h⟩ => ⟨ρ, n, F, kk, (PO.bind h).imp fun p n1 F1 H1 b1 s1 h1 v r => ?_⟩
  cases p with
  | bool c =>
    cases r
    exact ⟨c, rfl, h1 F1 H1 b1 Stp.refl _ (.bl _)⟩
  | _ => exact h1.elim
end
end DL
set_option Elab.async false
set_option linter.all false
set_option maxRecDepth 100000
set_option maxHeartbeats 1000000
/-! DC: the D layer: what the operators do with pure values -/
namespace DL
open PySem PySem.Spec PyProof.Rows L2

theorem OpR.or {X : Cx} {f : Value → Value → Sem Value} {r r' : R2} (h : OpR X f r) (h' : OpR X f r') : OpR X f (fun x y H Q => r x y H Q ∨ r' x y H Q) := by
  intro pins s σ H x y v u Q I rx ry q
  rcases q with q | q
  · exact h pins s σ H x y v u Q I rx ry q
  · exact h' pins s σ H x y v u Q I rx ry q

def addV : PV → PV → Option PV
  | .int a, .int b => some (.int (a + b))
  | .str a, .str b => if a.length + b.length ≤ sizeLine then some (.str (a ++ b)) else none
  | .tuple a, .tuple b => if a.length + b.length ≤ sizeLine then some (.tuple (a ++ b)) else none
  | .list a, .list b => if a.length + b.length ≤ sizeLine then some (.list (a ++ b)) else none
  | _, _ => none
def addL : PV → PV → Option PV
  | .list a, .list b => if a.length + b.length ≤ sizeLine then some (.list (a ++ b)) else none
  | _, _ => none
def subV : PV → PV → Option PV
  | .int a, .int b => some (.int (a - b))
  | _, _ => none
def mulV : PV → PV → Option PV
  | .int a, .int b => if a.natAbs < 2 ^ 64 ∨ b.natAbs < 2 ^ 64 then some (.int (a * b)) else none
  | .str a, .int k => if k.natAbs ≤ 2 ^ 24 ∧ a.length * k.toNat ≤ sizeLine then some (.str ⟨(List.replicate k.toNat a.cps.toList).flatten.toArray⟩) else none
  | .tuple a, .int k => if k.natAbs ≤ 2 ^ 24 ∧ a.length * k.toNat ≤ sizeLine then some (.tuple (List.replicate k.toNat a).flatten) else none
  | .list a, .int k => if k.natAbs ≤ 2 ^ 24 ∧ a.length * k.toNat ≤ sizeLine then some (.list (List.replicate k.toNat a).flatten) else none
  | _, _ => none
def mulL : PV → PV → Option PV
  | .list a, .int k => if k.natAbs ≤ 2 ^ 24 ∧ a.length * k.toNat ≤ sizeLine then some (.list (List.replicate k.toNat a).flatten) else none
  | _, _ => none
def fdivV : PV → PV → Option PV
  | .int a, .int b => if b ≠ 0 ∧ b.natAbs < 1073741824 then some (.int (a.fdiv b)) else none
  | _, _ => none
def modV : PV → PV → Option PV
  | .int a, .int b => if b ≠ 0 then some (.int (a.fmod b)) else none
  | _, _ => none
def powV : PV → PV → Option PV
  | .int a, .int b => if 0 ≤ b ∧ b ≤ 1000000 ∧ a.natAbs < 2 ^ 64 then some (.int (a ^ b.toNat)) else none
  | _, _ => none
def negV : PV → Option PV
  | .int a => some (.int (-a))
  | _ => none
def eqV (p q : PV) : Option PV := if SeqAt.shaped p = true ∧ SeqAt.shaped q = true then some (.bool (PyData.eqv p q)) else none
def neV (p q : PV) : Option PV := if SeqAt.shaped p = true ∧ SeqAt.shaped q = true then some (.bool (!PyData.eqv p q)) else none
def ltV : PV → PV → Option PV
  | .int a, .int b => some (.bool (decide (a < b)))
  | _, _ => none
def leV : PV → PV → Option PV
  | .int a, .int b => some (.bool (decide (a ≤ b)))
  | _, _ => none
def gtV : PV → PV → Option PV
  | .int a, .int b => some (.bool (decide (b < a)))
  | _, _ => none
def geV : PV → PV → Option PV
  | .int a, .int b => some (.bool (decide (b ≤ a)))
  | _, _ => none
def isNone : PV → Bool
  | .none => true
  | _ => false
def isV : PV → PV → Option PV
  | p, .none => some (.bool (isNone p))
  | .bool a, .bool b => some (.bool (decide (a = b)))
  | _, _ => none
def isnV : PV → PV → Option PV
  | p, .none => some (.bool (!isNone p))
  | .bool a, .bool b => some (.bool (!decide (a = b)))
  | _, _ => none
def inV : PV → PV → Option PV
  | .str a, .str b => some (.bool (!(Builtin.Str.occurrences b a 0 b.length 1).isEmpty))
  | d, .list ds => if SeqAt.shaped d = true ∧ SeqAt.shaped (.list ds) = true then some (.bool (ds.any fun z => PyData.eqv z d)) else none
  | d, .tuple ds => if SeqAt.shaped d = true ∧ SeqAt.shaped (.tuple ds) = true then some (.bool (ds.any fun z => PyData.eqv z d)) else none
  | _, _ => none
def ninV (p q : PV) : Option PV := match inV p q with
  | some (.bool b) => some (.bool (!b))
  | _ => none

section
variable {X : Cx} {g : Gx}
theorem op_inDT (hu : X.A.units + 65 < cLine) : OpR X (compareOp .In) (fun x y H Q => ∃ d ds, Dp X.K H x d ∧ Dp X.K H y (.tuple ds) ∧ SeqAt.shaped d = true ∧ SeqAt.shaped (.tuple ds) = true ∧ Q (.bl (ds.any fun z => PyData.eqv z d)) H) := by
  intro pins s σ H x y v u Q I rx ry h
  obtain ⟨d, ds, hd, he, sd, se, q⟩ := h
  obtain ⟨as, r1⟩ := Dp.reads I d x v hd rx
  obtain ⟨bs, r2⟩ := Dp.reads I (.tuple ds) y u he ry
  exact SeqAt.in_tuple_reads r2 r1 (SeqAt.canLay_of_shaped se) (SeqAt.canLay_of_shaped sd) (room_in_shaped sd hu) ⟨.bl _, H, I, rfl, q⟩
theorem op_notInDT (hu : X.A.units + 65 < cLine) : OpR X (compareOp .NotIn) (fun x y H Q => ∃ d ds, Dp X.K H x d ∧ Dp X.K H y (.tuple ds) ∧ SeqAt.shaped d = true ∧ SeqAt.shaped (.tuple ds) = true ∧ Q (.bl (!ds.any fun z => PyData.eqv z d)) H) := by
  intro pins s σ H x y v u Q I rx ry h
  obtain ⟨d, ds, hd, he, sd, se, q⟩ := h
  obtain ⟨as, r1⟩ := Dp.reads I d x v hd rx
  obtain ⟨bs, r2⟩ := Dp.reads I (.tuple ds) y u he ry
  exact SeqAt.notIn_tuple_reads r2 r1 (SeqAt.canLay_of_shaped se) (SeqAt.canLay_of_shaped sd) (room_in_shaped sd hu) ⟨.bl _, H, I, rfl, q⟩
end
theorem tuple_mulSame (l : Addr) (items : Array Value) (n : Nat) (dd : Option Addr) (sl : Array (Option Value)) (x : Int) (u : Tok) (c0 : (decide (x < -(2 ^ 63)) || decide (x ≥ 2 ^ 63)) = false) (c1 : (items.isEmpty || x == 1) = true) :
    Meets (Builtin.«tuple.__mul__» ⟨[.ref l, .int x u], []⟩) (fun _ R s => s.heap.get? l = some { cls := .type "tuple", dict := dd, data := .seq items n, slots := sl } ∧ R (.ok (.ret (Value.ref l))) s) :=
  .of_wp fun prog w A R s h => by
    obtain ⟨hp, g, d, tk, os⟩ := s
    obtain ⟨hl, h⟩ := h
    have f1 := AutoSeq1.idx_int
    wp_walk using wpAny_loadPart' hl
    repeat (first
      | (refine wpAny_ite_false (decide_eq_false (by rw [c0]; exact Bool.false_ne_true)) ?_; wp_walk using wpAny_loadPart' hl)
      | (refine wpAny_ite_true (decide_eq_true c1) ?_; wp_walk using wpAny_loadPart' hl))
    exact ⟨_, rfl, h⟩
theorem tuple_mulNone (l : Addr) (items : Array Value) (n : Nat) (dd : Option Addr) (sl : Array (Option Value)) (x : Int) (u : Tok) (c0 : (decide (x < -(2 ^ 63)) || decide (x ≥ 2 ^ 63)) = false) (c1 : (items.isEmpty || x == 1) = false) (c2 : (decide (x ≤ 0) || items.isEmpty) = true) :
    Meets (Builtin.«tuple.__mul__» ⟨[.ref l, .int x u], []⟩) (fun _ R s => s.heap.get? l = some { cls := .type "tuple", dict := dd, data := .seq items n, slots := sl } ∧
      R (.ok (.ret (Value.ref s.heap.objs.size))) { s with heap := s.heap.push { cls := Value.type "tuple", data := Data.seq #[] }, toks := s.toks }) :=
  .of_wp fun prog w A R s h => by
    obtain ⟨hp, g, d, tk, os⟩ := s
    obtain ⟨hl, h⟩ := h
    have f1 := AutoSeq1.idx_int
    wp_walk using wpAny_loadPart' hl
    repeat (first
      | (refine wpAny_ite_false (decide_eq_false (by rw [c0]; exact Bool.false_ne_true)) ?_; wp_walk using wpAny_loadPart' hl)
      | (refine wpAny_ite_false (decide_eq_false (by rw [c1]; exact Bool.false_ne_true)) ?_; wp_walk using wpAny_loadPart' hl)
      | (refine wpAny_ite_true (decide_eq_true c2) ?_; wp_walk using wpAny_loadPart' hl))
    exact ⟨_, rfl, h⟩
def rRepA (K : PySem.W.Frag) : R2 := fun x y H Q => ∃ l k xs, x = .ref l ∧ y = .int k ∧ SqT K H l xs ∧ k.natAbs ≤ 2 ^ 24 ∧ xs.length * k.toNat ≤ sizeLine ∧ (xs = [] ∨ k = 1 → Q (.ref l) H) ∧ (¬ (xs = [] ∨ k = 1) → ∀ p, H p = none → Q (.ref p) (upd H p (.tup (List.replicate k.toNat xs).flatten)))
theorem op_repA {X : Cx} : OpR X (binaryOp .Mult) (rRepA X.K) := by
  intro pins s σ H x y v u Q I rx ry h
  obtain ⟨l, k, xs, rfl, rfl, hT, hk, hz, q1, q2⟩ := h
  cases rx
  obtain ⟨t, rfl⟩ := ry
  obtain ⟨its, r, ⟨⟨cls, dd, data, sl⟩, ho, hc, n, hd⟩, hs⟩ := I.tuple hT
  simp only at hc hd
  subst hc hd
  have hle : its.length = xs.length := r.length.symm
  have c0 : (decide (k < -(2 ^ 63)) || decide (k ≥ 2 ^ 63)) = false := by
    rw [decide_eq_false (by omega), decide_eq_false (by omega)] <;> rfl
  by_cases h1 : xs = [] ∨ k = 1
  · have c1 : (its.toArray.isEmpty || k == 1) = true := by
      rcases h1 with e | e
      · have : its = [] := List.eq_nil_of_length_eq_zero (by rw [hle, e]; rfl)
        subst this
        rfl
      · subst e
        simp
    refine wpAny_binaryOp_repeat_ref (T := "tuple") (U := "int") (by decide) ⟨_, ho, rfl⟩ (fun s' => typeIs_int s' k t) noFill_tuple_mul F.fills_int_mul F.slot_int_rmul repeat_tuple F.slot_int_index.lookup
      (call_meets F.slot_int_rmul (typeIs_int s k t) F.entry_int_rmul (F.args_int_rmul_2 _ _) (int_rmul_tuple k t l its.toArray n dd sl)
        ⟨ho, rfl, ⟨_, ho, rfl⟩, call_meets F.slot_tuple_mul ⟨_, ho, rfl⟩ F.entry_tuple_mul (F.args_tuple_mul_2 _ _) (tuple_mulSame l its.toArray n dd sl k t c0 c1) ⟨ho, ?_⟩⟩)
    exact ⟨.ref l, H, I, rfl, q1 h1⟩
  · have hx : xs ≠ [] := fun e => h1 (.inl e)
    have hn : its ≠ [] := fun e => hx (by
      rw [e] at hle
      exact List.eq_nil_of_length_eq_zero hle.symm)
    have hi : its.toArray.isEmpty = false := by
      cases its with
      | nil => exact absurd rfl hn
      | cons a b => rfl
    have c1 : (its.toArray.isEmpty || k == 1) = false := by
      rw [hi, Bool.false_or]
      exact beq_eq_false_iff_ne.mpr fun e => h1 (.inr e)
    by_cases hk0 : k ≤ 0
    · have c2 : (decide (k ≤ 0) || its.toArray.isEmpty) = true := by
        rw [decide_eq_true hk0, Bool.true_or]
      have ek : k.toNat = 0 := by omega
      refine wpAny_binaryOp_repeat_ref (T := "tuple") (U := "int") (by decide) ⟨_, ho, rfl⟩ (fun s' => typeIs_int s' k t) noFill_tuple_mul F.fills_int_mul F.slot_int_rmul repeat_tuple F.slot_int_index.lookup
        (call_meets F.slot_int_rmul (typeIs_int s k t) F.entry_int_rmul (F.args_int_rmul_2 _ _) (int_rmul_tuple k t l its.toArray n dd sl)
          ⟨ho, rfl, ⟨_, ho, rfl⟩, call_meets F.slot_tuple_mul ⟨_, ho, rfl⟩ F.entry_tuple_mul (F.args_tuple_mul_2 _ _) (tuple_mulNone l its.toArray n dd sl k t c0 c1 c2) ⟨ho, ?_⟩⟩)
      have q := q2 h1
      rw [ek] at q
      refine ⟨.ref s.heap.objs.size, _, I.laid (t' := s.toks) (o := .tup []) (fun b ob q => Heap.get?_push_of_some _ q) (Nat.le_refl _) ?_, rfl, q _ (I.hok.fresh (Nat.le_refl _))⟩
      exact ⟨Nat.zero_le _, [], .nil, IsTup.new _ _⟩
    · have c2 : (decide (k ≤ 0) || its.toArray.isEmpty) = false := by
        rw [hi, Bool.or_false]
        exact decide_eq_false hk0
      have hsz0 : its.toArray.size = xs.length := by rw [List.size_toArray, hle]
      have hm : ((its.toArray.size : Nat) : Int) * k ≤ 16777216 := by
        rw [hsz0]
        have ek : ((k.toNat : Nat) : Int) = k := Int.toNat_of_nonneg (by omega)
        rw [sizeLine_eq] at hz
        have hz' : ((xs.length * k.toNat : Nat) : Int) ≤ 16777216 := by omega
        rw [Int.natCast_mul, ek] at hz'
        exact hz'
      have flen : (List.replicate k.toNat its).flatten.length ≤ sizeLine := by
        rw [PyProof.Rows.lm_len_rep_flat, hle, Nat.mul_comm]
        exact hz
      have c4 : Builtin.Tuple.tupleTooMany (((its.toArray.size : Nat) : Int) * k) = false := by
        unfold Builtin.Tuple.tupleTooMany
        rw [sizeLine_eq]
        exact decide_eq_false (by omega)
      refine wpAny_binaryOp_repeat_ref (T := "tuple") (U := "int") (by decide) ⟨_, ho, rfl⟩ (fun s' => typeIs_int s' k t) noFill_tuple_mul F.fills_int_mul F.slot_int_rmul repeat_tuple F.slot_int_index.lookup
        (call_meets F.slot_int_rmul (typeIs_int s k t) F.entry_int_rmul (F.args_int_rmul_2 _ _) (int_rmul_tuple k t l its.toArray n dd sl)
          ⟨ho, rfl, ⟨_, ho, rfl⟩, call_meets F.slot_tuple_mul ⟨_, ho, rfl⟩ F.entry_tuple_mul (F.args_tuple_mul_2 _ _) (tuple_mulW l its.toArray n dd sl k t c0 c1 c2 (by omega) c4 (by rw [size_rep, List.size_toArray]; exact flen)) ⟨ho, ?_⟩⟩)
      rw [size_rep]
      refine ⟨.ref s.heap.objs.size, _, I.laid (t' := s.toks) (o := .tup (List.replicate k.toNat xs).flatten) (fun b ob q => Heap.get?_push_of_some _ q) (Nat.le_refl _) ?_, rfl, q2 h1 _ (I.hok.fresh (Nat.le_refl _))⟩
      exact ⟨by rw [PyProof.Rows.lm_len_rep_flat, Nat.mul_comm]; exact hz, _, r.rep k.toNat, IsTup.new _ _⟩
theorem foldl_repA {α : Type} (a : Array α) : ∀ (k : Nat) (acc : Array α), (List.replicate k a).foldl (· ++ ·) acc = (acc.toList ++ (List.replicate k a.toList).flatten).toArray
  | 0, acc => by simp
  | k + 1, acc => by
    rw [List.replicate_succ, List.foldl_cons, foldl_repA a k, List.replicate_succ, List.flatten_cons]
    simp
theorem op_repS {X : Cx} : OpR X (binaryOp .Mult) (fun x y H Q => ∃ a k, x = .str a ∧ y = .int k ∧ k.natAbs ≤ 2 ^ 24 ∧ a.length * k.toNat ≤ sizeLine ∧ Q (.str ⟨(List.replicate k.toNat a.cps.toList).flatten.toArray⟩) H) := by
  intro pins s σ H x y v u Q I rx ry h
  obtain ⟨a, k, rfl, rfl, hk, hz, q⟩ := h
  obtain ⟨t, rfl⟩ := rx
  obtain ⟨t', rfl⟩ := ry
  have c0 : (decide (k < -(2 ^ 63 : Int)) || decide (k ≥ 2 ^ 63)) = false := by
    rw [decide_eq_false (by omega), decide_eq_false (by omega)] <;> rfl
  have hs := sizeLine_eq
  refine PySem.P.mul_str c0 (fun h1 h2 => ?_) (fun h1 h2 => ?_) ?_
  · rw [Bool.or_eq_false_iff] at h2
    have h3 : k ≠ 1 := by simpa using h2.1
    have ek : ((k.toNat : Nat) : Int) = k := Int.toNat_of_nonneg (by omega)
    have hz' : ((a.length * k.toNat : Nat) : Int) ≤ 16777216 := by omega
    rw [Int.natCast_mul, ek] at hz'
    have : (a.length : Int) ≤ (2 ^ 63 - 1) / k := Int.le_ediv_of_mul_le (by omega) (by omega)
    omega
  · unfold Builtin.Str.tooLong
    exact decide_eq_false (by omega)
  · by_cases h1 : k < 1
    · rw [if_pos h1]
      have ek : k.toNat = 0 := by omega
      rw [ek] at q
      exact ⟨by decide, .str _, H, I.tok _, ⟨_, rfl⟩, q⟩
    · rw [if_neg h1]
      by_cases h2 : (k == 1 || a.length == 0) = true
      · rw [if_pos h2]
        refine ⟨.str a, H, I, ⟨_, rfl⟩, ?_⟩
        have : (⟨(List.replicate k.toNat a.cps.toList).flatten.toArray⟩ : Str) = a := by
          rcases Bool.or_eq_true_iff.mp h2 with h3 | h3
          · have ek : k.toNat = 1 := by
              have : k = 1 := by simpa using h3
              subst this
              rfl
            rw [ek]
            simp
          · have e : a.cps = #[] := by
              have : a.cps.size = 0 := by simpa [Str.length] using h3
              exact Array.eq_empty_of_size_eq_zero this
            obtain ⟨c⟩ := a
            simp only at e
            subst e
            simp
        rw [this] at q
        exact q
      · rw [if_neg h2]
        refine ⟨?_, .str _, H, I.tok _, ⟨_, rfl⟩, ?_⟩
        · rw [foldl_repA]
          show ((#[] : Array Nat).toList ++ _).toArray.size ≤ sizeLine
          rw [List.size_toArray, List.length_append, List.length_nil, Nat.zero_add, PyProof.Rows.lm_len_rep_flat, Nat.mul_comm]
          have : a.cps.toList.length = a.length := by simp [Str.length]
          rw [this]
          exact hz
        · have : (⟨(List.replicate k.toNat a.cps).foldl (· ++ ·) #[]⟩ : Str) = ⟨(List.replicate k.toNat a.cps.toList).flatten.toArray⟩ := by
            rw [foldl_repA]
            simp
          rw [this]
          exact q
end DL
set_option Elab.async false
set_option linter.all false
set_option maxRecDepth 100000
set_option maxHeartbeats 1000000
/-! DD: the D layer: the operators' rules -/
namespace DL
open PySem PySem.Spec PyProof.Rows L2

section
variable {g : Gx} {n : Nat} {F0 H0 F H : Hp} {p q s : PV} {v w : V} {Q : VK}
theorem h0_of (b : Bd g n F H) (st : Stp g F0 H0 F H) {a : Addr} (na : H a = none) : H0 a = none ∧ F a = none := by
  constructor
  · cases q : H0 a with
    | none => rfl
    | some o =>
      by_cases od : g.odd a
      · obtain ⟨o', e'⟩ := b.there od
        rw [na] at e'
        cases e'
      · rw [st.hh a o q od] at na
        cases na
  · cases q : F a with
    | none => rfl
    | some o =>
      rw [b.fh a o q] at na
      cases na
abbrev FinF (g : Gx) (n : Nat) (F H : Hp) (s : PV) (Q : VK) : Prop := ∀ u F' H', Bd g n F' H' → Stp g F H F' H' → Rp g.K F' s u → Q u H'
/-- a value without objects -/
theorem fin0 {u : V} (b : Bd g n F H) (h : FinF g n F H s Q) (r : Rp g.K F s u) : Q u H := h u F H b Stp.refl r
/-- a new tuple -/
theorem finT {ds : List PV} {vs : List V} (b : Bd g n F H) (h : FinF g n F H (.tuple ds) Q) (r : Rps g.K F ds vs) {a : Addr} (na : H a = none) : Q (.ref a) (upd H a (.tup vs)) :=
  h _ _ _ (b.newF na) (Stp.newF na b.fh) (.tup (SqT.of upd_same) (r.mono (Stp.newF (g := g) na b.fh).ff))
/-- a new list, frozen -/
theorem finL {ds : List PV} {vs : List V} (b : Bd g n F H) (h : FinF g n F H (.list ds) Q) (r : Rps g.K F ds vs) {a : Addr} (na : H a = none) : Q (.ref a) (upd H a (.lst vs)) :=
  h _ _ _ (b.newF na) (Stp.newF na b.fh) (.lst upd_same (r.mono (Stp.newF (g := g) na b.fh).ff))
theorem finD {ds : List (PV × PV)} {vs : List (Key × V)} (b : Bd g n F H) (h : FinF g n F H (.dict ds) Q) (r : Rkv g.K F ds vs) {a : Addr} (na : H a = none) : Q (.ref a) (upd H a (.dK vs)) :=
  h _ _ _ (b.newF na) (Stp.newF na b.fh) (.dic upd_same (r.mono (Stp.newF (g := g) na b.fh).ff))
/-- a new list of one's own -/
theorem finO {ds : List PV} {vs : List V} (b : Bd g n F H) (st : Stp g F0 H0 F H) (h : ∀ u F' H', Bd g n F' H' → Stp g F H F' H' → RO g F0 H0 F' H' (.list ds) u → Q u H') (r : Rps g.K F ds vs) {a : Addr} (na : H a = none) : Q (.ref a) (upd H a (.lst vs)) :=
  h _ _ _ (b.newH na) (Stp.newH na) ⟨a, rfl, (h0_of b st na).1, (h0_of b st na).2, vs, upd_same, r⟩
end

abbrev rAddV (K : PySem.W.Frag) : R2 := fun x y H Q => (((rI0 fun i j => .int (i + j)) x y H Q ∨ (∃ i j, x = .str i ∧ y = .str j ∧ i.length + j.length ≤ sizeLine ∧ Q (.str (i ++ j)) H)) ∨ rCatA K x y H Q) ∨ rCat x y H Q
theorem op_addV {X : Cx} : OpR X (binaryOp .Add) (rAddV X.K) := OpR.or (OpR.or (OpR.or op_add op_add_str) op_catA) op_cat
section
variable {g : Gx} {X : Cx}
theorem rule_addL : RuleR g RO addL rCat := by
  intro n F0 H0 F H p q s v w Q b st rp rq e h
  cases p <;> cases q <;> try (simp only [addL, reduceCtorEq] at e; done)
  rename_i xs ys
  by_cases hz : xs.length + ys.length ≤ sizeLine
  · simp only [addL, if_pos hz, Option.some.injEq] at e
    subst e
    obtain ⟨a, vs, rfl, ha, ra⟩ := Pk.list b rp
    obtain ⟨c, us, rfl, hc, rc⟩ := Pk.list b rq
    exact ⟨a, c, vs, us, rfl, rfl, ha, hc, by rw [ra.length, rc.length]; exact hz, fun p np => finO b st h (ra.append rc) np⟩
  · simp [addL, if_neg hz] at e
theorem rule_addV : RuleR g RF addV (rAddV g.K) := by
  intro n F0 H0 F H p q s v w Q b st rp rq e h
  cases p <;> cases q <;> try (simp only [addV, reduceCtorEq] at e; done)
  · simp only [addV, Option.some.injEq] at e
    subst e
    cases Pk.int rp
    cases Pk.int rq
    exact .inl (.inl (.inl ⟨_, _, rfl, rfl, fin0 b h (.int _)⟩))
  · rename_i x y
    by_cases hz : x.length + y.length ≤ sizeLine
    · simp only [addV, if_pos hz, Option.some.injEq] at e
      subst e
      cases Pk.str rp
      cases Pk.str rq
      exact .inl (.inl (.inr ⟨_, _, rfl, rfl, hz, fin0 b h (.str _)⟩))
    · simp [addV, if_neg hz] at e
  · rename_i xs ys
    by_cases hz : xs.length + ys.length ≤ sizeLine
    · simp only [addV, if_pos hz, Option.some.injEq] at e
      subst e
      obtain ⟨a, vs, rfl, ha, ra⟩ := Pk.list b rp
      obtain ⟨c, us, rfl, hc, rc⟩ := Pk.list b rq
      exact .inr ⟨a, c, vs, us, rfl, rfl, ha, hc, by rw [ra.length, rc.length]; exact hz, fun p np => finL b h (ra.append rc) np⟩
    · simp [addV, if_neg hz] at e
  · rename_i xs ys
    by_cases hz : xs.length + ys.length ≤ sizeLine
    · simp only [addV, if_pos hz, Option.some.injEq] at e
      subst e
      obtain ⟨a, vs, rfl, ha, ra⟩ := Pk.tup rp
      obtain ⟨c, us, rfl, hc, rc⟩ := Pk.tup rq
      have sb := b.fh
      refine .inl (.inr ⟨a, c, vs, us, rfl, rfl, Sub.sqT sb ha, Sub.sqT sb hc, by rw [ra.length, rc.length]; exact hz, fun e1 => ?_, fun e1 e2 => ?_, fun e1 e2 p np => finT b h (ra.append rc) np⟩)
      · subst e1
        cases ra
        exact fin0 b h (.tup hc rc)
      · subst e2
        cases rc
        rw [List.append_nil] at h
        exact fin0 b h (.tup ha ra)
    · simp [addV, if_neg hz] at e
theorem op_subV : OpR X (binaryOp .Sub) (rI0 fun i j => .int (i - j)) := op_sub
theorem rule_int0 {k : PV → PV → Option PV} {f : Int → Int → PV} {f' : Int → Int → V} (hk : ∀ p q s, k p q = some s → ∃ i j, p = .int i ∧ q = .int j ∧ s = f i j) (hr : ∀ i j K F, Rp K F (f i j) (f' i j)) : RuleR g RF k (rI0 f') := by
  intro n F0 H0 F H p q s v w Q b st rp rq e h
  obtain ⟨i, j, rfl, rfl, rfl⟩ := hk p q s e
  cases Pk.int rp
  cases Pk.int rq
  exact ⟨i, j, rfl, rfl, fin0 b h (hr _ _ _ _)⟩
theorem rule_intC {k : PV → PV → Option PV} {C : Int → Int → Prop} {f : Int → Int → PV} {f' : Int → Int → V} (hk : ∀ p q s, k p q = some s → ∃ i j, p = .int i ∧ q = .int j ∧ s = f i j ∧ C i j) (hr : ∀ i j K F, Rp K F (f i j) (f' i j)) : RuleR g RF k (rI C f') := by
  intro n F0 H0 F H p q s v w Q b st rp rq e h
  obtain ⟨i, j, rfl, rfl, rfl, c⟩ := hk p q s e
  cases Pk.int rp
  cases Pk.int rq
  exact ⟨i, j, rfl, rfl, c, fin0 b h (hr _ _ _ _)⟩
theorem rule_sub : RuleR g RF subV (rI0 fun i j => .int (i - j)) := rule_int0 (f := fun i j => .int (i - j)) (fun p q s e => by
  cases p <;> cases q <;> try (simp only [subV, reduceCtorEq] at e; done)
  exact ⟨_, _, rfl, rfl, (Option.some.inj e).symm⟩) fun _ _ _ _ => .int _
theorem rule_fdiv : RuleR g RF fdivV (rI CDivN fun i j => .int (i.fdiv j)) := rule_intC (f := fun i j => .int (i.fdiv j)) (fun p q s e => by
  cases p <;> cases q <;> try (simp only [fdivV, reduceCtorEq] at e; done)
  rename_i i j
  by_cases c : j ≠ 0 ∧ j.natAbs < 1073741824
  · simp only [fdivV, if_pos c, Option.some.injEq] at e
    exact ⟨i, j, rfl, rfl, e.symm, c⟩
  · simp only [fdivV, if_neg c] at e
    cases e) fun _ _ _ _ => .int _
theorem rule_mod : RuleR g RF modV (rI (fun _ j => j ≠ 0) fun i j => .int (i.fmod j)) := rule_intC (f := fun i j => .int (i.fmod j)) (fun p q s e => by
  cases p <;> cases q <;> try (simp only [modV, reduceCtorEq] at e; done)
  rename_i i j
  by_cases c : j ≠ 0
  · simp only [modV, if_pos c, Option.some.injEq] at e
    exact ⟨i, j, rfl, rfl, e.symm, c⟩
  · simp only [modV, if_neg c] at e
    cases e) fun _ _ _ _ => .int _
theorem rule_pow : RuleR g RF powV (rI CPow fun i j => .int (i ^ j.toNat)) := rule_intC (f := fun i j => .int (i ^ j.toNat)) (fun p q s e => by
  cases p <;> cases q <;> try (simp only [powV, reduceCtorEq] at e; done)
  rename_i i j
  by_cases c : 0 ≤ j ∧ j ≤ 1000000 ∧ i.natAbs < 2 ^ 64
  · simp only [powV, if_pos c, Option.some.injEq] at e
    exact ⟨i, j, rfl, rfl, e.symm, c⟩
  · simp only [powV, if_neg c] at e
    cases e) fun _ _ _ _ => .int _
theorem rule_neg : RuleU g RF negV (rU fun i => .int (-i)) := by
  intro n F0 H0 F H p s v Q b st rp e h
  cases p <;> try (simp only [negV, reduceCtorEq] at e; done)
  cases Pk.int rp
  cases e
  exact ⟨_, rfl, fin0 b h (.int _)⟩
abbrev rMulV (K : PySem.W.Frag) : R2 := fun x y H Q => (((rI CMul fun i j => .int (i * j)) x y H Q ∨ (∃ a k, x = .str a ∧ y = .int k ∧ k.natAbs ≤ 2 ^ 24 ∧ a.length * k.toNat ≤ sizeLine ∧ Q (.str ⟨(List.replicate k.toNat a.cps.toList).flatten.toArray⟩) H)) ∨ rRepA K x y H Q) ∨ rRep x y H Q
theorem op_mulV : OpR X (binaryOp .Mult) (rMulV X.K) := OpR.or (OpR.or (OpR.or op_mul op_repS) op_repA) op_rep
theorem rule_mulL : RuleR g RO mulL rRep := by
  intro n F0 H0 F H p q s v w Q b st rp rq e h
  cases p <;> cases q <;> try (simp only [mulL, reduceCtorEq] at e; done)
  rename_i xs k
  by_cases hz : k.natAbs ≤ 2 ^ 24 ∧ xs.length * k.toNat ≤ sizeLine
  · simp only [mulL, if_pos hz, Option.some.injEq] at e
    subst e
    obtain ⟨a, vs, rfl, ha, ra⟩ := Pk.list b rp
    cases Pk.int rq
    exact ⟨a, k, vs, rfl, rfl, ha, by omega, by omega, by rw [ra.length]; exact hz.2, fun p np => finO b st h (ra.rep _) np⟩
  · simp only [mulL, if_neg hz] at e
    cases e
theorem rule_mul : RuleR g RF mulV (rMulV g.K) := by
  intro n F0 H0 F H p q s v w Q b st rp rq e h
  cases p <;> cases q <;> try (simp only [mulV, reduceCtorEq] at e; done)
  · rename_i x y
    by_cases hz : x.natAbs < 2 ^ 64 ∨ y.natAbs < 2 ^ 64
    · simp only [mulV, if_pos hz, Option.some.injEq] at e
      subst e
      cases Pk.int rp
      cases Pk.int rq
      exact .inl (.inl (.inl ⟨_, _, rfl, rfl, by unfold CMul; omega, fin0 b h (.int _)⟩))
    · simp only [mulV, if_neg hz] at e
      cases e
  · rename_i x k
    by_cases hz : k.natAbs ≤ 2 ^ 24 ∧ x.length * k.toNat ≤ sizeLine
    · simp only [mulV, if_pos hz, Option.some.injEq] at e
      subst e
      cases Pk.str rp
      cases Pk.int rq
      exact .inl (.inl (.inr ⟨_, _, rfl, rfl, hz.1, hz.2, fin0 b h (.str _)⟩))
    · simp only [mulV, if_neg hz] at e
      cases e
  · rename_i xs k
    by_cases hz : k.natAbs ≤ 2 ^ 24 ∧ xs.length * k.toNat ≤ sizeLine
    · simp only [mulV, if_pos hz, Option.some.injEq] at e
      subst e
      obtain ⟨a, vs, rfl, ha, ra⟩ := Pk.list b rp
      cases Pk.int rq
      exact .inr ⟨a, k, vs, rfl, rfl, ha, by omega, by omega, by rw [ra.length]; exact hz.2, fun p np => finL b h (ra.rep _) np⟩
    · simp only [mulV, if_neg hz] at e
      cases e
  · rename_i xs k
    by_cases hz : k.natAbs ≤ 2 ^ 24 ∧ xs.length * k.toNat ≤ sizeLine
    · simp only [mulV, if_pos hz, Option.some.injEq] at e
      subst e
      obtain ⟨a, vs, rfl, ha, ra⟩ := Pk.tup rp
      cases Pk.int rq
      refine .inl (.inr ⟨a, k, vs, rfl, rfl, Sub.sqT b.fh ha, hz.1, by rw [ra.length]; exact hz.2, fun e1 => ?_, fun e1 p np => finT b h (ra.rep _) np⟩)
      have er : (List.replicate k.toNat xs).flatten = xs := by
        rcases e1 with e1 | e1
        · subst e1
          cases ra
          simp
        · subst e1
          simp
      rw [er] at h
      exact fin0 b h (.tup ha ra)
    · simp only [mulV, if_neg hz] at e
      cases e
theorem rule_eq : RuleR g RF eqV (rEqD g.K) := by
  intro n F0 H0 F H p q s v w Q b st rp rq e h
  by_cases c : SeqAt.shaped p = true ∧ SeqAt.shaped q = true
  · simp only [eqV, if_pos c, Option.some.injEq] at e
    subst e
    exact ⟨p, q, ((rp.rp b).mono vw_sub).dp (SeqAt.canLay_of_shaped c.1), ((rq.rp b).mono vw_sub).dp (SeqAt.canLay_of_shaped c.2), c.1, c.2, fin0 b h (.bl _)⟩
  · simp only [eqV, if_neg c] at e
    cases e
theorem rule_ne : RuleR g RF neV (rNeD g.K) := by
  intro n F0 H0 F H p q s v w Q b st rp rq e h
  by_cases c : SeqAt.shaped p = true ∧ SeqAt.shaped q = true
  · simp only [neV, if_pos c, Option.some.injEq] at e
    subst e
    exact ⟨p, q, ((rp.rp b).mono vw_sub).dp (SeqAt.canLay_of_shaped c.1), ((rq.rp b).mono vw_sub).dp (SeqAt.canLay_of_shaped c.2), c.1, c.2, fin0 b h (.bl _)⟩
  · simp only [neV, if_neg c] at e
    cases e
theorem rule_lt : RuleR g RF ltV (rI0 fun i j => .bl (decide (i < j))) := rule_int0 (f := fun i j => .bool (decide (i < j))) (fun p q s e => by
  cases p <;> cases q <;> try (simp only [ltV, reduceCtorEq] at e; done)
  exact ⟨_, _, rfl, rfl, (Option.some.inj e).symm⟩) fun _ _ _ _ => .bl _
theorem rule_le : RuleR g RF leV (rI0 fun i j => .bl (decide (i ≤ j))) := rule_int0 (f := fun i j => .bool (decide (i ≤ j))) (fun p q s e => by
  cases p <;> cases q <;> try (simp only [leV, reduceCtorEq] at e; done)
  exact ⟨_, _, rfl, rfl, (Option.some.inj e).symm⟩) fun _ _ _ _ => .bl _
theorem rule_gt : RuleR g RF gtV (rI0 fun i j => .bl (decide (j < i))) := rule_int0 (f := fun i j => .bool (decide (j < i))) (fun p q s e => by
  cases p <;> cases q <;> try (simp only [gtV, reduceCtorEq] at e; done)
  exact ⟨_, _, rfl, rfl, (Option.some.inj e).symm⟩) fun _ _ _ _ => .bl _
theorem rule_ge : RuleR g RF geV (rI0 fun i j => .bl (decide (j ≤ i))) := rule_int0 (f := fun i j => .bool (decide (j ≤ i))) (fun p q s e => by
  cases p <;> cases q <;> try (simp only [geV, reduceCtorEq] at e; done)
  exact ⟨_, _, rfl, rfl, (Option.some.inj e).symm⟩) fun _ _ _ _ => .bl _
theorem Pk.isNon {F H : Hp} {p : PV} {v : V} (h : Pk g F H p v) : decide (v = .non) = isNone p := by
  rcases h with h | ⟨a, rfl, h1, h2⟩
  · cases h <;> simp [isNone]
  · cases p <;> first | exact h2.elim | simp [isNone]
abbrev rIsV : R2 := fun x y H Q => (y = .non ∧ Q (.bl (decide (x = .non))) H) ∨ rIsB x y H Q
theorem op_isV : OpR X (compareOp .Is) rIsV := OpR.or op_isN op_isBl
theorem rule_is : RuleR g RF isV rIsV := by
  intro n F0 H0 F H p q s v w Q b st rp rq e h
  cases q with
  | none =>
    have e' : some (PyData.bool (isNone p)) = some s := by cases p <;> exact e
    cases e'
    refine .inl ⟨Pk.non rq, ?_⟩
    rw [rp.isNon]
    exact fin0 b h (.bl _)
  | bool c =>
    cases p <;> try (simp only [isV, reduceCtorEq] at e; done)
    cases e
    exact .inr ⟨_, _, Pk.bl rp, Pk.bl rq, fin0 b h (.bl _)⟩
  | _ => cases p <;> exact absurd e (by simp [isV])
abbrev rIsnV : R2 := fun x y H Q => (y = .non ∧ Q (.bl (!decide (x = .non))) H) ∨ rNotB x y H Q
theorem op_isnV : OpR X (compareOp .IsNot) rIsnV := OpR.or op_notN op_notBl
theorem rule_isn : RuleR g RF isnV rIsnV := by
  intro n F0 H0 F H p q s v w Q b st rp rq e h
  cases q with
  | none =>
    have e' : some (PyData.bool (!isNone p)) = some s := by cases p <;> exact e
    cases e'
    refine .inl ⟨Pk.non rq, ?_⟩
    rw [rp.isNon]
    exact fin0 b h (.bl _)
  | bool c =>
    cases p <;> try (simp only [isnV, reduceCtorEq] at e; done)
    cases e
    exact .inr ⟨_, _, Pk.bl rp, Pk.bl rq, fin0 b h (.bl _)⟩
  | _ => cases p <;> exact absurd e (by simp [isnV])
abbrev rInV (K : PySem.W.Frag) : R2 := fun x y H Q => ((∃ i j, x = .str i ∧ y = .str j ∧ Q (.bl (!(Builtin.Str.occurrences j i 0 j.length 1).isEmpty)) H) ∨ rInD K x y H Q) ∨
  (∃ d ds, Dp K H x d ∧ Dp K H y (.tuple ds) ∧ SeqAt.shaped d = true ∧ SeqAt.shaped (.tuple ds) = true ∧ Q (.bl (ds.any fun z => PyData.eqv z d)) H)
theorem op_inV (hu : X.A.units + 65 < cLine) : OpR X (compareOp .In) (rInV X.K) := OpR.or (OpR.or op_in_str (op_inD hu)) (op_inDT hu)
theorem inV_list {d : PV} {ds : List PV} : inV d (.list ds) = if SeqAt.shaped d = true ∧ SeqAt.shaped (.list ds) = true then some (.bool (ds.any fun z => PyData.eqv z d)) else none := by
  cases d <;> rfl
theorem inV_tup {d : PV} {ds : List PV} : inV d (.tuple ds) = if SeqAt.shaped d = true ∧ SeqAt.shaped (.tuple ds) = true then some (.bool (ds.any fun z => PyData.eqv z d)) else none := by
  cases d <;> rfl
theorem rule_in : RuleR g RF inV (rInV g.K) := by
  intro n F0 H0 F H p q s v w Q b st rp rq e h
  cases q with
  | str y =>
    cases p <;> try (simp only [inV, reduceCtorEq] at e; done)
    cases e
    exact .inl (.inl ⟨_, _, Pk.str rp, Pk.str rq, fin0 b h (.bl _)⟩)
  | list ds =>
    rw [inV_list] at e
    by_cases c : SeqAt.shaped p = true ∧ SeqAt.shaped (.list ds) = true
    · rw [if_pos c] at e
      cases e
      exact .inl (.inr ⟨p, ds, ((rp.rp b).mono vw_sub).dp (SeqAt.canLay_of_shaped c.1), ((rq.rp b).mono vw_sub).dp (SeqAt.canLay_of_shaped c.2), c.1, c.2, fin0 b h (.bl _)⟩)
    · rw [if_neg c] at e
      cases e
  | tuple ds =>
    rw [inV_tup] at e
    by_cases c : SeqAt.shaped p = true ∧ SeqAt.shaped (.tuple ds) = true
    · rw [if_pos c] at e
      cases e
      exact .inr ⟨p, ds, ((rp.rp b).mono vw_sub).dp (SeqAt.canLay_of_shaped c.1), ((rq.rp b).mono vw_sub).dp (SeqAt.canLay_of_shaped c.2), c.1, c.2, fin0 b h (.bl _)⟩
    · rw [if_neg c] at e
      cases e
  | _ => cases p <;> exact absurd e (by simp [inV])
abbrev rNinV (K : PySem.W.Frag) : R2 := fun x y H Q => ((∃ i j, x = .str i ∧ y = .str j ∧ Q (.bl (!(!(Builtin.Str.occurrences j i 0 j.length 1).isEmpty))) H) ∨ rNotInD K x y H Q) ∨
  (∃ d ds, Dp K H x d ∧ Dp K H y (.tuple ds) ∧ SeqAt.shaped d = true ∧ SeqAt.shaped (.tuple ds) = true ∧ Q (.bl (!ds.any fun z => PyData.eqv z d)) H)
theorem op_ninV (hu : X.A.units + 65 < cLine) : OpR X (compareOp .NotIn) (rNinV X.K) := OpR.or (OpR.or op_notin_str (op_notInD hu)) (op_notInDT hu)
theorem rule_nin : RuleR g RF ninV (rNinV g.K) := by
  intro n F0 H0 F H p q s v w Q b st rp rq e h
  cases q with
  | str y =>
    cases p <;> try (simp only [ninV, inV, reduceCtorEq] at e; done)
    cases e
    exact .inl (.inl ⟨_, _, Pk.str rp, Pk.str rq, fin0 b h (.bl _)⟩)
  | list ds =>
    unfold ninV at e
    rw [inV_list] at e
    by_cases c : SeqAt.shaped p = true ∧ SeqAt.shaped (.list ds) = true
    · rw [if_pos c] at e
      cases e
      exact .inl (.inr ⟨p, ds, ((rp.rp b).mono vw_sub).dp (SeqAt.canLay_of_shaped c.1), ((rq.rp b).mono vw_sub).dp (SeqAt.canLay_of_shaped c.2), c.1, c.2, fin0 b h (.bl _)⟩)
    · rw [if_neg c] at e
      cases e
  | tuple ds =>
    unfold ninV at e
    rw [inV_tup] at e
    by_cases c : SeqAt.shaped p = true ∧ SeqAt.shaped (.tuple ds) = true
    · rw [if_pos c] at e
      cases e
      exact .inr ⟨p, ds, ((rp.rp b).mono vw_sub).dp (SeqAt.canLay_of_shaped c.1), ((rq.rp b).mono vw_sub).dp (SeqAt.canLay_of_shaped c.2), c.1, c.2, fin0 b h (.bl _)⟩
    · rw [if_neg c] at e
      cases e
  | _ => cases p <;> exact absurd e (by simp [ninV, inV])
end
end DL
set_option Elab.async false
set_option linter.all false
set_option maxRecDepth 100000
set_option maxHeartbeats 1000000
/-! DE: the D layer: statements -/
namespace DL
open PySem PySem.Spec PyProof.Rows L2

def ofE {α : Type} (o : Out α) (ρ : DEnv) (f : α → Nat → SOut) : SOut := match o with
  | .ok a n => f a n
  | .exc x n => .exc x ρ n
  | .stuck => .stuck
@[simp] theorem ofE_ok {α : Type} (a : α) (n : Nat) (ρ : DEnv) (f : α → Nat → SOut) : ofE (Out.ok a n) ρ f = f a n := rfl
@[simp] theorem ofE_exc {α : Type} (x : Xn) (n : Nat) (ρ : DEnv) (f : α → Nat → SOut) : ofE (Out.exc x n) ρ f = .exc x ρ n := rfl
@[simp] theorem ofE_stuck {α : Type} (ρ : DEnv) (f : α → Nat → SOut) : ofE (Out.stuck) ρ f = .stuck := rfl
def SOut.then (o : SOut) (h : MS) : SOut := match o with
  | .next ρ n => h ρ n
  | o => o
@[simp] theorem then_next (ρ : DEnv) (n : Nat) (h : MS) : (SOut.next ρ n).then h = h ρ n := rfl
@[simp] theorem then_ret (p : PV) (n : Nat) (h : MS) : (SOut.ret p n).then h = .ret p n := rfl
@[simp] theorem then_brk (ρ : DEnv) (n : Nat) (h : MS) : (SOut.brk ρ n).then h = .brk ρ n := rfl
@[simp] theorem then_cont (ρ : DEnv) (n : Nat) (h : MS) : (SOut.cont ρ n).then h = .cont ρ n := rfl
@[simp] theorem then_exc (x : Xn) (ρ : DEnv) (n : Nat) (h : MS) : (SOut.exc x ρ n).then h = .exc x ρ n := rfl
@[simp] theorem then_stuck (h : MS) : SOut.stuck.then h = .stuck := rfl
def skip : MS := fun ρ n => .next ρ n
def seqS (f h : MS) : MS := fun ρ n => (f ρ n).then h
def setS (i : Nat) (f : M) : MS := fun ρ n => ofE (f ρ n) ρ fun p n1 => .next (ρ.set i (some (.sh p))) n1
def ownS (i : Nat) (f : M) : MS := fun ρ n => ofE (f ρ n) ρ fun p n1 => .next (ρ.set i (some (.ow p))) n1
def setAll : List Nat → List PV → DEnv → DEnv
  | i :: is, p :: ps, ρ => setAll is ps (ρ.set i (some (.sh p)))
  | _, _, ρ => ρ
def unpS (is : List Nat) (f : M) : MS := fun ρ n => ofE (f ρ n) ρ fun p n1 => match p with
  | .tuple ps => if ps.length = is.length then .next (setAll is ps ρ) n1 else .stuck
  | _ => .stuck
def parS (is : List Nat) (f : MA) : MS := fun ρ n => ofE (f ρ n) ρ fun ps n1 => if ps.length = is.length then .next (setAll is ps ρ) n1 else .stuck
def augS (k : PV → PV → Option PV) (i : Nat) (f : M) : MS := fun ρ n => match ρ[i]? with
  | some (some (.sh p)) => ofE (f ρ n) ρ fun q n1 => ofE (opt (k p q) n1) ρ fun s n2 => .next (ρ.set i (some (.sh s))) n2
  | _ => .stuck
def retS (f : M) : MS := fun ρ n => ofE (f ρ n) ρ fun p n1 => .ret p n1
def retN : MS := fun _ n => .ret .none n
def expS (f : M) : MS := fun ρ n => ofE (f ρ n) ρ fun _ n1 => .next ρ n1
def ifS (c : MB) (a b : MS) : MS := fun ρ n => ofE (c ρ n) ρ fun d n1 => if d = true then a ρ n1 else b ρ n1
def brkS : MS := fun ρ n => .brk ρ n
def conS : MS := fun ρ n => .cont ρ n
/-- a container of one's own is left alone from here on -/
def frzS (i : Nat) (f : MS) : MS := fun ρ n => match ρ[i]? with
  | some (some (.ow p)) => f (ρ.set i (some (.sh p))) n
  | _ => f ρ n
/-- x.append(e) -/
def appS (i : Nat) (f : M) : MS := fun ρ n => match ρ[i]? with
  | some (some (.ow (.list ds))) => ofE (f ρ n) ρ fun p n1 => if ds.length < sizeLine then .next (ρ.set i (some (.ow (.list (ds ++ [p]))))) n1 else .stuck
  | _ => .stuck
/-- x[e] = v of a list -/
def putL (i : Nat) (fv fi : M) : MS := fun ρ n => match ρ[i]? with
  | some (some (.ow (.list ds))) => ofE (fv ρ n) ρ fun p n1 => ofE (fi ρ n1) ρ fun q n2 => (match q with
    | .int k => (match ixN ds.length k with
      | some j => .next (ρ.set i (some (.ow (.list (ds.set j p))))) n2
      | none => .stuck)
    | _ => .stuck)
  | _ => .stuck

section
variable {g : Gx} {ρ ρ' : DEnv} {n n' : Nat} {σ : L2.St} {F H F' H' : Hp}
theorem Ok.get (k : Ok g ρ n σ F H) {i : Nat} {p : PV} (e : ρ[i]? = some (some (.ow p))) : ∃ a, σ[i]? = some (some (.ref a)) ∧ F a = none ∧ g.H0 a = none ∧ Con g.K F H p a := by
  obtain ⟨v, e1, a, rfl, h⟩ := k.sl i _ e
  exact ⟨a, e1, h⟩
theorem getE_set {α : Type} {l : List α} {i j : Nat} {x y : α} (h : (l.set i x)[j]? = some y) : (i = j ∧ x = y) ∨ (i ≠ j ∧ l[j]? = some y) := by
  by_cases e : i = j
  · subst e
    left
    rw [List.getElem?_set_self'] at h
    cases q : l[i]? with
    | none => rw [q] at h; cases h
    | some z => rw [q] at h; exact ⟨rfl, Option.some.inj h⟩
  · rw [List.getElem?_set_ne e] at h
    exact .inr ⟨e, h⟩
theorem Ok.at_ (k : Ok g ρ n σ F H) {i : Nat} {sv : SV} (h : ρ[i]? = some (some sv)) : i < σ.length := by
  rw [← k.len]
  exact (List.getElem?_eq_some_iff.mp h).1
/-- a slot gets a shared value -/
theorem Ok.set (k : Ok g ρ n σ F H) {i : Nat} {p : PV} {v : V} (r : Rp g.K F p v) : Ok g (ρ.set i (some (.sh p))) n (σ.set i (some v)) F H := by
  refine ⟨k.bd, fun j sv e => ?_, fun j l a q q' e1 e2 e3 e4 => ?_, by rw [List.length_set, List.length_set]; exact k.len⟩
  · rcases getE_set e with ⟨rfl, e'⟩ | ⟨ne, e'⟩
    · cases e'
      refine ⟨v, ?_, r⟩
      rw [List.getElem?_set_self]
      have := (List.getElem?_eq_some_iff.mp e).1
      rw [List.length_set, k.len] at this
      exact this
    · obtain ⟨w, h1, h2⟩ := k.sl j sv e'
      exact ⟨w, by rw [List.getElem?_set_ne ne]; exact h1, h2⟩
  · rcases getE_set e1 with ⟨_, e'⟩ | ⟨ne1, e1'⟩
    · cases e'
    · rcases getE_set e2 with ⟨_, e'⟩ | ⟨ne2, e2'⟩
      · cases e'
      · rw [List.getElem?_set_ne ne1] at e3
        rw [List.getElem?_set_ne ne2] at e4
        exact k.ap j l a q q' e1' e2' e3 e4
/-- a slot is forgotten -/
theorem Ok.forget (k : Ok g ρ n σ F H) {i : Nat} {o : Option V} : Ok g (ρ.set i none) n (σ.set i o) F H := by
  refine ⟨k.bd, fun j sv e => ?_, fun j l a q q' e1 e2 e3 e4 => ?_, by rw [List.length_set, List.length_set]; exact k.len⟩
  · rcases getE_set e with ⟨rfl, e'⟩ | ⟨ne, e'⟩
    · cases e'
    · obtain ⟨w, h1, h2⟩ := k.sl j sv e'
      exact ⟨w, by rw [List.getElem?_set_ne ne]; exact h1, h2⟩
  · rcases getE_set e1 with ⟨_, e'⟩ | ⟨ne1, e1'⟩
    · cases e'
    · rcases getE_set e2 with ⟨_, e'⟩ | ⟨ne2, e2'⟩
      · cases e'
      · rw [List.getElem?_set_ne ne1] at e3
        rw [List.getElem?_set_ne ne2] at e4
        exact k.ap j l a q q' e1' e2' e3 e4
/-- a slot gets a new container of its own; H0: the heap ahead of it -/
theorem Ok.own (k : Ok g ρ n σ F H) (b : Bd g n' F' H') (s : Stp g F H F' H') {i : Nat} {p : PV} {a : Addr} (h1 : H a = none) (h2 : F' a = none) (h3 : Con g.K F' H' p a) : Ok g (ρ.set i (some (.ow p))) n' (σ.set i (some (.ref a))) F' H' := by
  have k' := k.step b s
  have far : ∀ (j : Nat) (q : PV), ρ[j]? = some (some (.ow q)) → σ[j]? = some (some (.ref a)) → False := fun j q e1 e2 => by
    obtain ⟨c, e3, f1, f2, f3⟩ := k.get e1
    rw [e2] at e3
    cases e3
    obtain ⟨o, ho⟩ := f3.some
    rw [h1] at ho
    cases ho
  refine ⟨b, fun j sv e => ?_, fun j l c q q' e1 e2 e3 e4 => ?_, by rw [List.length_set, List.length_set]; exact k.len⟩
  · rcases getE_set e with ⟨rfl, e'⟩ | ⟨ne, e'⟩
    · cases e'
      refine ⟨.ref a, ?_, a, rfl, h2, k.bd.new0 h1, h3⟩
      rw [List.getElem?_set_self]
      have := (List.getElem?_eq_some_iff.mp e).1
      rw [List.length_set, k.len] at this
      exact this
    · obtain ⟨w, h1, h2⟩ := k'.sl j sv e'
      exact ⟨w, by rw [List.getElem?_set_ne ne]; exact h1, h2⟩
  · rcases getE_set e1 with ⟨i1, e'⟩ | ⟨ne1, e1'⟩
    · rcases getE_set e2 with ⟨i2, e''⟩ | ⟨ne2, e2'⟩
      · exact i1.symm.trans i2
      · subst i1
        rw [List.getElem?_set_ne ne2] at e4
        have := (List.getElem?_eq_some_iff.mp e3).1
        rw [List.length_set] at this
        rw [List.getElem?_set_self this] at e3
        cases e3
        exact (far l q' e2' e4).elim
    · rcases getE_set e2 with ⟨i2, e''⟩ | ⟨ne2, e2'⟩
      · subst i2
        rw [List.getElem?_set_ne ne1] at e3
        have := (List.getElem?_eq_some_iff.mp e4).1
        rw [List.length_set] at this
        rw [List.getElem?_set_self this] at e4
        cases e4
        exact (far j q e1' e3).elim
      · rw [List.getElem?_set_ne ne1] at e3
        rw [List.getElem?_set_ne ne2] at e4
        exact k.ap j l c q q' e1' e2' e3 e4
/-- a container of one's own is changed -/
theorem Ok.chg (k : Ok g ρ n σ F H) {i : Nat} {p p' : PV} {a : Addr} {o : HO} (e : ρ[i]? = some (some (.ow p))) (ea : σ[i]? = some (some (.ref a))) (h3 : Con g.K F (upd H a o) p' a) : Ok g (ρ.set i (some (.ow p'))) n σ F (upd H a o) := by
  obtain ⟨a', e', f1, f2, f3⟩ := k.get e
  rw [ea] at e'
  cases e'
  obtain ⟨o0, ho⟩ := f3.some
  have nod := k.bd.notOdd f2
  have nf : ∀ c u, F c = some u → c ≠ a := fun c u q z => by
    subst z
    rw [f1] at q
    cases q
  have b : Bd g n F (upd H a o) := by
    refine ⟨fun c u q => ?_, k.bd.sub, fun c u q z => ?_, k.bd.was, fun P hP => ?_, fun B R e2 => ?_⟩
    · rw [upd_ne (nf c u q)]
      exact k.bd.fh c u q
    · have hc : c ≠ a := fun z2 => by
        subst z2
        rw [f2] at q
        cases q
      rw [upd_ne hc]
      exact k.bd.kept c u q z
    · have hc : P ≠ a := fun z2 => by
        subst z2
        exact nod (.inl hP)
      obtain ⟨⟨ps, t1, t2⟩, t3⟩ := k.bd.tab P hP
      exact ⟨⟨ps, by rw [upd_ne hc]; exact t1, t2⟩, t3⟩
    · obtain ⟨q1, q2, r, q3, q4⟩ := k.bd.box B R e2
      have hc : B ≠ a := fun z2 => by
        subst z2
        exact nod (.inr ⟨R, e2⟩)
      exact ⟨q1, q2, r, by rw [upd_ne hc]; exact q3, q4⟩
  refine ⟨b, fun j sv e1 => ?_, fun j l c q q' e1 e2 e3 e4 => ?_, by rw [List.length_set]; exact k.len⟩
  · rcases getE_set e1 with ⟨rfl, e'⟩ | ⟨ne, e'⟩
    · cases e'
      exact ⟨.ref a, ea, a, rfl, f1, f2, h3⟩
    · obtain ⟨w, h1, h2⟩ := k.sl j sv e'
      refine ⟨w, h1, ?_⟩
      cases sv with
      | sh q => exact h2
      | bx => exact h2
      | ow q =>
        obtain ⟨c, rfl, g1, g2, g3⟩ := h2
        have hc : c ≠ a := fun z => by
          subst z
          exact ne (k.ap i j c p q e e' ea h1)
        refine ⟨c, rfl, g1, g2, g3.mono (Sub.refl _) fun u hu => ?_⟩
        rw [upd_ne hc]
        exact hu
  · have aux : ∀ {j : Nat} {q : PV}, (ρ.set i (some (SV.ow p')))[j]? = some (some (.ow q)) → ∃ q', ρ[j]? = some (some (.ow q')) := fun {j q} e => by
      rcases getE_set e with ⟨rfl, _⟩ | ⟨_, e'⟩
      · exact ⟨p, by assumption⟩
      · exact ⟨q, e'⟩
    obtain ⟨q1, e1'⟩ := aux e1
    obtain ⟨q2, e2'⟩ := aux e2
    exact k.ap j l c q1 q2 e1' e2' e3 e4
/-- a container of one's own is frozen -/
theorem Ok.freeze (k : Ok g ρ n σ F H) {i : Nat} {p : PV} (e : ρ[i]? = some (some (.ow p))) : ∃ F', Ok g (ρ.set i (some (.sh p))) n σ F' H ∧ Sub F F' := by
  obtain ⟨a, ea, f1, f2, f3⟩ := k.get e
  obtain ⟨o0, ho⟩ := f3.some
  obtain ⟨b, sb⟩ := k.bd.freeze f2 f1 ho
  refine ⟨_, ⟨b, fun j sv e1 => ?_, fun j l c q q' e1 e2 e3 e4 => ?_, by rw [List.length_set]; exact k.len⟩, sb⟩
  · rcases getE_set e1 with ⟨rfl, e'⟩ | ⟨ne, e'⟩
    · cases e'
      exact ⟨.ref a, ea, f3.rp sb fun o ho' => by rw [ho] at ho'; cases ho'; exact upd_same⟩
    · obtain ⟨w, h1, h2⟩ := k.sl j sv e'
      refine ⟨w, h1, ?_⟩
      cases sv with
      | sh q => exact Rp.mono sb h2
      | bx => exact h2
      | ow q =>
        obtain ⟨c, rfl, g1, g2, g3⟩ := h2
        have hc : c ≠ a := fun z => by
          subst z
          exact ne (k.ap i j c p q e e' ea h1)
        exact ⟨c, rfl, by rw [upd_ne hc]; exact g1, g2, g3.mono sb fun _ h => h⟩
  · rcases getE_set e1 with ⟨_, e'⟩ | ⟨ne1, e1'⟩
    · cases e'
    · rcases getE_set e2 with ⟨_, e'⟩ | ⟨ne2, e2'⟩
      · cases e'
      · exact k.ap j l c q q' e1' e2' e3 e4
/-- the outcome of an expression of a statement -/
theorem SO.ofE {D : Ends} {α : Type} {o : Out α} {f : α → Nat → SOut} (k : Ok g ρ n σ F H) {F9 : Hp} (h : SO g F9 D (DL.ofE o ρ f)) : PO g F H σ o (fun a n1 F1 H1 => SO g F9 D (f a n1)) := by
  cases o with
  | ok a n1 => exact fun _ _ _ _ => h
  | exc x n1 => exact fun cls d F' H' b s q => h cls d σ F' H' (k.step b s) q
  | stuck => exact h
end

section
variable {X : Cx} {g : Gx} {st : Stmt} {sts : List Stmt} {f h : MS} {pos : Pos} {e : Expr} {fe : M}
theorem dss_nil : PSs X [] (tDS g skip) := pss_imp pss_nil fun D σ H ⟨ρ, n, F, k, h⟩ => h σ F H k (Sub.refl _)
theorem dss_cons (h1 : PS X st (tDS g f)) (h2 : PSs X sts (tDS g h)) : PSs X (st :: sts) (tDS g (seqS f h)) := by
  refine pss_imp (pss_cons h1 h2) fun D σ H ⟨ρ, n, F, k, q⟩ => ⟨ρ, n, F, k, ?_⟩
  unfold seqS at q
  cases e : f ρ n with
  | next ρ' n' =>
    rw [e] at q
    exact fun σ' F' H' k' s' => ⟨ρ', n', F', k', q.mono s'⟩
  | ret p n' => rw [e] at q; exact q
  | brk ρ' n' => rw [e] at q; exact q
  | cont ρ' n' => rw [e] at q; exact q
  | exc x ρ' n' => rw [e] at q; exact q
  | stuck => rw [e] at q; exact q
theorem dss_one (h1 : PS X st (tDS g f)) : PSs X [st] (tDS g f) := pss_one h1
theorem dss_frz {i : Nat} (h1 : PSs X sts (tDS g f)) : PSs X sts (tDS g (frzS i f)) := by
  refine pss_imp h1 fun D σ H ⟨ρ, n, F, k, q⟩ => ?_
  unfold frzS at q
  cases e : ρ[i]? with
  | none => rw [e] at q; exact ⟨ρ, n, F, k, q⟩
  | some o =>
    cases o with
    | none => rw [e] at q; exact ⟨ρ, n, F, k, q⟩
    | some sv =>
      cases sv with
      | sh p => rw [e] at q; exact ⟨ρ, n, F, k, q⟩
      | bx => rw [e] at q; exact ⟨ρ, n, F, k, q⟩
      | ow p =>
        rw [e] at q
        obtain ⟨F', k', s'⟩ := k.freeze e
        exact ⟨_, n, F', k', q.mono s'⟩
theorem ds_pass : PS X (.Pass pos) (tDS g skip) := ps_imp ps_pass fun D σ H ⟨ρ, n, F, k, h⟩ => h σ F H k (Sub.refl _)
theorem ds_break : PS X (.Break pos) (tDS g brkS) := ps_imp ps_break fun D σ H ⟨ρ, n, F, k, h⟩ => h σ F H k (Sub.refl _)
theorem ds_continue : PS X (.Continue pos) (tDS g conS) := ps_imp ps_continue fun D σ H ⟨ρ, n, F, k, h⟩ => h σ F H k (Sub.refl _)
theorem ds_ret (he : PE X e (tD g RF fe)) : PS X (.Return (some e) pos) (tDS g (retS fe)) :=
  ps_imp (ps_ret he) fun D σ H ⟨ρ, n, F, k, h⟩ => ⟨ρ, n, F, k, (SO.ofE k h).imp fun p n1 F1 H1 b1 s1 q v r => q v F1 H1 b1 r⟩
theorem ds_retN : PS X (.Return none pos) (tDS g retN) := ps_imp ps_retN fun D σ H ⟨ρ, n, F, k, h⟩ => h .non F H k.bd .non
theorem ds_expr (he : PE X e (tD g RF fe)) (hs : swapsWith e none pos.line X.env = pure false := by rfl) : PS X (.Expr e pos) (tDS g (expS fe)) :=
  ps_imp (ps_expr he hs) fun D σ H ⟨ρ, n, F, k, h⟩ => ⟨ρ, n, F, k, (SO.ofE k h).imp fun p n1 F1 H1 b1 s1 q v r => q σ F1 H1 (k.step b1 s1) s1.ff⟩
theorem ds_doc {x : Str} {j pos'} : PS X (.Expr (.Constant (.str x) j pos) pos') (tDS g skip) := ps_imp ps_doc fun D σ H ⟨ρ, n, F, k, h⟩ => h σ F H k (Sub.refl _)
theorem ds_if {c : Expr} {a b : List Stmt} {fc : MB} {fa fb : MS} (hc : PT X c (tDB g fc)) (ha : PSs X a (tDS g fa)) (hb : PSs X b (tDS g fb)) : PS X (.If c a b pos) (tDS g (ifS fc fa fb)) := by
  refine ps_imp (ps_if hc ha hb) fun D σ H ⟨ρ, n, F, k, h⟩ => ⟨ρ, n, F, k, (SO.ofE k h).imp fun d n1 F1 H1 b1 s1 q => ?_⟩
  cases d with
  | true =>
    rw [if_pos rfl] at q ⊢
    exact ⟨ρ, n1, F1, k.step b1 s1, q.mono s1.ff⟩
  | false =>
    rw [if_neg Bool.false_ne_true] at q ⊢
    exact ⟨ρ, n1, F1, k.step b1 s1, q.mono s1.ff⟩
theorem ds_set (i : Nat) {x : Str} {pos' : Pos} (hN : X.N.Nodup) (hi : X.N[i]? = some x) (hx : Loc X.env.scope x) (he : PE X e (tD g RF fe)) (hs : swapsWith e (some (.Name x pos')) pos.line X.env = pure false := by rfl) (hf : X.fn x = true ∨ X.env.scope.names.lookup x = some .local := by first | exact .inl rfl | exact .inr rfl | assumption) :
    PS X (.Assign [.Name x pos'] e pos) (tDS g (setS i fe)) :=
  ps_imp (ps_set hN hi hx he hs hf) fun D σ H ⟨ρ, n, F, k, h⟩ => ⟨ρ, n, F, k, (SO.ofE k h).imp fun p n1 F1 H1 b1 s1 q v r => q _ F1 H1 ((k.step b1 s1).set r) s1.ff⟩
theorem ds_own (i : Nat) {x : Str} {pos' : Pos} (hN : X.N.Nodup) (hi : X.N[i]? = some x) (hx : Loc X.env.scope x) (he : PE X e (tD g RO fe)) (hs : swapsWith e (some (.Name x pos')) pos.line X.env = pure false := by rfl) (hf : X.fn x = true ∨ X.env.scope.names.lookup x = some .local := by first | exact .inl rfl | exact .inr rfl | assumption) :
    PS X (.Assign [.Name x pos'] e pos) (tDS g (ownS i fe)) :=
  ps_imp (ps_set hN hi hx he hs hf) fun D σ H ⟨ρ, n, F, k, h⟩ => ⟨ρ, n, F, k, (SO.ofE k h).imp fun p n1 F1 H1 b1 s1 q v r => by
    obtain ⟨a, rfl, h1, h2, h3⟩ := r
    exact q _ F1 H1 (k.own b1 s1 h1 h2 h3) s1.ff⟩
/-- targets -/
structure DGs (X : Cx) (ts : List Expr) (is : List Nat) : Prop where
  ex : ∃ t, PGs X ts t ∧ ∀ vs σ H Q, vs.length = is.length → Q ((is.zip vs).foldl (fun s p => s.set p.1 (some p.2)) σ) H → t vs σ H Q
theorem dgs_nil : DGs X [] [] := ⟨gNil, pgs_nil, fun vs σ H Q h q => by
  cases vs with
  | nil => exact ⟨rfl, q⟩
  | cons _ _ => simp at h⟩
theorem dgs_cons {x : Str} {ts : List Expr} {i : Nat} {is : List Nat} (hN : X.N.Nodup) (hi : X.N[i]? = some x) (hx : Loc X.env.scope x) (h : DGs X ts is) (hf : X.fn x = true ∨ X.env.scope.names.lookup x = some .local := by first | exact .inl rfl | exact .inr rfl | assumption)
    (hs : (assignEach (.Name x pos :: ts) X.env).map (·.2) = assign (.Name x pos) X.env :: (assignEach ts X.env).map (·.2) := by rfl) : DGs X (.Name x pos :: ts) (i :: is) := by
  obtain ⟨t, h1, h2⟩ := h.ex
  refine ⟨gCons (gName i) t, pgs_cons (pg_name hN hi hx hf) h1 hs, fun vs σ H Q hl q => ?_⟩
  cases vs with
  | nil => simp at hl
  | cons v vs => exact ⟨v, vs, rfl, h2 vs _ H Q (by simpa using hl) q⟩
theorem setAll_fold {g : Gx} {n : Nat} {F H : Hp} : ∀ {is : List Nat} {ps : List PV} {vs : List V}, Rps g.K F ps vs → ps.length = is.length → ∀ {ρ : DEnv} {σ : L2.St}, Ok g ρ n σ F H → Ok g (setAll is ps ρ) n ((is.zip vs).foldl (fun s p => s.set p.1 (some p.2)) σ) F H
  | [], [], _, .nil, _, _, _, k => k
  | i :: is, p :: ps, _, .cons r rs, h, _, _, k => setAll_fold rs (by simpa using h) (k.set (i := i) r)
  | [], _ :: _, _, _, h, _, _, _ => by simp at h
  | _ :: _, [], _, _, h, _, _, _ => by simp at h
theorem ds_unp {ts : List Expr} {is : List Nat} {kt : Nat} {pt : Pos} (hK : g.K = X.K) (hc : X.calm = true) (he : PE X e (tD g RF fe)) (ht : DGs X ts is) (hn : (assignEach ts X.env).length = is.length := by rfl) (hst : (assignEach ts X.env).findIdx? (·.1) = none := by rfl)
    (hs : swapsWithSole [.Tuple ts kt pt] e pos.line X.env = pure false := by rfl) (hw : swappedStores [.Tuple ts kt pt] e X.env = pure none := by rfl) (h1 : (assignEach [.Tuple ts kt pt] X.env).map (·.2) = [assign (.Tuple ts kt pt) X.env] := by rfl) :
    PS X (.Assign [.Tuple ts kt pt] e pos) (tDS g (unpS is fe)) := by
  obtain ⟨t, p1, p2⟩ := ht.ex
  refine ps_imp (ps_asg he (pg_tup hc p1 hn hst) hs hw h1) fun D σ H ⟨ρ, n, F, k, h⟩ => ⟨ρ, n, F, k, (SO.ofE k h).imp fun p n1 F1 H1 b1 s1 q v r => ?_⟩
  cases p with
  | tuple ps =>
    by_cases hl : ps.length = is.length
    · have q : SO g F D (if ps.length = is.length then .next (DL.setAll is ps ρ) n1 else .stuck) := q
      rw [if_pos hl] at q
      cases r with
      | tup hq rs =>
        refine ⟨_, _, rfl, by rw [← hK]; exact Sub.sqT b1.fh hq, by rw [rs.length]; exact hl, p2 _ _ _ _ (by rw [rs.length]; exact hl) (q _ F1 H1 (setAll_fold rs hl (k.step b1 s1)) s1.ff)⟩
    · have q : SO g F D (if ps.length = is.length then .next (DL.setAll is ps ρ) n1 else .stuck) := q
      rw [if_neg hl] at q
      exact q.elim
  | _ => exact q.elim
theorem set_comm_ {α : Type} (l : List α) {i j : Nat} (a b : α) (h : i ≠ j) : (l.set i a).set j b = (l.set j b).set i a := List.set_comm a b h
theorem ds_par {i j : Nat} {x y : Str} {a b : Expr} {fa : MA} {px py pt : Pos} {kt k2 pt2} (hc : X.calm = true) (hN : X.N.Nodup) (hi : X.N[i]? = some x) (hj : X.N[j]? = some y) (hij : i ≠ j)
    (hx : X.env.scope.names.lookup x = some .local) (hy : X.env.scope.names.lookup y = some .local) (ha : PA X [a, b] (tDA g fa))
    (hw : swappedStores [.Tuple [.Name x px, .Name y py] kt pt] (.Tuple [a, b] k2 pt2) X.env = pure (some [x, y]) := by rfl)
    (hs : swapsWithSole [.Tuple [.Name x px, .Name y py] kt pt] (.Tuple [a, b] k2 pt2) pos.line X.env = pure false := by rfl) :
    PS X (.Assign [.Tuple [.Name x px, .Name y py] kt pt] (.Tuple [a, b] k2 pt2) pos) (tDS g (parS [i, j] fa)) := by
  refine ps_imp (ps_par hc hN hi hj hij hx hy ha hw hs) fun D σ H ⟨ρ, n, F, k, h⟩ => ⟨ρ, n, F, k, (SO.ofE k h).imp fun ps n1 F1 H1 b1 s1 q vs rs => ?_⟩
  by_cases hl : ps.length = [i, j].length
  · rw [if_pos hl] at q
    have hl2 := rs.length
    rw [hl] at hl2
    match vs, hl2 with
    | [v, w], _ => exact ⟨v, w, rfl, q _ F1 H1 (setAll_fold rs hl (k.step b1 s1)) s1.ff⟩
  · rw [if_neg hl] at q
    exact q.elim
theorem ds_par3 {i j l : Nat} {x y z : Str} {a b c : Expr} {fa : MA} {px py pz pt : Pos} {kt k2 pt2} (hc : X.calm = true) (hN : X.N.Nodup) (hi : X.N[i]? = some x) (hj : X.N[j]? = some y) (hl : X.N[l]? = some z) (hij : i ≠ j) (hil : i ≠ l) (hjl : j ≠ l)
    (hx : X.env.scope.names.lookup x = some .local) (hy : X.env.scope.names.lookup y = some .local) (hz : X.env.scope.names.lookup z = some .local) (ha : PA X [a, b, c] (tDA g fa))
    (hw : swappedStores [.Tuple [.Name x px, .Name y py, .Name z pz] kt pt] (.Tuple [a, b, c] k2 pt2) X.env = pure (some [x, y, z]) := by rfl)
    (hs : swapsWithSole [.Tuple [.Name x px, .Name y py, .Name z pz] kt pt] (.Tuple [a, b, c] k2 pt2) pos.line X.env = pure false := by rfl) :
    PS X (.Assign [.Tuple [.Name x px, .Name y py, .Name z pz] kt pt] (.Tuple [a, b, c] k2 pt2) pos) (tDS g (parS [i, j, l] fa)) := by
  refine ps_imp (ps_par3 hc hN hi hj hl hij hil hjl hx hy hz ha hw hs) fun D σ H ⟨ρ, n, F, k, h⟩ => ⟨ρ, n, F, k, (SO.ofE k h).imp fun ps n1 F1 H1 b1 s1 q vs rs => ?_⟩
  by_cases hl : ps.length = [i, j, l].length
  · rw [if_pos hl] at q
    have hl2 := rs.length
    rw [hl] at hl2
    match vs, hl2 with
    | [u, v, w], _ => exact ⟨u, v, w, rfl, q _ F1 H1 (setAll_fold rs hl (k.step b1 s1)) s1.ff⟩
  · rw [if_neg hl] at q
    exact q.elim
theorem ds_aug (i : Nat) {x : Str} {op : Operator} {r : R2} {kk : PV → PV → Option PV} {pos' : Pos} (hN : X.N.Nodup) (hi : X.N[i]? = some x) (hx : Loc X.env.scope x) (ho : OpR X (inplaceOp op) r) (rule : RuleR g RF kk r) (he : PE X e (tD g RP fe)) (hf : X.fn x = true ∨ X.env.scope.names.lookup x = some .local := by first | exact .inl rfl | exact .inr rfl | assumption) :
    PS X (.AugAssign (.Name x pos') op e pos) (tDS g (augS kk i fe)) := by
  refine ps_imp (ps_aug hN hi hx he (ti := r) ho hf) fun D σ H ⟨ρ, n, F, k, h⟩ => ?_
  unfold augS at h
  cases e1 : ρ[i]? with
  | none => rw [e1] at h; exact h.elim
  | some o =>
    cases o with
    | none => rw [e1] at h; exact h.elim
    | some sv =>
      cases sv with
      | ow p => rw [e1] at h; exact h.elim
      | bx => rw [e1] at h; exact h.elim
      | sh p =>
        rw [e1] at h
        obtain ⟨v, e2, rv⟩ := k.sl i _ e1
        refine ⟨v, e2, ρ, n, F, k, (SO.ofE k h).imp fun q n1 F1 H1 b1 s1 h1 w rw' => ?_⟩
        have k1 := k.step b1 s1
        obtain ⟨s, es, h2⟩ := PO.opt (SO.ofE k1 h1)
        exact rule n1 F1 H1 F1 H1 p q s v w _ b1 Stp.refl (.inl (Rp.mono s1.ff rv)) rw' es fun u F' H' b' s' ru => h2 F' H' b' s' _ F' H' ((k1.step b' s').set ru) (s1.ff.trans s'.ff)
theorem ds_app (i : Nat) {x : Str} {px apos cpos : Pos} (hi : X.N[i]? = some x) (hv : Vis X.env.scope x) (he : PE X e (tD g RF fe)) (hs : swapsWith (.Call (.Attribute (.Name x px) "append" apos) [e] [] cpos) none pos.line X.env = pure false := by rfl)
    (hbase : attributeBase (.Name x px) "append" X.env (eval (.Name x px) X.env) = eval (.Name x px) X.env := by rfl)
    (hfew : ((backTo cpos (starEach [e] X.env)).all (fun x => !x.1) && (backToKw cpos (keywordEach [] X.env)).all (fun x => x.1.isSome)
      && decide ([e].length + ([] : List Keyword).length + (if ([] : List Keyword).isEmpty then 0 else 1) < 30)) = true := by rfl)
    (hline : (apos.endLine == cpos.line) = true := by rfl) (hst : starEach [e] X.env = (false, eval e X.env) :: starEach [] X.env := by rfl) (hd : (x == ("__debug__" : Str)) = false := by decide) (hcd : (x == ("__classdict__" : Str)) = false := by decide) :
    PS X (.Expr (.Call (.Attribute (.Name x px) "append" apos) [e] [] cpos) pos) (tDS g (appS i fe)) := by
  refine ps_imp (ps_expr (pe_bm PySem.F.plainAttrs_list PySem.F.slot_list_append PySem.F.type_list_append mt_append (pe_var hi hv hd hcd) (pa_cons he pa_nil hst) hbase hfew hline hst) hs) fun D σ H ⟨ρ, n, F, k, h⟩ => ?_
  unfold appS at h
  cases e1 : ρ[i]? with
  | none => rw [e1] at h; exact h.elim
  | some o =>
    cases o with
    | none => rw [e1] at h; exact h.elim
    | some sv =>
      cases sv with
      | sh p => rw [e1] at h; exact h.elim
      | bx => rw [e1] at h; exact h.elim
      | ow c =>
        cases c with
        | list ds =>
          rw [e1] at h
          obtain ⟨a, ea, f1, f2, vs, ha, rs⟩ := k.get e1
          refine ⟨.ref a, ea, .inl ⟨rfl, vs, SqL.of ha⟩, ρ, n, F, k, (SO.ofE k h).imp fun p n1 F1 H1 b1 s1 q v r => ?_⟩
          have k1 := k.step b1 s1
          by_cases hz : ds.length < sizeLine
          · rw [if_pos hz] at q
            obtain ⟨a', ea', f1', f2', vs', ha', rs'⟩ := k1.get e1
            rw [ea] at ea'
            cases ea'
            refine ⟨a, vs', v, rfl, rfl, ha', by rw [rs'.length]; exact hz, ?_⟩
            exact q σ F1 _ (k1.chg e1 ea ⟨vs' ++ [v], upd_same, rs'.append (.cons r .nil)⟩) s1.ff
          · rw [if_neg hz] at q
            exact q.elim
        | _ => rw [e1] at h; exact h.elim
theorem ds_putL (i : Nat) {x : Str} {px sp : Pos} {ix : Expr} {fi : M} (hi : X.N[i]? = some x) (hv : Vis X.env.scope x) (he : PE X e (tD g RF fe)) (hx : PE X ix (tD g RP fi))
    (hs : swapsWithSole [.Subscript (.Name x px) ix sp] e pos.line X.env = pure false := by rfl) (hw : swappedStores [.Subscript (.Name x px) ix sp] e X.env = pure none := by rfl) (h1 : (assignEach [.Subscript (.Name x px) ix sp] X.env).map (·.2) = [assign (.Subscript (.Name x px) ix sp) X.env] := by rfl)
    (hd : (x == ("__debug__" : Str)) = false := by decide) (hcd : (x == ("__classdict__" : Str)) = false := by decide) (hsub : ∀ v, assign (.Subscript (.Name x px) ix sp) X.env v = (do
      let ov ← holding [v] (eval (.Name x px) X.env)
      let iv ← holding [v, ov] (eval ix X.env)
      standAt sp
      holding [v, ov, iv] (setItem ov iv v)
      release [v, ov, iv] []) := by intro _; rfl) :
    PS X (.Assign [.Subscript (.Name x px) ix sp] e pos) (tDS g (putL i fe fi)) := by
  refine ps_imp (ps_asg he (pg_sub (pe_var hi hv hd hcd) hx set_list hsub) hs hw h1) fun D σ H ⟨ρ, n, F, k, h⟩ => ?_
  unfold putL at h
  cases e1 : ρ[i]? with
  | none => rw [e1] at h; exact h.elim
  | some o =>
    cases o with
    | none => rw [e1] at h; exact h.elim
    | some sv =>
      cases sv with
      | sh p => rw [e1] at h; exact h.elim
      | bx => rw [e1] at h; exact h.elim
      | ow c =>
        cases c with
        | list ds =>
          rw [e1] at h
          refine ⟨ρ, n, F, k, (SO.ofE k h).imp fun p n1 F1 H1 b1 s1 q v r => ?_⟩
          have k1 := k.step b1 s1
          obtain ⟨a, ea, _⟩ := k.get e1
          refine ⟨.ref a, ea, ρ, n1, F1, k1, (SO.ofE k1 q).imp fun z n2 F2 H2 b2 s2 q2 w rw' => ?_⟩
          have k2 := k1.step b2 s2
          obtain ⟨a', ea', f1', f2', vs', ha', rs'⟩ := k2.get e1
          rw [ea] at ea'
          cases ea'
          cases z with
          | int kk =>
            cases Pk.int rw'
            cases ei : ixN ds.length kk with
            | none =>
              have q2 : SO g F D (match ixN ds.length kk with | some j => .next (ρ.set i (some (.ow (.list (ds.set j p))))) n2 | none => .stuck) := q2
              rw [ei] at q2
              exact q2.elim
            | some j =>
              have q2 : SO g F D (match ixN ds.length kk with | some j => .next (ρ.set i (some (.ow (.list (ds.set j p))))) n2 | none => .stuck) := q2
              rw [ei] at q2
              refine ⟨a, vs', kk, j, rfl, rfl, ha', by rw [rs'.length]; exact ei, ?_⟩
              exact q2 σ F2 _ (k2.chg e1 ea ⟨vs'.set j v, upd_same, Rps.set (r.mono s2.ff) j rs'⟩) (s1.ff.trans s2.ff)
          | _ => exact q2.elim
        | _ => rw [e1] at h; exact h.elim
end
end DL
set_option Elab.async false
set_option linter.all false
set_option maxRecDepth 100000
set_option maxHeartbeats 1000000
/-! DF: the D layer: what is walked, for, while -/
namespace DL
open PySem PySem.Spec PyProof.Rows L2

/-! ### what is walked -/
structure ItOk (g : Gx) (J : It) (F1 : Hp) (items : List PV) : Prop where
  go : ∀ (i n : Nat) (F H : Hp), Bd g n F H → Sub F1 F → i < items.length → J.go i H
  stop : ∀ (i n : Nat) (F H : Hp), Bd g n F H → Sub F1 F → items.length ≤ i → J.stop i H
  yld : ∀ (i n : Nat) (F H : Hp) (x : V) (H' : Hp) (p : PV), Bd g n F H → Sub F1 F → items[i]? = some p → J.yld i H x H' → ∃ F', Bd g n F' H' ∧ Stp g F H F' H' ∧ Rp g.K F' p x
def iD (g : Gx) (it : MA) : TI := fun σ H R => ∃ ρ n F, Ok g ρ n σ F H ∧ PO g F H σ (it ρ n) fun items _ F' H' => items.length ≤ sizeLine → ∀ J, ItOk g J F' items → R J H'
def opA (o : Option (List PV)) (n : Nat) : Out (List PV) := match o with
  | some p => .ok p n
  | none => .stuck
@[simp] theorem opA_some (p : List PV) (n : Nat) : opA (some p) n = .ok p n := rfl
@[simp] theorem opA_none (n : Nat) : opA none n = .stuck := rfl
theorem PO.opA {g : Gx} {F H : Hp} {σ : L2.St} {o : Option (List PV)} {n : Nat} {Q : List PV → Nat → Hp → Hp → Prop} (h : PO g F H σ (DL.opA o n) Q) : ∃ s, o = some s ∧ ∀ F' H', Bd g n F' H' → Stp g F H F' H' → Q s n F' H' := by
  cases o with
  | none => exact h.elim
  | some s => exact ⟨s, rfl, h⟩
/-- the items of a sequence -/
def seqV : PV → Option (List PV)
  | .list ds => some ds
  | .tuple ds => some ds
  | .str x => if x.length ≤ sizeLine then some (x.cps.toList.map fun c => .str ⟨#[c]⟩) else none
  | _ => none
def seqI (f : M) : MA := fun ρ n => (f ρ n).bind fun p n1 => opA (seqV p) n1
def rng1V : List PV → Option (List PV)
  | [.int b] => if b.natAbs ≤ 2 ^ 23 then some ((List.range b.toNat).map fun (k : Nat) => .int (k : Int)) else none
  | _ => none
def rng2V : List PV → Option (List PV)
  | [.int a, .int b] => if a.natAbs ≤ 2 ^ 23 ∧ b.natAbs ≤ 2 ^ 23 then some ((List.range (b - a).toNat).map fun (k : Nat) => .int (a + (k : Int))) else none
  | _ => none
def rngI (v : List PV → Option (List PV)) (f : MA) : MA := fun ρ n => (f ρ n).bind fun ps n1 => opA (v ps) n1
def enuV : PV → Option (List PV)
  | .list ds => some (ds.zipIdx.map fun q => .tuple [.int (q.2 : Int), q.1])
  | _ => none
def enuI (f : M) : MA := fun ρ n => (f ρ n).bind fun p n1 => opA (enuV p) n1
def zipV : PV → PV → Option (List PV)
  | .list ds, .list es => some (ds.zipWith (fun a b => .tuple [a, b]) es)
  | _, _ => none
def zipI (f h : M) : MA := fun ρ n => (f ρ n).bind fun p n1 => (h ρ n1).bind fun q n2 => opA (zipV p q) n2

section
variable {g : Gx}
theorem itOk_list {a : Addr} {vs : List V} {ds : List PV} {F1 : Hp} (ha : F1 a = some (.lst vs)) (r : Rps g.K F1 ds vs) : ItOk g (Itl g.K a) F1 ds where
  go := fun i n F H b s hi => by
    have hi' : i < vs.length := by rw [r.length]; exact hi
    exact ⟨vs, vs[i], SqL.of (b.fh _ _ (s _ _ ha)), List.getElem?_eq_getElem hi'⟩
  stop := fun i n F H b s hi => ⟨vs, SqL.of (b.fh _ _ (s _ _ ha)), by rw [r.length]; exact hi⟩
  yld := fun i n F H x H' p b s e y => by
    obtain ⟨rfl, y⟩ := y
    have e1 := y vs (SqL.of (b.fh _ _ (s _ _ ha)))
    obtain ⟨v, e2, rv⟩ := r.get e
    rw [e1] at e2
    cases e2
    exact ⟨F, b, Stp.refl, rv.mono s⟩
theorem itOk_tup {a : Addr} {vs : List V} {ds : List PV} {F1 : Hp} (ha : SqT g.K F1 a vs) (r : Rps g.K F1 ds vs) : ItOk g (Itt g.K a) F1 ds where
  go := fun i n F H b s hi => by
    have hi' : i < vs.length := by rw [r.length]; exact hi
    exact ⟨vs, vs[i], b.fh.sqT (s.sqT ha), List.getElem?_eq_getElem hi'⟩
  stop := fun i n F H b s hi => ⟨vs, b.fh.sqT (s.sqT ha), by rw [r.length]; exact hi⟩
  yld := fun i n F H x H' p b s e y => by
    obtain ⟨rfl, y⟩ := y
    have e1 := y vs (b.fh.sqT (s.sqT ha))
    obtain ⟨v, e2, rv⟩ := r.get e
    rw [e1] at e2
    cases e2
    exact ⟨F, b, Stp.refl, rv.mono s⟩
theorem itOk_str {z : Str} {F1 : Hp} : ItOk g (Its z) F1 (z.cps.toList.map fun c => .str ⟨#[c]⟩) where
  go := fun i n F H b s hi => by
    have : i < z.cps.size := by simpa using hi
    exact this
  stop := fun i n F H b s hi => by
    have : z.cps.size ≤ i := by simpa using hi
    exact this
  yld := fun i n F H x H' p b s e y => by
    obtain ⟨rfl, c, e1, rfl⟩ := y
    rw [List.getElem?_map, Array.getElem?_toList, e1] at e
    cases e
    exact ⟨F, b, Stp.refl, .str _⟩
theorem itOk_rng {lo : Int} {m : Nat} {F1 : Hp} : ItOk g (Itr lo m) F1 ((List.range m).map fun (k : Nat) => .int (lo + (k : Int))) where
  go := fun i n F H b s hi => by
    have : i < m := by simpa using hi
    exact this
  stop := fun i n F H b s hi => by
    have : m ≤ i := by simpa using hi
    exact this
  yld := fun i n F H x H' p b s e y => by
    obtain ⟨rfl, rfl⟩ := y
    rw [List.getElem?_map] at e
    cases q : (List.range m)[i]? with
    | none => rw [q] at e; cases e
    | some j =>
      rw [q] at e
      have hj := (List.getElem?_eq_some_iff.mp q)
      obtain ⟨hj1, hj2⟩ := hj
      rw [List.getElem_range] at hj2
      subst hj2
      cases e
      exact ⟨F, b, Stp.refl, .int _⟩
theorem itOk_enu {a : Addr} {vs : List V} {ds : List PV} {F1 : Hp} (ha : F1 a = some (.lst vs)) (r : Rps g.K F1 ds vs) : ItOk g (Ite g.K a) F1 (ds.zipIdx.map fun q => .tuple [.int (q.2 : Int), q.1]) where
  go := fun i n F H b s hi => by
    have hi' : i < vs.length := by rw [r.length]; simpa using hi
    exact ⟨vs, vs[i], SqL.of (b.fh _ _ (s _ _ ha)), List.getElem?_eq_getElem hi'⟩
  stop := fun i n F H b s hi => ⟨vs, SqL.of (b.fh _ _ (s _ _ ha)), by rw [r.length]; simpa using hi⟩
  yld := fun i n F H x H' p b s e y => by
    obtain ⟨T, w, rfl, nT, rfl, y⟩ := y
    have e1 := y vs (SqL.of (b.fh _ _ (s _ _ ha)))
    rw [List.getElem?_map, List.getElem?_zipIdx] at e
    cases q : ds[i]? with
    | none => rw [q] at e; cases e
    | some d =>
      rw [q] at e
      obtain ⟨v, e2, rv⟩ := r.get q
      rw [e1] at e2
      cases e2
      have e' := Option.some.inj e
      subst e'
      have sb := (Stp.newF (g := g) (o := .tup [.int (i : Nat), w]) nT b.fh).ff
      refine ⟨_, b.newF nT, Stp.newF nT b.fh, .tup (SqT.of upd_same) (.cons ?_ (.cons ((rv.mono s).mono sb) .nil))⟩
      have : ((0 + i : Nat) : Int) = ((i : Nat) : Int) := by omega
      show Rp _ _ (.int ((0 + i : Nat) : Int)) (.int ((i : Nat) : Int))
      rw [this]
      exact .int _
theorem itOk_zip {a c : Addr} {vs us : List V} {ds es : List PV} {F1 : Hp} (ha : F1 a = some (.lst vs)) (r : Rps g.K F1 ds vs) (hc : F1 c = some (.lst us)) (rc : Rps g.K F1 es us) : ItOk g (Itz g.K a c) F1 (ds.zipWith (fun a b => .tuple [a, b]) es) where
  go := fun i n F H b s hi => by
    have hl : i < min ds.length es.length := by simpa using hi
    have hi' : i < vs.length := by rw [r.length]; omega
    have hi2 : i < us.length := by rw [rc.length]; omega
    exact ⟨vs, us, vs[i], us[i], SqL.of (b.fh _ _ (s _ _ ha)), SqL.of (b.fh _ _ (s _ _ hc)), List.getElem?_eq_getElem hi', List.getElem?_eq_getElem hi2⟩
  stop := fun i n F H b s hi => by
    have hl : min ds.length es.length ≤ i := by simpa using hi
    refine ⟨vs, us, SqL.of (b.fh _ _ (s _ _ ha)), SqL.of (b.fh _ _ (s _ _ hc)), ?_⟩
    rw [r.length, rc.length]
    omega
  yld := fun i n F H x H' p b s e y => by
    obtain ⟨T, w, z, rfl, nT, rfl, y1, y2⟩ := y
    have e1 := y1 vs (SqL.of (b.fh _ _ (s _ _ ha)))
    have e2 := y2 us (SqL.of (b.fh _ _ (s _ _ hc)))
    rw [List.getElem?_zipWith] at e
    cases q1 : ds[i]? with
    | none => rw [q1] at e; cases e
    | some d =>
      cases q2 : es[i]? with
      | none => rw [q1, q2] at e; cases e
      | some d2 =>
        rw [q1, q2] at e
        obtain ⟨v, e3, rv⟩ := r.get q1
        obtain ⟨v2, e4, rv2⟩ := rc.get q2
        rw [e1] at e3
        cases e3
        rw [e2] at e4
        cases e4
        have e' := Option.some.inj e
        subst e'
        have sb := (Stp.newF (g := g) (o := .tup [w, z]) nT b.fh).ff
        exact ⟨_, b.newF nT, Stp.newF nT b.fh, .tup (SqT.of upd_same) (.cons ((rv.mono s).mono sb) (.cons ((rv2.mono s).mono sb) .nil))⟩
end
section
variable {X : Cx} {g : Gx} {tg e e2 : Expr} {fe f2 : M} {fa : MA}
theorem di_seq (hK : g.K = X.K) (he : PE X e (tD g RF fe)) : PI X tg e (iD g (seqI fe)) := by
  refine ⟨fun pins s σ H R I h => ?_⟩
  have h' : tD g RF fe σ H fun v H1 => ∃ p n1 F1, Bd g n1 F1 H1 ∧ Rp g.K F1 p v ∧ ∃ items, seqV p = some items ∧ (items.length ≤ sizeLine → ∀ J, ItOk g J F1 items → R J H1) := by
    obtain ⟨ρ, n, F, k, h⟩ := h
    refine ⟨ρ, n, F, k, (PO.bind h).imp fun p n1 F1 H1 b1 s1 h1 v r => ?_⟩
    obtain ⟨items, e1, h2⟩ := PO.opA h1
    exact ⟨p, n1, F1, b1, r, items, e1, h2 F1 H1 b1 Stp.refl⟩
  refine thn (he.run pins s σ H _ I h') fun v s1 ⟨x, H1, I1, r1, p, n1, F1, b1, rp, items, e1, q⟩ => ?_
  cases rp with
  | lst ha rs =>
    cases r1
    cases e1
    obtain ⟨its, rv, p, hz⟩ := I1.list (SqL.of (b1.fh _ _ ha))
    refine wpAny_pyIter_list p.isList ?_
    refine ⟨s1.heap.objs.size, [s1.heap.objs.size], _, _, H1, rfl, I1.kept (t' := s1.toks) fun b o e => Heap.get?_push_of_some _ e, turn_list _ _, ⟨_, Heap.get?_push_size _ rfl, rfl, rfl⟩, fun b hb => ?_, q (by rw [← rs.length]; exact hz) _ (by rw [← hK]; exact itOk_list ha rs)⟩
    have e : b = s1.heap.objs.size := by simpa using hb
    subst e
    exact I1.fpOk (Nat.le_refl _) (I1.hok.fresh (Nat.le_refl _))
  | tup ha rs =>
    cases r1
    cases e1
    obtain ⟨its, rv, p, hz⟩ := I1.tuple (by rw [← hK]; exact b1.fh.sqT ha)
    refine wpAny_pyIter_tuple (show s1.heap.IsTuple _ its.toArray from p) ?_
    refine ⟨s1.heap.objs.size, [s1.heap.objs.size], _, _, H1, rfl, I1.kept (t' := s1.toks) fun b o e => Heap.get?_push_of_some _ e, turn_tuple _ _, ⟨_, Heap.get?_push_size _ rfl, rfl, rfl⟩, fun b hb => ?_, q (by rw [← rs.length]; exact hz) _ (by rw [← hK]; exact itOk_tup ha rs)⟩
    have e : b = s1.heap.objs.size := by simpa using hb
    subst e
    exact I1.fpOk (Nat.le_refl _) (I1.hok.fresh (Nat.le_refl _))
  | str z =>
    obtain ⟨t, rfl⟩ := r1
    by_cases hz : z.length ≤ sizeLine
    · have e2 : some (z.cps.toList.map fun c => PyData.str ⟨#[c]⟩) = some items := by
        rw [← e1]
        exact (if_pos hz).symm
      cases e2
      have q' := q (by rw [List.length_map, Array.length_toList]; exact hz) _ itOk_str
      cases ha : z.cps.all (· < 128)
      · exact wpAny_pyIter_wide ha (pi_one (tk := s1.toks) I1 _ (turn_str _ z t "str_iterator" (.inr rfl)) ⟨_, Heap.get?_push_size _ rfl, rfl, rfl⟩ q')
      · exact wpAny_pyIter_ascii ha (pi_one (tk := s1.toks) I1 _ (turn_str _ z t "str_ascii_iterator" (.inl rfl)) ⟨_, Heap.get?_push_size _ rfl, rfl, rfl⟩ q')
    · have e2 : none = some items := by
        rw [← e1]
        exact (if_neg hz).symm
      cases e2
  | _ => cases e1
theorem di_rng1 {a : Expr} {p pos : Pos} (hg : Gl X "range") (hm : X.mg "range" = none) (ha : PA X [a] (tDA g fa)) (hs : starEach [a] X.env = [(false, eval a X.env)] := by rfl) : PI X tg (.Call (.Name "range" p) [a] [] pos) (iD g (rngI rng1V fa)) := by
  refine ⟨fun pins s σ H R I ⟨ρ, n, F, k, h⟩ => (pi_range1 hg hm ha hs).run pins s σ H R I ⟨ρ, n, F, k, (PO.bind h).imp fun ps n1 F1 H1 b1 s1 h1 vs rs => ?_⟩⟩
  obtain ⟨items, e1, h2⟩ := PO.opA h1
  unfold rng1V at e1
  split at e1
  · split at e1
    · rename_i b0 hb
      cases e1
      cases rs with
      | cons r rr =>
        cases rr
        cases r
        have hz := sizeLine_eq
        refine ⟨b0, rfl, by omega, by omega, h2 F1 H1 b1 Stp.refl (by rw [List.length_map, List.length_range]; omega) _ ?_⟩
        have := itOk_rng (g := g) (lo := 0) (m := b0.toNat) (F1 := F1)
        simpa using this
    · cases e1
  · cases e1
theorem di_rng2 {a b : Expr} {p pos : Pos} (hg : Gl X "range") (hm : X.mg "range" = none) (ha : PA X [a, b] (tDA g fa)) (hs : starEach [a, b] X.env = [(false, eval a X.env), (false, eval b X.env)] := by rfl) (hs2 : starEach [b] X.env = [(false, eval b X.env)] := by rfl) :
    PI X tg (.Call (.Name "range" p) [a, b] [] pos) (iD g (rngI rng2V fa)) := by
  refine ⟨fun pins s σ H R I ⟨ρ, n, F, k, h⟩ => (pi_range2 hg hm ha hs hs2).run pins s σ H R I ⟨ρ, n, F, k, (PO.bind h).imp fun ps n1 F1 H1 b1 s1 h1 vs rs => ?_⟩⟩
  obtain ⟨items, e1, h2⟩ := PO.opA h1
  unfold rng2V at e1
  split at e1
  · split at e1
    · rename_i a0 b0 hb
      cases e1
      cases rs with
      | cons r rr =>
        cases rr with
        | cons r' rr =>
          cases rr
          cases r
          cases r'
          have hz := sizeLine_eq
          exact ⟨a0, b0, rfl, by omega, h2 F1 H1 b1 Stp.refl (by rw [List.length_map, List.length_range]; omega) _ itOk_rng⟩
    · cases e1
  · cases e1
theorem di_enu {p pos tpos : Pos} {elts : List Expr} {kk : Nat} (hK : g.K = X.K) (hg : Gl X "enumerate") (hm : X.mg "enumerate" = none) (he : PE X e (tD g RF fe)) (hs0 : starEach [e] X.env = (false, eval e X.env) :: starEach [] X.env := by rfl) (hs : starEach [e] X.env = [(false, eval e X.env)] := by rfl) :
    PI X (.Tuple elts kk tpos) (.Call (.Name "enumerate" p) [e] [] pos) (iD g (enuI fe)) := by
  refine ⟨fun pins s σ H R I h => ?_⟩
  have h' : tCons (tD g RF fe) tNil σ H fun vs H1 => ∃ v p n1 F1, vs = [v] ∧ Bd g n1 F1 H1 ∧ Rp g.K F1 p v ∧ ∃ items, enuV p = some items ∧ (items.length ≤ sizeLine → ∀ J, ItOk g J F1 items → R J H1) := by
    obtain ⟨ρ, n, F, k, h⟩ := h
    refine ⟨ρ, n, F, k, (PO.bind h).imp fun p n1 F1 H1 b1 s1 h1 v r => ?_⟩
    obtain ⟨items, e1, h2⟩ := PO.opA h1
    exact ⟨v, p, n1, F1, rfl, b1, r, items, e1, h2 F1 H1 b1 Stp.refl⟩
  refine Call_ (ld_blt I hg hm boot_enumerate (PyProof.Rows.callWith_type1 (thn ((pa_cons he pa_nil hs0).run pos pins s σ H _ I h') fun us s1 ⟨vs, H1, I1, r1, v, p, n1, F1, ev, b1, rp, items, e1, q⟩ => ?_) hs rfl))
  subst ev
  cases rp with
  | lst ha rs =>
    cases e1
    cases r1 with
    | cons r rr =>
      cases rr
      cases r
      obtain ⟨its, rv, p', hz⟩ := I1.list (SqL.of (b1.fh _ _ ha))
      refine call_enumerate_list p'.isList fun h' he hit hsz hk => wpAny_pyIter_enum he ?_
      have I2 : Inv X pins σ H1 { s1 with heap := h' } := I1.kept (t' := s1.toks) hk
      refine ⟨s1.heap.objs.size + 1, [s1.heap.objs.size + 1, s1.heap.objs.size], _, _, H1, rfl, I2, turn_enum _ (s1.heap.objs.size + 1) s1.heap.objs.size, ⟨⟨.none, he⟩, hit, Nat.succ_ne_self _⟩, fun b hb => ?_, q (by rw [List.length_map, List.length_zipIdx, ← rs.length]; exact hz) _ (by rw [← hK]; exact itOk_enu ha rs)⟩
      have e' : b = s1.heap.objs.size + 1 ∨ b = s1.heap.objs.size := by simpa using hb
      have hle : s1.heap.objs.size ≤ b := by
        rcases e' with z | z
        · rw [z]; exact Nat.le_add_right _ _
        · rw [z]; exact Nat.le_refl _
      exact I1.fpOk hle (I1.hok.fresh hle)
  | _ => cases e1
theorem di_zip {p pos tpos : Pos} {elts : List Expr} {kk : Nat} (hK : g.K = X.K) (hg : Gl X "zip") (hm : X.mg "zip" = none) (he : PE X e (tD g RF fe)) (he2 : PE X e2 (tD g RF f2)) (hs1 : starEach [e2] X.env = (false, eval e2 X.env) :: starEach [] X.env := by rfl) (hs : starEach [e, e2] X.env = (false, eval e X.env) :: starEach [e2] X.env := by rfl)
    (hpl : (backTo pos (starEach [e2] X.env)).any (·.1) = false := by rfl) : PI X (.Tuple elts kk tpos) (.Call (.Name "zip" p) [e, e2] [] pos) (iD g (zipI fe f2)) := by
  refine ⟨fun pins s σ H R I h => ?_⟩
  have h' : tCons (tD g RF fe) (tCons (tD g RF f2) tNil) σ H fun vs H1 => ∃ v w p q n1 F1, vs = [v, w] ∧ Bd g n1 F1 H1 ∧ Rp g.K F1 p v ∧ Rp g.K F1 q w ∧ ∃ items, zipV p q = some items ∧ (items.length ≤ sizeLine → ∀ J, ItOk g J F1 items → R J H1) := by
    obtain ⟨ρ, n, F, k, h⟩ := h
    refine ⟨ρ, n, F, k, (PO.bind h).imp fun p n1 F1 H1 b1 s1 h1 v r => ⟨ρ, n1, F1, k.step b1 s1, (PO.bind h1).imp fun q n2 F2 H2 b2 s2 h2 w rw' => ?_⟩⟩
    obtain ⟨items, e1, h3⟩ := PO.opA h2
    exact ⟨v, w, p, q, n2, F2, rfl, b2, r.mono s2.ff, rw', items, e1, h3 F2 H2 b2 Stp.refl⟩
  refine Call_ (ld_blt I hg hm PyProof.Rows.boot_zip (PyProof.Rows.callWith_type1 (thn ((pa_cons he (pa_cons he2 pa_nil hs1) hs).run pos pins s σ H _ I h') fun us s1 ⟨vs, H1, I1, r1, v, w, p, q0, n1, F1, ev, b1, rp, rq, items, e1, q⟩ => ?_) hs hpl))
  subst ev
  cases rp with
  | lst ha rs =>
    cases rq with
    | lst hc rs2 =>
      cases e1
      cases r1 with
      | cons r rr =>
        cases rr with
        | cons r' rr =>
          cases rr
          cases r
          cases r'
          obtain ⟨its, rv, p1, hz1⟩ := I1.list (SqL.of (b1.fh _ _ ha))
          obtain ⟨its2, rv2, p2, _⟩ := I1.list (SqL.of (b1.fh _ _ hc))
          have la := p1.lt
          have lb := p2.lt
          refine call_zip_2 p1.isList p2.isList fun h' hz hTI hTO h1 h2 hsz hk => wpAny_pyIter_zip hz ?_
          have I2 : Inv X pins σ H1 { s1 with heap := h' } := I1.kept (t' := s1.toks) hk
          refine ⟨s1.heap.objs.size + 4, [s1.heap.objs.size + 4, s1.heap.objs.size + 2, s1.heap.objs.size + 3, s1.heap.objs.size, s1.heap.objs.size + 1], _, _, H1, rfl, I2, turn_zip (PySem.W.ktu_apart s1.heap.objs.size _ _ la lb), ⟨hz, hTI, ⟨_, _, hTO⟩, h1, h2⟩, fun c hcm => ?_, q (by rw [List.length_zipWith, ← rs.length]; omega) _ (by rw [← hK]; exact itOk_zip ha rs hc rs2)⟩
          have e' : c = s1.heap.objs.size + 4 ∨ c = s1.heap.objs.size + 2 ∨ c = s1.heap.objs.size + 3 ∨ c = s1.heap.objs.size ∨ c = s1.heap.objs.size + 1 := by simpa using hcm
          have hle : s1.heap.objs.size ≤ c := by
            rcases e' with z | z | z | z | z
            · rw [z]; exact Nat.le_add_right _ _
            · rw [z]; exact Nat.le_add_right _ _
            · rw [z]; exact Nat.le_add_right _ _
            · rw [z]; exact Nat.le_refl _
            · rw [z]; exact Nat.le_add_right _ _
          exact I1.fpOk hle (I1.hok.fresh hle)
    | _ => cases e1
  | _ => first | cases e1 | (cases rq <;> cases e1)

/-! ### targets of for and of comprehensions -/
abbrev Bnd := PV → DEnv → Option DEnv
def bNm (i : Nat) : Bnd := fun p ρ => some (ρ.set i (some (.sh p)))
def bAll : List Bnd → List PV → DEnv → Option DEnv
  | [], [], ρ => some ρ
  | b :: bs, p :: ps, ρ => (b p ρ).bind fun ρ1 => bAll bs ps ρ1
  | _, _, _ => none
def bTp (bs : List Bnd) : Bnd := fun p ρ => match p with
  | .tuple ps => if ps.length = bs.length then bAll bs ps ρ else none
  | _ => none
def DT (K : PySem.W.Frag) (t : TG) (b : Bnd) (is : List Nat) : Prop := ∀ (g : Gx) (ρ ρ' : DEnv) (n : Nat) (σ : L2.St) (F H : Hp) (p : PV) (v : V) (Q : L2.St → Hp → Prop), g.K = K → Ok g ρ n σ F H → Rp g.K F p v → b p ρ = some ρ' →
  (∀ σ', Ok g ρ' n σ' F H → (∀ (i : Nat), i ∉ is → σ'[i]? = σ[i]?) → σ'.length = σ.length → Q σ' H) → t v σ H Q
def DTL (K : PySem.W.Frag) (t : TGs) (bs : List Bnd) (is : List Nat) : Prop := ∀ (g : Gx) (ρ ρ' : DEnv) (n : Nat) (σ : L2.St) (F H : Hp) (ps : List PV) (vs : List V) (Q : L2.St → Hp → Prop), g.K = K → Ok g ρ n σ F H → Rps g.K F ps vs → bAll bs ps ρ = some ρ' →
  (∀ σ', Ok g ρ' n σ' F H → (∀ (i : Nat), i ∉ is → σ'[i]? = σ[i]?) → σ'.length = σ.length → Q σ' H) → t vs σ H Q
theorem dt_nm {K : PySem.W.Frag} (i : Nat) : DT K (gName i) (bNm i) [i] := fun g ρ ρ' n σ F H p v Q _ k r e q => by
  cases e
  exact q _ (k.set r) (fun j hj => List.getElem?_set_ne fun z => hj (by simp [z])) (by simp)
theorem dtl_nil {K : PySem.W.Frag} : DTL K gNil [] [] := fun g ρ ρ' n σ F H ps vs Q _ k r e q => by
  cases r with
  | nil =>
    cases e
    exact ⟨rfl, q _ k (fun _ _ => rfl) rfl⟩
  | cons _ _ => cases e
theorem dtl_cons {K : PySem.W.Frag} {t1 : TG} {t2 : TGs} {b : Bnd} {bs : List Bnd} {is js : List Nat} (q1 : DT K t1 b is) (q2 : DTL K t2 bs js) : DTL K (gCons t1 t2) (b :: bs) (is ++ js) := fun g ρ ρ' n σ F H ps vs Q hK k r e q => by
  cases r with
  | nil => cases e
  | cons r rs =>
    rename_i d v ds vs'
    have e : (b d ρ).bind (fun ρ1 => bAll bs ds ρ1) = some ρ' := e
    cases eb : b d ρ with
    | none => rw [eb] at e; cases e
    | some ρ1 =>
      rw [eb] at e
      exact ⟨_, _, rfl, q1 g ρ ρ1 n σ F H d v _ hK k r eb fun σ1 k1 n1 l1 => q2 g ρ1 ρ' n σ1 F H ds vs' Q hK k1 rs e fun σ2 k2 n2 l2 => q σ2 k2 (fun i hi => by
        rw [n2 i fun z => hi (List.mem_append_right _ z), n1 i fun z => hi (List.mem_append_left _ z)]) (l2.trans l1)⟩
theorem dt_tp {K : PySem.W.Frag} {t : TGs} {bs : List Bnd} {is : List Nat} {m : Nat} (hm : m = bs.length) (q : DTL K t bs is) : DT K (gTup K m t) (bTp bs) is := fun g ρ ρ' n σ F H p v Q hK k r e q' => by
  unfold bTp at e
  cases r with
  | tup ha rs =>
    rename_i a vs ds
    have e : (if ds.length = bs.length then bAll bs ds ρ else none) = some ρ' := e
    by_cases hl : ds.length = bs.length
    · rw [if_pos hl] at e
      exact ⟨_, _, rfl, by rw [← hK]; exact k.bd.fh.sqT ha, by rw [rs.length, hm]; exact hl, q g ρ ρ' n σ F H ds vs Q hK k rs e q'⟩
    · rw [if_neg hl] at e
      cases e
  | _ => cases e

/-! ### for -/
def forL (b : Bnd) (body : MS) : List PV → DEnv → Nat → SOut
  | [], ρ, n => .next ρ n
  | p :: ps, ρ, n => match b p ρ with
    | none => .stuck
    | some ρ1 => match body ρ1 n with
      | .next ρ2 n2 => forL b body ps ρ2 n2
      | .cont ρ2 n2 => forL b body ps ρ2 n2
      | .brk ρ2 n2 => .next ρ2 n2
      | o => o
def forS (it : MA) (b : Bnd) (body : MS) : MS := fun ρ n => ofE (it ρ n) ρ fun items n1 => forL b body items ρ n1
theorem ds_for {iter : Expr} {body : List Stmt} {it : MA} {b : Bnd} {is : List Nat} {fb : MS} {t : TG} {pos : Pos} (hK : g.K = X.K) (hp : PassesOwn (model X.prog X.w) X.A X.env X.xe) (hc : X.calm = true) (hi : PI X tg iter (iD g it)) (pg : PG X tg t) (qg : DT X.K t b is) (hb : PSs X body (tDS g fb))
    (hs : ∀ x, foldedSetIterable iter X.env x = pure x := by intro _; rfl) : PS X (.For tg iter body [] pos) (tDS g (forS it b fb)) := by
  refine ps_imp (ps_for hp hc hi pg hb hs) fun D σ H ⟨ρ, n, F, k, h⟩ => ⟨ρ, n, F, k, (SO.ofE k h).imp fun items n1 F1 H1 b1 s1 q hz J hJ => ?_⟩
  refine ⟨fun i m σ H => ∃ ρ n F, Ok g ρ n σ F H ∧ Sub F1 F ∧ m = items.length - i ∧ i ≤ items.length ∧ SO g F1 D (forL b fb (items.drop i) ρ n), ⟨_, ρ, n1, F1, k.step b1 s1, Sub.refl _, rfl, Nat.zero_le _, q.mono s1.ff⟩, ?_⟩
  rintro i m σ2 H2 ⟨ρ2, n2, F2, k2, sb, rfl, hi2, q2⟩
  by_cases hlt : i < items.length
  · refine .inr ⟨hJ.go i n2 F2 H2 k2.bd sb hlt, fun σ' H' => ∃ ρ n F, Ok g ρ n σ' F H' ∧ Sub F1 F ∧ SO g F1 D (forL b fb (items.drop (i + 1)) ρ n), fun σ' H' ⟨ρ', n', F', k', s', q'⟩ => ⟨items.length - (i + 1), by omega, ρ', n', F', k', s', rfl, hlt, q'⟩, fun x H' y => ?_⟩
    have ep : items[i]? = some items[i] := List.getElem?_eq_getElem hlt
    obtain ⟨F3, b3, s3, r3⟩ := hJ.yld i n2 F2 H2 x H' _ k2.bd sb ep y
    rw [List.drop_eq_getElem_cons hlt] at q2
    unfold forL at q2
    have k3 := k2.step b3 s3
    cases eb : b items[i] ρ2 with
    | none => rw [eb] at q2; exact q2.elim
    | some ρ3 =>
      rw [eb] at q2
      refine qg g ρ2 ρ3 n2 σ2 F3 H' _ x _ hK k3 r3 eb fun σ3 k4 _ _ => ⟨ρ3, n2, F3, k4, ?_⟩
      have s13 := sb.trans s3.ff
      cases ef : fb ρ3 n2 with
      | next ρ4 n4 =>
        simp only [ef] at q2
        exact fun σ' F' H' k' s' => ⟨ρ4, n4, F', k', s13.trans s', q2⟩
      | cont ρ4 n4 =>
        simp only [ef] at q2
        exact fun σ' F' H' k' s' => ⟨ρ4, n4, F', k', s13.trans s', q2⟩
      | brk ρ4 n4 =>
        simp only [ef] at q2
        exact fun σ' F' H' k' s' => q2 σ' F' H' k' (s13.trans s')
      | ret p n4 => simp only [ef] at q2; exact q2
      | exc x ρ4 n4 => simp only [ef] at q2; exact q2
      | stuck => simp only [ef] at q2; exact q2
  · have e : i = items.length := by omega
    subst e
    rw [List.drop_length] at q2
    exact .inl ⟨hJ.stop _ n2 F2 H2 k2.bd sb (Nat.le_refl _), q2 σ2 F2 H2 k2 sb⟩

/-! ### while: so many turns at most -/
def whL (c : MB) (body : MS) : Nat → DEnv → Nat → SOut
  | 0, _, _ => .stuck
  | m + 1, ρ, n => ofE (c ρ n) ρ fun d n1 => if d = true then (match body ρ n1 with
      | .next ρ2 n2 => whL c body m ρ2 n2
      | .cont ρ2 n2 => whL c body m ρ2 n2
      | .brk ρ2 n2 => .next ρ2 n2
      | o => o) else .next ρ n1
def whS (fuel : Nat) (c : MB) (body : MS) : MS := fun ρ n => whL c body fuel ρ n
theorem ds_while {c : Expr} {body : List Stmt} {fc : MB} {fb : MS} {fuel : Nat} {pos : Pos} (hp : PassesOwn (model X.prog X.w) X.A X.env X.xe) (hc : PT X c (tDB g fc)) (hb : PSs X body (tDS g fb)) : PS X (.While c body [] pos) (tDS g (whS fuel fc fb)) := by
  refine ps_imp (ps_while hp hc hb) fun D σ H ⟨ρ, n, F, k, h⟩ => ?_
  refine ⟨fun m σ H => ∃ ρ n F', Ok g ρ n σ F' H ∧ Sub F F' ∧ SO g F D (whL fc fb m ρ n), ⟨fuel, ρ, n, F, k, Sub.refl _, h⟩, ?_⟩
  rintro m σ2 H2 ⟨ρ2, n2, F2, k2, sb, q2⟩
  cases m with
  | zero => exact q2.elim
  | succ m =>
    unfold whL at q2
    refine ⟨ρ2, n2, F2, k2, (SO.ofE k2 q2).imp fun d n3 F3 H3 b3 s3 q3 => ?_⟩
    have k3 := k2.step b3 s3
    have s03 := sb.trans s3.ff
    cases d with
    | false =>
      rw [if_neg Bool.false_ne_true] at q3
      exact iteF (q3 σ2 F3 H3 k3 s03)
    | true =>
      rw [if_pos rfl] at q3
      refine iteT ⟨fun σ' H' => ∃ ρ n F', Ok g ρ n σ' F' H' ∧ Sub F F' ∧ SO g F D (whL fc fb m ρ n), fun σ' H' w => ⟨m, Nat.lt_succ_self _, w⟩, ρ2, n3, F3, k3, ?_⟩
      cases ef : fb ρ2 n3 with
      | next ρ4 n4 =>
        simp only [ef] at q3
        exact fun σ' F' H' k' s' => ⟨ρ4, n4, F', k', s03.trans s', q3⟩
      | cont ρ4 n4 =>
        simp only [ef] at q3
        exact fun σ' F' H' k' s' => ⟨ρ4, n4, F', k', s03.trans s', q3⟩
      | brk ρ4 n4 =>
        simp only [ef] at q3
        exact fun σ' F' H' k' s' => q3 σ' F' H' k' (s03.trans s')
      | ret p n4 => simp only [ef] at q3; exact q3
      | exc x ρ4 n4 => simp only [ef] at q3; exact q3
      | stuck => simp only [ef] at q3; exact q3
end
end DL
set_option Elab.async false
set_option linter.all false
set_option maxRecDepth 100000
set_option maxHeartbeats 1000000
/-! DH: the D layer: list comprehensions, calls of defs, bodies of defs -/
namespace DL
open PySem PySem.Spec PyProof.Rows L2

/-- the same, no exception may leave -/
abbrev Gx.q (g : Gx) : Gx := { g with W := fun _ _ _ _ => False }
section
variable {g : Gx} {ρ : DEnv} {n : Nat} {σ : L2.St} {F H F' H' : Hp}
theorem Bd.q (b : Bd g n F H) : Bd g.q n F H := ⟨b.fh, b.sub, b.kept, b.was, b.tab, b.box⟩
theorem Bd.unq (b : Bd g.q n F H) : Bd g n F H := ⟨b.fh, b.sub, b.kept, b.was, b.tab, b.box⟩
theorem Stp.q (b : Stp g F H F' H') : Stp g.q F H F' H' := ⟨b.ff, b.hh, b.fz⟩
theorem Stp.unq (b : Stp g.q F H F' H') : Stp g F H F' H' := ⟨b.ff, b.hh, b.fz⟩
theorem Ok.q (k : Ok g ρ n σ F H) : Ok g.q ρ n σ F H := ⟨k.bd.q, fun i sv e => by
  obtain ⟨v, h1, h2⟩ := k.sl i sv e
  refine ⟨v, h1, ?_⟩
  cases sv <;> exact h2, k.ap, k.len⟩
end
def noX {α : Type} (o : Out α) : Out α := match o with
  | .exc _ _ => .stuck
  | o => o
@[simp] theorem noX_ok {α : Type} (a : α) (n : Nat) : noX (Out.ok a n) = .ok a n := rfl
@[simp] theorem noX_exc {α : Type} (x : Xn) (n : Nat) : noX (Out.exc x n : Out α) = .stuck := rfl
@[simp] theorem noX_stuck {α : Type} : noX (Out.stuck : Out α) = .stuck := rfl
def wipeE (ρ : DEnv) : List Nat → DEnv
  | [] => ρ
  | v :: vs => (wipeE ρ vs).set v none
def yes : MB := fun _ n => .ok true n
def lcL (b : Bnd) (tt : MB) (elt : M) (ρ0 : DEnv) : List PV → Nat → Out (List PV)
  | [], n => .ok [] n
  | p :: ps, n => match b p ρ0 with
    | none => .stuck
    | some ρ1 => (tt ρ1 n).bind fun d n1 => if d = true then (elt ρ1 n1).bind fun q n2 => (lcL b tt elt ρ0 ps n2).bind fun qs n3 => .ok (q :: qs) n3 else lcL b tt elt ρ0 ps n1
def lcM (it : MA) (b : Bnd) (tt : MB) (elt : M) (vs : List Nat) : M := fun ρ n => (it ρ n).bind fun items n1 => (noX (lcL b tt elt (wipeE ρ vs) items n1)).bind fun qs n2 => .ok (.list qs) n2
theorem Ok.wipe {g : Gx} {ρ : DEnv} {n : Nat} {σ : L2.St} {F H : Hp} (k : Ok g ρ n σ F H) : ∀ vs : List Nat, Ok g (wipeE ρ vs) n (wipe σ vs) F H
  | [] => k
  | v :: vs => (Ok.wipe k vs).forget
theorem wipe_in {σ : L2.St} : ∀ {vs : List Nat} {j : Nat}, j ∈ vs → (wipe σ vs)[j]? = if j < σ.length then some none else none
  | v :: vs, j, h => by
    show ((wipe σ vs).set v none)[j]? = _
    by_cases e : v = j
    · subst e
      rw [List.getElem?_set_self']
      by_cases hl : v < σ.length
      · rw [if_pos hl, List.getElem?_eq_getElem (by rw [wipe_length]; exact hl)]
        rfl
      · rw [if_neg hl, List.getElem?_eq_none (by rw [wipe_length]; omega)]
        rfl
    · rw [List.getElem?_set_ne e]
      exact wipe_in (List.mem_of_ne_of_mem (fun z => e z.symm) h)
theorem wipe_out {σ : L2.St} : ∀ {vs : List Nat} {j : Nat}, j ∉ vs → (wipe σ vs)[j]? = σ[j]?
  | [], _, _ => rfl
  | v :: vs, j, h => by
    show ((wipe σ vs).set v none)[j]? = _
    rw [List.getElem?_set_ne fun e => h (by simp [e])]
    exact wipe_out fun z => h (List.mem_cons_of_mem _ z)
theorem wipe_eq {σ τ : L2.St} {vs is : List Nat} (hl : τ.length = (wipe σ vs).length) (ho : ∀ (i : Nat), i ∉ is → τ[i]? = (wipe σ vs)[i]?) (hs : ∀ i ∈ is, i ∈ vs) : wipe τ vs = wipe σ vs := by
  apply List.ext_getElem?
  intro j
  rw [wipe_length] at hl
  by_cases h : j ∈ vs
  · rw [wipe_in h, wipe_in h, hl]
  · rw [wipe_out h, ho j fun z => h (hs j z), wipe_out h]
/-- an object of one's own is written -/
theorem Bd.wr {g : Gx} {n : Nat} {F H : Hp} (b : Bd g n F H) {a : Addr} {o : HO} (h0 : g.H0 a = none) (fa : F a = none) : Bd g n F (upd H a o) := by
  have nod := b.notOdd h0
  have nf : ∀ c u, F c = some u → c ≠ a := fun c u q z => by
    subst z
    rw [fa] at q
    cases q
  refine ⟨fun c u q => ?_, b.sub, fun c u q z => ?_, b.was, fun P hP => ?_, fun B R e2 => ?_⟩
  · rw [upd_ne (nf c u q)]
    exact b.fh c u q
  · have hc : c ≠ a := fun z2 => by
      subst z2
      rw [h0] at q
      cases q
    rw [upd_ne hc]
    exact b.kept c u q z
  · have hc : P ≠ a := fun z2 => by
      subst z2
      exact nod (.inl hP)
    obtain ⟨⟨ps, t1, t2⟩, t3⟩ := b.tab P hP
    exact ⟨⟨ps, by rw [upd_ne hc]; exact t1, t2⟩, t3⟩
  · obtain ⟨q1, q2, r, q3, q4⟩ := b.box B R e2
    have hc : B ≠ a := fun z2 => by
      subst z2
      exact nod (.inr ⟨R, e2⟩)
    exact ⟨q1, q2, r, by rw [upd_ne hc]; exact q3, q4⟩
theorem Out.bind_ok_inv {α β : Type} {o : Out α} {f : α → Nat → Out β} {c : β} {n : Nat} (h : o.bind f = .ok c n) : ∃ a m, o = .ok a m ∧ f a m = .ok c n := by
  cases o with
  | ok a m => exact ⟨a, m, rfl, h⟩
  | exc x m => cases h
  | stuck => cases h
section
variable {X : Cx} {g : Gx} {elt tg iter : Expr} {ifs : List Expr} {scope : Scope} {own : List (Str × Nat)} {pos : Pos} {it : MA} {b : Bnd} {is : List Nat} {ft : MB} {fe : M} {t : TG}
theorem tLc_of (hK : g.K = X.K) {vs : List Nat} (hsub : ∀ i ∈ is, i ∈ vs)
    (qg : ∀ (g : Gx) (ρ ρ' : DEnv) (n : Nat) (σ : L2.St) (F H : Hp) (p : PV) (v : V) (Q : L2.St → Hp → Prop), g.K = X.K → Ok g ρ n σ F H → Rp g.K F p v → b p ρ = some ρ' → (∀ σ', Ok g ρ' n σ' F H → (∀ (i : Nat), i ∉ is → σ'[i]? = σ[i]?) → σ'.length = σ.length → Q σ' H) → t v σ H Q)
    {σ : L2.St} {H : Hp} {Q : VK} (h : tD g RO (lcM it b ft fe vs) σ H Q) : tLc (iD g it) t (tDB g.q ft) (tD g.q RF fe) vs σ H Q := by
  obtain ⟨ρ, n, F, k, h⟩ := h
  refine ⟨ρ, n, F, k, (PO.bind h).imp fun items n1 F1 H1 b1 s1 q hz J hJ D hD => ?_⟩
  have hD0 := h0_of b1 s1 hD
  have nodd := b1.notOdd (b1.new0 hD)
  obtain ⟨qs, n3, e, q⟩ : ∃ qs n3, lcL b ft fe (wipeE ρ vs) items n1 = .ok qs n3 ∧ ∀ F' H', Bd g n3 F' H' → Stp g F1 H1 F' H' → ∀ v, RO g F H F' H' (.list qs) v → Q v H' := by
    cases e : lcL b ft fe (wipeE ρ vs) items n1 with
    | ok qs n3 => rw [e] at q; exact ⟨qs, n3, rfl, q⟩
    | exc x n3 => rw [e] at q; exact q.elim
    | stuck => rw [e] at q; exact q.elim
  refine ⟨fun i m H2 => ∃ n2 F2 ps acc rs, Bd g n2 F2 H2 ∧ Stp g F1 H1 F2 H2 ∧ m = items.length - i ∧ i ≤ items.length ∧ H2 D = some (.lst acc) ∧ F2 D = none ∧ Rps g.K F2 ps acc ∧ ps.length ≤ i ∧
    lcL b ft fe (wipeE ρ vs) (items.drop i) n2 = .ok rs n3 ∧ qs = ps ++ rs, ⟨_, n1, F1, [], [], qs, b1.newH hD, Stp.newH hD, rfl, Nat.zero_le _, upd_same, hD0.2, .nil, Nat.zero_le _, e, rfl⟩, ?_⟩
  rintro i m H2 ⟨n2, F2, ps, acc, rs, b2, s2, rfl, hi, hacc, fD, rr, hlen, e2, eq⟩
  by_cases hlt : i < items.length
  · refine .inr ⟨hJ.go i n2 F2 H2 b2 s2.ff hlt, fun H' => ∃ n2 F2 ps acc rs, Bd g n2 F2 H' ∧ Stp g F1 H1 F2 H' ∧ H' D = some (.lst acc) ∧ F2 D = none ∧ Rps g.K F2 ps acc ∧ ps.length ≤ i + 1 ∧ lcL b ft fe (wipeE ρ vs) (items.drop (i + 1)) n2 = .ok rs n3 ∧ qs = ps ++ rs,
      fun H' ⟨n', F', ps', acc', rs', c1, c2, c3, c4, c5, c6, c7, c8⟩ => ⟨items.length - (i + 1), by omega, n', F', ps', acc', rs', c1, c2, rfl, hlt, c3, c4, c5, c6, c7, c8⟩, fun x H3 y => ?_⟩
    have ep : items[i]? = some items[i] := List.getElem?_eq_getElem hlt
    obtain ⟨F3, b3, s3, r3⟩ := hJ.yld i n2 F2 H2 x H3 _ b2 s2.ff ep y
    rw [List.drop_eq_getElem_cons hlt] at e2
    unfold lcL at e2
    have s13 := s2.trans b2 s3
    have k3 := (k.step b3 ((s1.trans b1 s13))).wipe vs
    cases eb : b items[i] (wipeE ρ vs) with
    | none => rw [eb] at e2; cases e2
    | some ρ3 =>
      rw [eb] at e2
      obtain ⟨d, n4, et, e4⟩ := Out.bind_ok_inv e2
      refine qg g.q (wipeE ρ vs) ρ3 n2 (wipe σ vs) F3 H3 _ x _ hK k3.q r3 eb fun σ2 k4 ho hl => ⟨wipe_eq hl ho hsub, ρ3, n2, F3, k4, ?_⟩
      rw [et]
      intro F4 H4 b4 s4
      have k5 := k4.step b4 s4
      have b4' := b4.unq
      have s4' := s4.unq
      have hD3 := s3.hh D _ hacc nodd
      have fD3 : F3 D = none := (s3.fz D _ hacc).trans fD
      have hD4 := s4'.hh D _ hD3 nodd
      have fD4 : F4 D = none := (s4'.fz D _ hD3).trans fD3
      cases d with
      | false =>
        rw [if_neg Bool.false_ne_true] at e4
        exact iteF ⟨n4, F4, ps, acc, rs, b4', s13.trans b3 s4', hD4, fD4, (rr.mono s3.ff).mono s4'.ff, Nat.le_succ_of_le hlen, e4, eq⟩
      | true =>
        rw [if_pos rfl] at e4
        obtain ⟨qv, n5, ee, e5⟩ := Out.bind_ok_inv e4
        obtain ⟨rs', n6, er, e6⟩ := Out.bind_ok_inv e5
        cases e6
        refine iteT ⟨ρ3, n4, F4, k5, ?_⟩
        rw [ee]
        intro F5 H5 b5 s5 v rv
        have b5' := b5.unq
        have s5' := s5.unq
        have hD5 := s5'.hh D _ hD4 nodd
        have fD5 : F5 D = none := (s5'.fz D _ hD4).trans fD4
        have hal : acc.length = ps.length := rr.length
        refine ⟨acc, hD5, by omega, n5, F5, ps ++ [qv], acc ++ [v], rs', b5'.wr (b1.new0 hD) fD5, ?_, upd_same, fD5, (((rr.mono s3.ff).mono s4'.ff).mono s5'.ff).append (.cons rv .nil), by rw [List.length_append]; simp only [List.length_cons, List.length_nil]; omega, er, by rw [eq, List.append_assoc]; rfl⟩
        have s15 := (s13.trans b3 s4').trans b4' s5'
        refine ⟨s15.ff, fun c u hc od => ?_, s15.fz⟩
        have hcD : c ≠ D := fun z => by
          subst z
          rw [hD] at hc
          cases hc
        rw [upd_ne hcD]
        exact s15.hh c u hc od
  · have e0 : i = items.length := by omega
    subst e0
    rw [List.drop_length] at e2
    cases e2
    rw [List.append_nil] at eq
    subst eq
    exact .inl ⟨hJ.stop _ _ F2 H2 b2 s2.ff (Nat.le_refl _), q F2 H2 b2 s2 (.ref D) ⟨D, rfl, hD0.1, fD, acc, hacc, rr⟩⟩

/-- what a comprehension's block is: for each block's context -/
structure LcP (X : Cx) (g : Gx) (elt tg : Expr) (ifs : List Expr) (scope : Scope) (own : List (Str × Nat)) (b : Bnd) (ft : MB) (fe : M) : Prop where
  blk : BlkOk X.N X.env.scope scope own
  tg : ∃ (t : TG) (is : List Nat), (∀ i ∈ is, i ∈ own.map (·.2)) ∧ (∀ (s : Shared) (H : Hp) (C : Addr) (cl : List (Str × Addr)) (fp : List Addr), PG (X.blk s H scope (compEnvC scope cl C X.env) fp) tg t) ∧ DT X.K t b is
  ts : ∀ (s : Shared) (H : Hp) (C : Addr) (cl : List (Str × Addr)) (fp : List Addr), PTs (X.blk s H scope (compEnvC scope cl C X.env) fp) ifs (tDB g.q ft)
  el : ∀ (s : Shared) (H : Hp) (C : Addr) (cl : List (Str × Addr)) (fp : List Addr), PE (X.blk s H scope (compEnvC scope cl C X.env) fp) elt (tD g.q RF fe)
theorem do_lc (hK : g.K = X.K) (hc : X.calm = true) (hN : X.N.Nodup) (hi : PI X tg iter (iD g it)) (L : LcP X g elt tg ifs scope own b ft fe) (hs : ∀ x, foldedSetIterable iter X.env x = pure x := by intro _; rfl) :
    PE X (.ListComp elt [⟨tg, iter, ifs, 0⟩] scope pos) (tD g RO (lcM it b ft fe (own.map (·.2)))) := by
  obtain ⟨t, is, h1, h2, h3⟩ := L.tg
  exact pe_imp (pe_lc hc hN hi L.blk h2 L.ts L.el hs) fun σ H Q => tLc_of hK h1 h3
theorem ds_ownLc {i : Nat} {y : Str} {py spos : Pos} (hK : g.K = X.K) (hc : X.calm = true) (hN : X.N.Nodup) (hy : X.N[i]? = some y) (hyl : X.env.scope.names.lookup y = some .local)
    (hsw : swapsWith (.ListComp elt [⟨tg, iter, ifs, 0⟩] scope pos) (some (.Name y py)) spos.line X.env = pure true) (hi : PI X tg iter (iD g it)) (L : LcP X g elt tg ifs scope own b ft fe) (hs : ∀ x, foldedSetIterable iter X.env x = pure x := by intro _; rfl) :
    PS X (.Assign [.Name y py] (.ListComp elt [⟨tg, iter, ifs, 0⟩] scope pos) spos) (tDS g (ownS i (lcM it b ft fe (own.map (·.2))))) := by
  obtain ⟨t, is, h1, h2, h3⟩ := L.tg
  exact ps_imp (ps_setLc hc hN hy hyl hsw hi L.blk h2 L.ts L.el hs) fun D σ H ⟨ρ, n, F, k, h⟩ => tLc_of hK h1 h3 ⟨ρ, n, F, k, (SO.ofE k h).imp fun p n1 F1 H1 b1 s1 q v r => by
    obtain ⟨a, rfl, h1, h2, h3⟩ := r
    exact q _ F1 H1 (k.own b1 s1 h1 h2 h3) s1.ff⟩
theorem ds_setLc {i : Nat} {y : Str} {py spos : Pos} (hK : g.K = X.K) (hc : X.calm = true) (hN : X.N.Nodup) (hy : X.N[i]? = some y) (hyl : X.env.scope.names.lookup y = some .local)
    (hsw : swapsWith (.ListComp elt [⟨tg, iter, ifs, 0⟩] scope pos) (some (.Name y py)) spos.line X.env = pure true) (hi : PI X tg iter (iD g it)) (L : LcP X g elt tg ifs scope own b ft fe) (hs : ∀ x, foldedSetIterable iter X.env x = pure x := by intro _; rfl) :
    PS X (.Assign [.Name y py] (.ListComp elt [⟨tg, iter, ifs, 0⟩] scope pos) spos) (tDS g (setS i (lcM it b ft fe (own.map (·.2))))) := by
  obtain ⟨t, is, h1, h2, h3⟩ := L.tg
  exact ps_imp (ps_setLc hc hN hy hyl hsw hi L.blk h2 L.ts L.el hs) fun D σ H ⟨ρ, n, F, k, h⟩ => tLc_of hK h1 h3 (tD_OF ⟨ρ, n, F, k, (SO.ofE k h).imp fun p n1 F1 H1 b1 s1 q v r => q _ F1 H1 ((k.step b1 s1).set r) s1.ff⟩)
theorem dts_nil {X : Cx} {g : Gx} : PTs X [] (tDB g yes) := ⟨fun pins s σ H Q I ⟨ρ, n, F, k, h⟩ => pts_nil.run pins s σ H Q I (h F H k.bd Stp.refl)⟩
theorem dts_one {X : Cx} {g : Gx} {c : Expr} {f : MB} (h : PT X c (tDB g f)) : PTs X [c] (tDB g f) := pts_one h
end

/-! ### defs -/
/-- what stands of a def's end -/
structure Fin (T : List Addr) (F0 H0 F H : Hp) : Prop where
  ff : Sub F0 F
  fh : Sub F H
  hh : ∀ a o, H0 a = some o → a ∉ T → H a = some o
  fz : ∀ a o, H0 a = some o → F a = F0 a
  tab : ∀ P ∈ T, GxR.TabG H P ∧ F P = none
def SpD (K : PySem.W.Frag) (mg : Str → Option Value) (T : List Addr) (f : List PV → FOut) (m : Nat) : Sp := fun vs H Q E => vs.length = m ∧ ∃ ps F0, Sub F0 H ∧ (∀ P ∈ T, GxR.TabG H P ∧ F0 P = none) ∧ Rps K F0 ps vs ∧ match f ps with
  | .ok p => ∀ v F' H', Fin T F0 H F' H' → Rp K F' p v → Q v H'
  | .exc x => ∀ cls d F' H', Fin T F0 H F' H' → XnOk K mg x cls d F' H' → E cls d H'
  | .stuck => False
/-- a def of the text that computes f -/
structure FD (P : Program) (w : World) (K : PySem.W.Frag) (mg : Str → Option Value) (base : Heap) (T : List Addr) (k : Nat) (x : Str) (m : Nat) (f : List PV → FOut) : Prop where
  ex : ∃ (a : Addr) (fd : FuncData) (ps : List Str), FnOk P w K mg base (L2.CX P w) k a fd ps (SpD K mg T f m) ∧ mg x = some (.ref a) ∧ PySem.W.keepIn K (.ref a) = true ∧ Binds K fd ps []
def ofF (o : FOut) (n : Nat) : Out PV := match o with
  | .ok p => .ok p n
  | .exc x => .exc x n
  | .stuck => .stuck
@[simp] theorem ofF_ok (p : PV) (n : Nat) : ofF (.ok p) n = .ok p n := rfl
@[simp] theorem ofF_exc (x : Xn) (n : Nat) : ofF (.exc x) n = .exc x n := rfl
@[simp] theorem ofF_stuck (n : Nat) : ofF .stuck n = .stuck := rfl
def callM (m : Nat) (f : List PV → FOut) (fa : MA) : M := fun ρ n => (fa ρ n).bind fun ps n1 => if ps.length = m then ofF (f ps) n1 else .stuck
section
variable {X : Cx} {g : Gx} {T : List Addr} {e : Expr} {es : List Expr} {f : List PV → FOut} {fa : MA} {k m : Nat} {x : Str} {p pos : Pos} {n : Nat} {F H F' H' : Hp}
theorem Bd.fin (b : Bd g n F H) (q : Fin g.T F H F' H') : Bd g n F' H' ∧ Stp g F H F' H' := by
  refine ⟨⟨q.fh, b.sub.trans q.ff, fun a o h od => ?_, b.was, q.tab, fun B R e => ?_⟩, q.ff, fun a o h od => q.hh a o h fun z => od (.inl z), q.fz⟩
  · obtain ⟨h1, h2⟩ := b.kept a o h od
    exact ⟨q.hh a o h1 fun z => od (.inl z), (q.fz a o h1).trans h2⟩
  · obtain ⟨h1, h2, r, h3, h4⟩ := b.box B R e
    exact ⟨h1, (q.fz B _ h3).trans h2, r, q.hh B _ h3 h1, q.ff r _ h4⟩
theorem tCall_of {σ : L2.St} {H : Hp} {Q : VK} (h : tD g RF (callM m f fa) σ H Q) : tCallS (SpD g.K g.mg g.T f m) (WE g.W) (tDA g fa) σ H Q := by
  obtain ⟨ρ, n, F, k, h⟩ := h
  refine ⟨ρ, n, F, k, (PO.bind h).imp fun ps n1 F1 H1 b1 s1 q vs rs => ?_⟩
  by_cases hm : ps.length = m
  · rw [if_pos hm] at q
    refine ⟨by rw [rs.length]; exact hm, ps, F1, b1.fh, b1.tab, rs, ?_⟩
    cases e : f ps with
    | ok p =>
      rw [e] at q
      intro v F' H' fin r
      obtain ⟨b', s'⟩ := b1.fin fin
      exact q F' H' b' s' v r
    | exc x =>
      rw [e] at q
      intro cls d F' H' fin r
      obtain ⟨b', s'⟩ := b1.fin fin
      exact q cls d F' H' b' s' r
    | stuck => rw [e] at q; exact q.elim
  · rw [if_neg hm] at q
    exact q.elim
/-- what the context has of the module: one row for all calls -/
structure Mo (X : Cx) (g : Gx) (k : Nat) : Prop where
  hK : g.K = X.K
  hm : g.mg = X.mg
  hr : Room k X.A
  tk : Takes X g.W
theorem de_call {j : Nat} (mo : Mo X g k) (fd : FD X.prog X.w X.K X.mg X.base g.T j x m f) (hj : j ≤ k) (hg : Gl X x) (ha : PA X (e :: es) (tDA g fa)) (hdb : (x == ("__debug__" : Str)) = false := by decide) (he : starEach (e :: es) X.env = (false, eval e X.env) :: starEach es X.env := by rfl) (hpl : (backTo pos (starEach es X.env)).any (·.1) = false := by rfl) :
    PE X (.Call (.Name x p) (e :: es) [] pos) (tD g RF (callM m f fa)) := by
  obtain ⟨a, fdd, ps, F, h1, h2, h3⟩ := fd.ex
  refine pe_imp (pe_callS F (mo.hr.mono hj) hg h1 h2 h3 (fun σ => passAt mo.tk σ) ha hdb he hpl) fun σ H Q h => ?_
  have := tCall_of h
  rw [mo.hK, mo.hm] at this
  exact this
theorem de_call0 {j : Nat} (mo : Mo X g k) (fd : FD X.prog X.w X.K X.mg X.base g.T j x 0 f) (hj : j ≤ k) (hg : Gl X x) (hdb : (x == ("__debug__" : Str)) = false := by decide) : PE X (.Call (.Name x p) [] [] pos) (tD g RF (fun ρ n => noX (callM 0 f nilA ρ n))) := by
  obtain ⟨a, fdd, ps, F, h1, h2, h3⟩ := fd.ex
  refine pe_imp (pe_call0 F (mo.hr.mono hj) hg h1 h2 h3 .nil passL hdb) fun σ H Q ⟨ρ, n, F, k, h⟩ => ?_
  show SpD X.K X.mg g.T f 0 [] H Q E0
  rw [← mo.hK, ← mo.hm]
  refine ⟨rfl, [], F, k.bd.fh, k.bd.tab, .nil, ?_⟩
  have h : PO g F H σ (noX (ofF (f []) n)) _ := h
  cases e : f [] with
  | ok p =>
    rw [e] at h
    intro v F' H' fin r
    obtain ⟨b', s'⟩ := k.bd.fin fin
    exact h F' H' b' s' v r
  | exc x => rw [e] at h; exact h.elim
  | stuck => rw [e] at h; exact h.elim
end
/-! ### the body of a def -/
def envOf (m N : Nat) (ps : List PV) : DEnv := ps.map (fun p => some (.sh p)) ++ List.replicate (N - m) none
def runS (o : SOut) : FOut := match o with
  | .next _ _ => .ok .none
  | .ret p _ => .ok p
  | .exc x _ _ => .exc x
  | _ => .stuck
@[simp] theorem runS_next (ρ : DEnv) (n : Nat) : runS (.next ρ n) = .ok .none := rfl
@[simp] theorem runS_ret (p : PV) (n : Nat) : runS (.ret p n) = .ok p := rfl
@[simp] theorem runS_exc (x : Xn) (ρ : DEnv) (n : Nat) : runS (.exc x ρ n) = .exc x := rfl
def defF (m N : Nat) (f : MS) (ps : List PV) : FOut := runS (f (envOf m N ps) 0)
theorem getE_env {m N : Nat} {ps : List PV} {i : Nat} {sv : SV} (h : (envOf m N ps)[i]? = some (some sv)) : ∃ p, ps[i]? = some p ∧ sv = .sh p := by
  unfold envOf at h
  by_cases hi : i < ps.length
  · rw [List.getElem?_append_left (by simpa using hi), List.getElem?_map] at h
    rw [List.getElem?_eq_getElem hi] at h ⊢
    cases h
    exact ⟨_, rfl, rfl⟩
  · rw [List.getElem?_append_right (by simpa using hi), List.getElem?_replicate] at h
    split at h <;> cases h
theorem fd_of {P : Program} {w : World} {K : PySem.W.Frag} {mg : Str → Option Value} {base : Heap} {T : List Addr} {x : Str} {st : Stmt} {a : Addr} {fdd : FuncData} {N ps : List Str} {k : Nat} {f : MS} (Fn : Fun K x x st a fdd) (S : FnScope N ps (defScope st)) (hg : mg x = some (.ref a)) (hb : Binds K fdd ps [])
    (hbody : ∀ (cdv : Value) (A : Around) (outer : List Env) (s : Shared) (H F0 : Hp) (E : XK), Room k (A.deeper (envOfC x (defScope st) s.heap.objs.size a cdv)) →
      PSs (cxOf (L2.CX P w) P w K mg base N x (defScope st) a cdv A outer s H E) (defBody st) (tDS ⟨K, mg, T, F0, H, fun cls d _ H => E cls d H, none⟩ f)) : FD P w K mg base T (k + 1) x ps.length (defF ps.length N.length f) := by
  refine ⟨a, fdd, ps, Fn.okX S (fun vs H Q E h => h.1) (fun cdv A outer s H vs Q E hr h => ?_), hg, Fn.kp, hb⟩
  obtain ⟨hl, ds, F0, fh, tab, rs, h⟩ := h
  refine ⟨_, hbody cdv A outer s H F0 E hr, ?_⟩
  have hds : ds.length = ps.length := by rw [← rs.length]; exact hl
  have hN : ps.length ≤ N.length := by
    have := S.pre
    have h2 := congrArg List.length this
    rw [List.length_take] at h2
    omega
  have odd : ∀ a, Gx.odd ⟨K, mg, T, F0, H, fun cls d _ H => E cls d H, none⟩ a → a ∈ T := fun a h => by
    rcases h with h | ⟨R, h⟩
    · exact h
    · cases h
  have b : Bd ⟨K, mg, T, F0, H, fun cls d _ H => E cls d H, none⟩ 0 F0 H := ⟨fh, Sub.refl _, fun a o h _ => ⟨h, rfl⟩, fun a h => by
    obtain ⟨⟨ps, e, _⟩, _⟩ := tab a (odd a h)
    exact ⟨_, e⟩, tab, fun B R e => by cases e⟩
  have fin : ∀ {n' : Nat} {F' H' : Hp}, Bd ⟨K, mg, T, F0, H, fun cls d _ H => E cls d H, none⟩ n' F' H' → Fin T F0 H F' H' := fun b' =>
    ⟨b'.sub, b'.fh, fun a o h nT => (b'.kept a o h fun z => nT (odd a z)).1, fun a o h => by
      by_cases hT : a ∈ T
      · rw [(b'.tab a hT).2, (tab a hT).2]
      · exact (b'.kept a o h fun z => hT (odd a z)).2, b'.tab⟩
  refine ⟨envOf ps.length N.length ds, 0, F0, ⟨b, fun i sv e => ?_, fun i j a p q e1 e2 => ?_, ?_⟩, ?_⟩
  · obtain ⟨p, e1, rfl⟩ := getE_env e
    obtain ⟨v, e2, r⟩ := rs.get e1
    refine ⟨v, ?_, r⟩
    unfold L2.start
    have hi := (List.getElem?_eq_some_iff.mp e2).1
    rw [List.getElem?_append_left (by simpa using hi), List.getElem?_map, e2]
    rfl
  · obtain ⟨p, _, e⟩ := getE_env e1
    cases e
  · unfold envOf L2.start
    rw [List.length_append, List.length_append, List.length_map, List.length_map, List.length_replicate, List.length_replicate, hl, hds]
  · unfold defF at h
    cases e : f (envOf ps.length N.length ds) 0 with
    | next ρ n =>
      rw [e] at h
      exact fun σ' F' H' k' _ => h .non F' H' (fin k'.bd) .non
    | ret p n =>
      rw [e] at h
      exact fun v F' H' b' r => h v F' H' (fin b') r
    | exc x ρ n =>
      rw [e] at h
      exact fun cls d σ' F' H' k' r => h cls d F' H' (fin k'.bd) r
    | brk ρ n => rw [e] at h; exact h.elim
    | cont ρ n => rw [e] at h; exact h.elim
    | stuck => rw [e] at h; exact h.elim
end DL
set_option Elab.async false
set_option linter.all false
set_option maxRecDepth 100000
set_option maxHeartbeats 1000000
/-! DI: the D layer: built-ins, subscripts, slices, isinstance, raise -/
namespace DL
open PySem PySem.Spec PyProof.Rows L2

/-! ### arguments as they stand -/
inductive Pks (g : Gx) (F H : Hp) : List PV → List V → Prop
  | nil : Pks g F H [] []
  | cons {d : PV} {v : V} {ds : List PV} {vs : List V} : Pk g F H d v → Pks g F H ds vs → Pks g F H (d :: ds) (v :: vs)
theorem Pks.step {g : Gx} {F H F' H' : Hp} (s : Stp g F H F' H') : ∀ {ds : List PV} {vs : List V}, Pks g F H ds vs → Pks g F' H' ds vs
  | _, _, .nil => .nil
  | _, _, .cons h r => .cons (h.step s) (Pks.step s r)
def tDP (g : Gx) (f : MA) : TA := fun σ H Q => ∃ ρ n F, Ok g ρ n σ F H ∧ PO g F H σ (f ρ n) fun ps _ F' H' => ∀ vs, Pks g F' H' ps vs → Q vs H'
def callB (k : List PV → Option PV) (fa : MA) : M := fun ρ n => (fa ρ n).bind fun ps n1 => opt (k ps) n1
def RuleC (g : Gx) (R : Rel) (k : List PV → Option PV) (r : List V → Hp → VK → Prop) : Prop :=
  ∀ (n : Nat) (F0 H0 F H : Hp) (ps : List PV) (s : PV) (vs : List V) (Q : VK), Bd g n F H → Stp g F0 H0 F H → Pks g F H ps vs → k ps = some s →
    (∀ u F' H', Bd g n F' H' → Stp g F H F' H' → R g F0 H0 F' H' s u → Q u H') → r vs H Q
theorem CallR.or {X : Cx} {f : Value} {r r' : List V → Hp → VK → Prop} (h : CallR X f r) (h' : CallR X f r') : CallR X f (fun xs H Q => r xs H Q ∨ r' xs H Q) := by
  intro pins s σ H xs us Q I rx q
  rcases q with q | q
  · exact h pins s σ H xs us Q I rx q
  · exact h' pins s σ H xs us Q I rx q
section
variable {X : Cx} {g : Gx} {R : Rel} {e : Expr} {es : List Expr} {f : M} {fs fa : MA} {p pos : Pos} {x : Str} {id : String}
theorem dp_nil : PA X [] (tDP g nilA) := pa_imp pa_nil fun σ H Q ⟨_, _, F, k, h⟩ => h F H k.bd Stp.refl [] .nil
theorem dp_cons (ha : PE X e (tD g RP f)) (hr : PA X es (tDP g fs)) (hs : starEach (e :: es) X.env = (false, eval e X.env) :: starEach es X.env := by rfl) : PA X (e :: es) (tDP g (consA f fs)) := by
  refine pa_imp (pa_cons ha hr hs) fun σ H Q ⟨ρ, n, F, k, h⟩ => ⟨ρ, n, F, k, (PO.bind h).imp fun p n1 F1 H1 b1 s1 h1 v r => ?_⟩
  refine ⟨ρ, n1, F1, k.step b1 s1, (PO.bind h1).imp fun ps n2 F2 H2 b2 s2 h2 vs rs => ?_⟩
  exact h2 F2 H2 b2 Stp.refl (v :: vs) (.cons (r.step s2) rs)
theorem tCB_of {k : List PV → Option PV} {r : List V → Hp → VK → Prop} (rule : RuleC g R k r) {σ : L2.St} {H : Hp} {Q : VK} (h : tD g R (callB k fa) σ H Q) : tCB r (tDP g fa) σ H Q := by
  obtain ⟨ρ, n, F, kk, h⟩ := h
  refine ⟨ρ, n, F, kk, (PO.bind h).imp fun ps n1 F1 H1 b1 s1 h1 vs rv => ?_⟩
  obtain ⟨s, e, h3⟩ := PO.opt h1
  exact rule n1 F H F1 H1 ps s vs Q b1 s1 rv e fun u F' H' b' s' ru => h3 F' H' b' s' u ru
theorem de_callB {k : List PV → Option PV} {r : List V → Hp → VK → Prop} (hc : CallR X (.builtin id) r) (rule : RuleC g R k r) (hg : Gl X x) (hm : X.mg x = none) (hv : bootBuiltins x = some (.builtin id)) (ha : PA X (e :: es) (tDP g fa)) (hn : x ≠ "__name__" := by decide) (hdb : (x == ("__debug__" : Str)) = false := by decide)
    (he : starEach (e :: es) X.env = (false, eval e X.env) :: starEach es X.env := by rfl) (hpl : (backTo pos (starEach es X.env)).any (·.1) = false := by rfl) : PE X (.Call (.Name x p) (e :: es) [] pos) (tD g R (callB k fa)) :=
  pe_imp (pe_callB hc hg hm hv ha hn hdb he hpl) fun _ _ _ => tCB_of rule
theorem de_callTy {k : List PV → Option PV} {r : List V → Hp → VK → Prop} (hc : CallR X (.type id) r) (rule : RuleC g R k r) (hg : Gl X x) (hm : X.mg x = none) (hv : bootBuiltins x = some (.type id)) (ha : PA X (e :: es) (tDP g fa)) (hn : x ≠ "__name__" := by decide) (hdb : (x == ("__debug__" : Str)) = false := by decide)
    (he : starEach (e :: es) X.env = (false, eval e X.env) :: starEach es X.env := by rfl) (hpl : (backTo pos (starEach es X.env)).any (·.1) = false := by rfl) : PE X (.Call (.Name x p) (e :: es) [] pos) (tD g R (callB k fa)) :=
  pe_imp (pe_callTy hc hg hm hv ha hn hdb he hpl) fun _ _ _ => tCB_of rule
end

/-! ### the built-ins -/
def lenC : List PV → Option PV
  | [.list ds] => some (.int (ds.length : Int))
  | [.tuple ds] => some (.int (ds.length : Int))
  | [.dict ds] => some (.int (ds.length : Int))
  | [.str x] => if x.length ≤ sizeLine then some (.int (x.length : Int)) else none
  | _ => none
def absC : List PV → Option PV
  | [.int i] => some (.int (if i < 0 then -i else i))
  | _ => none
def intsOf : List PV → Option (List Int)
  | [] => some []
  | .int i :: r => (intsOf r).map (i :: ·)
  | _ => none
def blsOf : List PV → Option (List Bool)
  | [] => some []
  | .bool i :: r => (blsOf r).map (i :: ·)
  | _ => none
def maxI (i : Int) (r : List Int) : Int := r.foldl (fun a b => if b > a then b else a) i
def minI (i : Int) (r : List Int) : Int := r.foldl (fun a b => if b < a then b else a) i
def maxC : List PV → Option PV
  | [.int i, .int j] => some (.int (if j > i then j else i))
  | [.list ds] => (match intsOf ds with
    | some (i :: r) => some (.int (maxI i r))
    | _ => none)
  | _ => none
def minC : List PV → Option PV
  | [.int i, .int j] => some (.int (if j < i then j else i))
  | [.list ds] => (match intsOf ds with
    | some (i :: r) => some (.int (minI i r))
    | _ => none)
  | _ => none
def sumC : List PV → Option PV
  | [.list ds] => (intsOf ds).map fun ns => .int ns.sum
  | _ => none
def anyC : List PV → Option PV
  | [.list ds] => (blsOf ds).map fun ns => .bool (ns.any id)
  | _ => none
def allC : List PV → Option PV
  | [.list ds] => (blsOf ds).map fun ns => .bool (ns.all id)
  | _ => none
def intC : List PV → Option PV
  | [.int i] => some (.int i)
  | [.bool k] => some (.int (if k then 1 else 0))
  | _ => none
def boolC : List PV → Option PV
  | [.int i] => some (.bool (i != 0))
  | [.bool k] => some (.bool k)
  | _ => none
def strC : List PV → Option PV
  | [.int i] => if i.natAbs.log2 < 1920 then some (.str (toString i)) else none
  | _ => none
def listC : List PV → Option PV
  | [.list ds] => some (.list ds)
  | [.tuple ds] => some (.list ds)
  | _ => none
def tupleC : List PV → Option PV
  | [.list ds] => some (.tuple ds)
  | [.tuple ds] => some (.tuple ds)
  | _ => none
def sortI (ns : List Int) : List Int := ns.mergeSort (fun a b => decide (a ≤ b))
def sortedC : List PV → Option PV
  | [.list ds] => (intsOf ds).map fun ns => .list ((sortI ns).map .int)
  | _ => none

theorem intsOf_rps {K : PySem.W.Frag} {F : Hp} : ∀ {ds : List PV} {vs : List V} {ns : List Int}, Rps K F ds vs → intsOf ds = some ns → vs = ns.map V.int
  | [], _, _, .nil, h => by
    cases h
    rfl
  | .int i :: ds, _, ns, .cons r rs, h => by
    unfold intsOf at h
    cases e : intsOf ds with
    | none => rw [e] at h; cases h
    | some ms =>
      rw [e] at h
      cases h
      cases r
      rw [intsOf_rps rs e]
      rfl
  | .none :: _, _, _, _, h | .bool _ :: _, _, _, _, h | .str _ :: _, _, _, _, h | .list _ :: _, _, _, _, h | .tuple _ :: _, _, _, _, h | .dict _ :: _, _, _, _, h => by simp [intsOf] at h
theorem blsOf_rps {K : PySem.W.Frag} {F : Hp} : ∀ {ds : List PV} {vs : List V} {ns : List Bool}, Rps K F ds vs → blsOf ds = some ns → vs = ns.map V.bl
  | [], _, _, .nil, h => by
    cases h
    rfl
  | .bool i :: ds, _, ns, .cons r rs, h => by
    unfold blsOf at h
    cases e : blsOf ds with
    | none => rw [e] at h; cases h
    | some ms =>
      rw [e] at h
      cases h
      cases r
      rw [blsOf_rps rs e]
      rfl
  | .none :: _, _, _, _, h | .int _ :: _, _, _, _, h | .str _ :: _, _, _, _, h | .list _ :: _, _, _, _, h | .tuple _ :: _, _, _, _, h | .dict _ :: _, _, _, _, h => by simp [blsOf] at h
theorem maxI_spec : ∀ (r : List Int) (i : Int), (maxI i r ∈ i :: r) ∧ ∀ y ∈ i :: r, y ≤ maxI i r
  | [], i => ⟨by simp [maxI], fun y h => by
    have : y = i := by simpa using h
    subst this
    exact Int.le_refl _⟩
  | b :: r, i => by
    have ih := maxI_spec r (if b > i then b else i)
    have e : maxI i (b :: r) = maxI (if b > i then b else i) r := rfl
    rw [e]
    by_cases hb : b > i
    · rw [if_pos hb] at ih ⊢
      refine ⟨List.mem_cons_of_mem _ ih.1, fun y h => ?_⟩
      rcases List.mem_cons.mp h with h | h
      · subst h
        have := ih.2 b List.mem_cons_self
        omega
      · exact ih.2 y h
    · rw [if_neg hb] at ih ⊢
      refine ⟨?_, fun y h => ?_⟩
      · rcases List.mem_cons.mp ih.1 with h | h
        · rw [h]; exact List.mem_cons_self
        · exact List.mem_cons_of_mem _ (List.mem_cons_of_mem _ h)
      · rcases List.mem_cons.mp h with h | h
        · subst h; exact ih.2 y List.mem_cons_self
        · rcases List.mem_cons.mp h with h | h
          · subst h
            have := ih.2 i List.mem_cons_self
            omega
          · exact ih.2 y (List.mem_cons_of_mem _ h)
theorem minI_spec : ∀ (r : List Int) (i : Int), (minI i r ∈ i :: r) ∧ ∀ y ∈ i :: r, minI i r ≤ y
  | [], i => ⟨by simp [minI], fun y h => by
    have : y = i := by simpa using h
    subst this
    exact Int.le_refl _⟩
  | b :: r, i => by
    have ih := minI_spec r (if b < i then b else i)
    have e : minI i (b :: r) = minI (if b < i then b else i) r := rfl
    rw [e]
    by_cases hb : b < i
    · rw [if_pos hb] at ih ⊢
      refine ⟨List.mem_cons_of_mem _ ih.1, fun y h => ?_⟩
      rcases List.mem_cons.mp h with h | h
      · subst h
        have := ih.2 b List.mem_cons_self
        omega
      · exact ih.2 y h
    · rw [if_neg hb] at ih ⊢
      refine ⟨?_, fun y h => ?_⟩
      · rcases List.mem_cons.mp ih.1 with h | h
        · rw [h]; exact List.mem_cons_self
        · exact List.mem_cons_of_mem _ (List.mem_cons_of_mem _ h)
      · rcases List.mem_cons.mp h with h | h
        · subst h; exact ih.2 y List.mem_cons_self
        · rcases List.mem_cons.mp h with h | h
          · subst h
            have := ih.2 i List.mem_cons_self
            omega
          · exact ih.2 y (List.mem_cons_of_mem _ h)
theorem sortI_spec (ns : List Int) : (sortI ns).Perm ns ∧ (sortI ns).Pairwise (· ≤ ·) := by
  refine ⟨List.mergeSort_perm _ _, ?_⟩
  have := List.pairwise_mergeSort (le := fun a b : Int => decide (a ≤ b)) (fun a b c h1 h2 => by simp only [decide_eq_true_eq] at *; omega) (fun a b => by simp only [Bool.or_eq_true, decide_eq_true_eq]; omega) ns
  exact this.imp fun h => by simpa using h
theorem sorted_one {a b : List Int} (p : a.Perm b) (ha : a.Pairwise (· ≤ ·)) (hb : b.Pairwise (· ≤ ·)) : a = b :=
  List.Perm.eq_of_pairwise (fun x y _ _ h1 h2 => Int.le_antisymm h1 h2) ha hb p

section
variable {g : Gx} {X : Cx}
abbrev rLen (K : PySem.W.Frag) : List V → Hp → VK → Prop := fun xs H Q => ((∃ p ys, xs = [.ref p] ∧ (SqL K H p ys ∨ SqT K H p ys) ∧ Q (.int ys.length) H) ∨ (∃ z, xs = [.str z] ∧ z.length ≤ sizeLine ∧ Q (.int z.length) H)) ∨ (∃ a kvs, xs = [V.ref a] ∧ H a = some (.dK kvs) ∧ Q (.int kvs.length) H)
theorem cr_len : CallR X (.builtin "len") (rLen X.K) := CallR.or (CallR.or call_len_seq call_len_str) call_lenD
theorem Pks.one {F H : Hp} {d : PV} {vs : List V} (h : Pks g F H [d] vs) : ∃ v, vs = [v] ∧ Pk g F H d v := by
  cases h with
  | cons h r => cases r; exact ⟨_, rfl, h⟩
theorem Pks.two {F H : Hp} {d e : PV} {vs : List V} (h : Pks g F H [d, e] vs) : ∃ v w, vs = [v, w] ∧ Pk g F H d v ∧ Pk g F H e w := by
  cases h with
  | cons h r =>
    obtain ⟨w, rfl, h2⟩ := r.one
    exact ⟨_, _, rfl, h, h2⟩
theorem rule_len : RuleC g RF lenC (rLen g.K) := by
  intro n F0 H0 F H ps s vs Q b st rp e h
  unfold lenC at e
  split at e
  · cases e
    obtain ⟨v, rfl, rv⟩ := rp.one
    obtain ⟨a, vs, rfl, ha, ra⟩ := Pk.list b rv
    have := fin0 b h (u := .int (vs.length : Int)) (by rw [ra.length]; exact .int _)
    exact .inl (.inl ⟨a, vs, rfl, .inl (SqL.of ha), this⟩)
  · cases e
    obtain ⟨v, rfl, rv⟩ := rp.one
    obtain ⟨a, vs, rfl, ha, ra⟩ := Pk.tup rv
    have := fin0 b h (u := .int (vs.length : Int)) (by rw [ra.length]; exact .int _)
    exact .inl (.inl ⟨a, vs, rfl, .inr (b.fh.sqT ha), this⟩)
  · cases e
    obtain ⟨v, rfl, rv⟩ := rp.one
    obtain ⟨a, vs, rfl, ha, ra⟩ := Pk.dict b rv
    have := fin0 b h (u := .int (vs.length : Int)) (by rw [ra.length]; exact .int _)
    exact .inr ⟨a, vs, rfl, ha, this⟩
  · split at e
    · rename_i hz
      cases e
      obtain ⟨v, rfl, rv⟩ := rp.one
      cases Pk.str rv
      exact .inl (.inr ⟨_, rfl, hz, fin0 b h (.int _)⟩)
    · cases e
  · cases e
theorem rule_abs : RuleC g RF absC (fun xs H Q => ∃ i, xs = [.int i] ∧ Q (.int (if i < 0 then -i else i)) H) := by
  intro n F0 H0 F H ps s vs Q b st rp e h
  unfold absC at e
  split at e
  · cases e
    obtain ⟨v, rfl, rv⟩ := rp.one
    cases Pk.int rv
    exact ⟨_, rfl, fin0 b h (.int _)⟩
  · cases e
abbrev rMaxC (K : PySem.W.Frag) : List V → Hp → VK → Prop := fun xs H Q => (∃ i j, xs = [.int i, .int j] ∧ Q (.int (if j > i then j else i)) H) ∨ rMax K xs H Q
theorem cr_maxC (hc : X.calm = true) : CallR X (.builtin "max") (rMaxC X.K) := CallR.or (call_max2 hc) (cr_max hc)
abbrev rMinC (K : PySem.W.Frag) : List V → Hp → VK → Prop := fun xs H Q => (∃ i j, xs = [.int i, .int j] ∧ Q (.int (if j < i then j else i)) H) ∨ rMin K xs H Q
theorem cr_minC (hc : X.calm = true) : CallR X (.builtin "min") (rMinC X.K) := CallR.or (call_min2 hc) (cr_min hc)
theorem rule_max : RuleC g RF maxC (rMaxC g.K) := by
  intro n F0 H0 F H ps s vs Q b st rp e h
  unfold maxC at e
  split at e
  · cases e
    obtain ⟨v, w, rfl, rv, rw'⟩ := rp.two
    cases Pk.int rv
    cases Pk.int rw'
    exact .inl ⟨_, _, rfl, fin0 b h (.int _)⟩
  · split at e
    · rename_i ds i r e2
      cases e
      obtain ⟨v, rfl, rv⟩ := rp.one
      obtain ⟨a, vs, rfl, ha, ra⟩ := Pk.list b rv
      have ev := intsOf_rps ra e2
      subst ev
      refine .inr ⟨a, i :: r, rfl, SqL.of ha, by simp, fun m h1 h2 => ?_⟩
      have sp := maxI_spec r i
      have : m = maxI i r := Int.le_antisymm (sp.2 m h1) (h2 _ sp.1)
      subst this
      exact fin0 b h (.int _)
    · cases e
  · cases e
theorem rule_min : RuleC g RF minC (rMinC g.K) := by
  intro n F0 H0 F H ps s vs Q b st rp e h
  unfold minC at e
  split at e
  · cases e
    obtain ⟨v, w, rfl, rv, rw'⟩ := rp.two
    cases Pk.int rv
    cases Pk.int rw'
    exact .inl ⟨_, _, rfl, fin0 b h (.int _)⟩
  · split at e
    · rename_i ds i r e2
      cases e
      obtain ⟨v, rfl, rv⟩ := rp.one
      obtain ⟨a, vs, rfl, ha, ra⟩ := Pk.list b rv
      have ev := intsOf_rps ra e2
      subst ev
      refine .inr ⟨a, i :: r, rfl, SqL.of ha, by simp, fun m h1 h2 => ?_⟩
      have sp := minI_spec r i
      have : m = minI i r := Int.le_antisymm (h2 _ sp.1) (sp.2 m h1)
      subst this
      exact fin0 b h (.int _)
    · cases e
  · cases e
theorem rule_sum : RuleC g RF sumC (rSum g.K) := by
  intro n F0 H0 F H ps s vs Q b st rp e h
  unfold sumC at e
  split at e
  · rename_i ds
    cases e2 : intsOf ds with
    | none => rw [e2] at e; cases e
    | some ns =>
      rw [e2] at e
      cases e
      obtain ⟨v, rfl, rv⟩ := rp.one
      obtain ⟨a, vs, rfl, ha, ra⟩ := Pk.list b rv
      have ev := intsOf_rps ra e2
      subst ev
      exact ⟨a, ns, rfl, SqL.of ha, fin0 b h (.int _)⟩
  · cases e
theorem rule_any : RuleC g RF anyC (rAny g.K) := by
  intro n F0 H0 F H ps s vs Q b st rp e h
  unfold anyC at e
  split at e
  · rename_i ds
    cases e2 : blsOf ds with
    | none => rw [e2] at e; cases e
    | some ns =>
      rw [e2] at e
      cases e
      obtain ⟨v, rfl, rv⟩ := rp.one
      obtain ⟨a, vs, rfl, ha, ra⟩ := Pk.list b rv
      have ev := blsOf_rps ra e2
      subst ev
      exact ⟨a, ns, rfl, SqL.of ha, fin0 b h (.bl _)⟩
  · cases e
theorem rule_all : RuleC g RF allC (rAll g.K) := by
  intro n F0 H0 F H ps s vs Q b st rp e h
  unfold allC at e
  split at e
  · rename_i ds
    cases e2 : blsOf ds with
    | none => rw [e2] at e; cases e
    | some ns =>
      rw [e2] at e
      cases e
      obtain ⟨v, rfl, rv⟩ := rp.one
      obtain ⟨a, vs, rfl, ha, ra⟩ := Pk.list b rv
      have ev := blsOf_rps ra e2
      subst ev
      exact ⟨a, ns, rfl, SqL.of ha, fin0 b h (.bl _)⟩
  · cases e
theorem rule_int1 : RuleC g RF intC (fun xs H Q => (∃ i, xs = [.int i] ∧ Q (.int i) H) ∨ ∃ k, xs = [.bl k] ∧ Q (.int (if k then 1 else 0)) H) := by
  intro n F0 H0 F H ps s vs Q b st rp e h
  unfold intC at e
  split at e
  · cases e
    obtain ⟨v, rfl, rv⟩ := rp.one
    cases Pk.int rv
    exact .inl ⟨_, rfl, fin0 b h (.int _)⟩
  · cases e
    obtain ⟨v, rfl, rv⟩ := rp.one
    cases Pk.bl rv
    exact .inr ⟨_, rfl, fin0 b h (.int _)⟩
  · cases e
theorem rule_boolC : RuleC g RF boolC (fun xs H Q => (∃ i, xs = [.int i] ∧ Q (.bl (i != 0)) H) ∨ ∃ k, xs = [.bl k] ∧ Q (.bl k) H) := by
  intro n F0 H0 F H ps s vs Q b st rp e h
  unfold boolC at e
  split at e
  · cases e
    obtain ⟨v, rfl, rv⟩ := rp.one
    cases Pk.int rv
    exact .inl ⟨_, rfl, fin0 b h (.bl _)⟩
  · cases e
    obtain ⟨v, rfl, rv⟩ := rp.one
    cases Pk.bl rv
    exact .inr ⟨_, rfl, fin0 b h (.bl _)⟩
  · cases e
theorem rule_strC : RuleC g RF strC (fun xs H Q => ∃ i, xs = [.int i] ∧ i.natAbs.log2 < 1920 ∧ Q (.str (toString i)) H) := by
  intro n F0 H0 F H ps s vs Q b st rp e h
  unfold strC at e
  split at e
  · split at e
    · rename_i hz
      cases e
      obtain ⟨v, rfl, rv⟩ := rp.one
      cases Pk.int rv
      exact ⟨_, rfl, hz, fin0 b h (.str _)⟩
    · cases e
  · cases e
abbrev rListC (K : PySem.W.Frag) : List V → Hp → VK → Prop := fun xs H Q => ∃ p ys, xs = [.ref p] ∧ (SqL K H p ys ∨ SqT K H p ys) ∧ ∀ l, H l = none → Q (.ref l) (upd H l (.lst ys))
theorem rule_listC : RuleC g RO listC (rListC g.K) := by
  intro n F0 H0 F H ps s vs Q b st rp e h
  unfold listC at e
  split at e
  · cases e
    obtain ⟨v, rfl, rv⟩ := rp.one
    obtain ⟨a, vs, rfl, ha, ra⟩ := Pk.list b rv
    exact ⟨a, vs, rfl, .inl (SqL.of ha), fun l nl => finO b st h ra nl⟩
  · cases e
    obtain ⟨v, rfl, rv⟩ := rp.one
    obtain ⟨a, vs, rfl, ha, ra⟩ := Pk.tup rv
    exact ⟨a, vs, rfl, .inr (b.fh.sqT ha), fun l nl => finO b st h ra nl⟩
  · cases e
abbrev rTupleC (K : PySem.W.Frag) : List V → Hp → VK → Prop := fun xs H Q => ∃ p ys, xs = [.ref p] ∧ ((SqL K H p ys ∧ ∀ l, H l = none → Q (.ref l) (upd H l (.tup ys))) ∨ (SqT K H p ys ∧ Q (.ref p) H))
theorem rule_tupleC : RuleC g RF tupleC (rTupleC g.K) := by
  intro n F0 H0 F H ps s vs Q b st rp e h
  unfold tupleC at e
  split at e
  · cases e
    obtain ⟨v, rfl, rv⟩ := rp.one
    obtain ⟨a, vs, rfl, ha, ra⟩ := Pk.list b rv
    exact ⟨a, vs, rfl, .inl ⟨SqL.of ha, fun l nl => finT b h ra nl⟩⟩
  · cases e
    obtain ⟨v, rfl, rv⟩ := rp.one
    obtain ⟨a, vs, rfl, ha, ra⟩ := Pk.tup rv
    exact ⟨a, vs, rfl, .inr ⟨b.fh.sqT ha, fin0 b h (.tup ha ra)⟩⟩
  · cases e
theorem rps_ints {K : PySem.W.Frag} {F : Hp} : ∀ ns : List Int, Rps K F (ns.map PyData.int) (ns.map V.int)
  | [] => .nil
  | i :: r => .cons (.int i) (rps_ints r)
theorem rule_sortedC : RuleC g RO sortedC (rSortedI g.K) := by
  intro n F0 H0 F H ps s vs Q b st rp e h
  unfold sortedC at e
  split at e
  · rename_i ds
    cases e2 : intsOf ds with
    | none => rw [e2] at e; cases e
    | some ns =>
      rw [e2] at e
      cases e
      obtain ⟨v, rfl, rv⟩ := rp.one
      obtain ⟨a, vs, rfl, ha, ra⟩ := Pk.list b rv
      have ev := intsOf_rps ra e2
      subst ev
      refine ⟨a, ns, rfl, SqL.of ha, fun ns' p h1 h2 np => ?_⟩
      have sp := sortI_spec ns
      have : ns' = sortI ns := sorted_one (h1.trans sp.1.symm) h2 sp.2
      subst this
      exact finO b st h (rps_ints _) np
  · cases e
end

/-! ### subscripts and slices -/
def ixV : PV → PV → Option PV
  | .list ds, .int k => atI ds k
  | .tuple ds, .int k => atI ds k
  | .str x, .int k => if x.length ≤ sizeLine then (atI x.cps.toList k).map fun c => .str ⟨#[c]⟩ else none
  | _, _ => none
theorem Rps.at {K : PySem.W.Frag} {F : Hp} {ds : List PV} {vs : List V} {k : Int} {d : PV} (r : Rps K F ds vs) (h : atI ds k = some d) : ∃ v, atI vs k = some v ∧ Rp K F d v := by
  unfold atI at h ⊢
  rw [r.length]
  cases e : ixN ds.length k with
  | none => rw [e] at h; cases h
  | some j =>
    rw [e] at h
    exact r.get h
section
variable {g : Gx} {X : Cx} {a b : Expr} {fa fb : M} {pos : Pos}
theorem rule_ix : RuleR g RF ixV (rIx g.K) := by
  intro n F0 H0 F H p q s v w Q b st rp rq e h
  cases p <;> cases q <;> try (simp only [ixV, reduceCtorEq] at e; done)
  · rename_i x k
    by_cases hz : x.length ≤ sizeLine
    · simp only [ixV, if_pos hz] at e
      cases e2 : atI x.cps.toList k with
      | none => rw [e2] at e; cases e
      | some c =>
        rw [e2] at e
        cases e
        cases Pk.str rp
        cases Pk.int rq
        exact .inr (.inr ⟨x, k, c, rfl, rfl, hz, e2, fin0 b h (.str _)⟩)
    · simp only [ixV, if_neg hz] at e
      cases e
  · obtain ⟨a, vs, rfl, ha, ra⟩ := Pk.list b rp
    cases Pk.int rq
    obtain ⟨v, e1, rv⟩ := ra.at e
    exact .inl ⟨a, vs, _, v, rfl, rfl, SqL.of ha, e1, fin0 b h rv⟩
  · obtain ⟨a, vs, rfl, ha, ra⟩ := Pk.tup rp
    cases Pk.int rq
    obtain ⟨v, e1, rv⟩ := ra.at e
    exact .inr (.inl ⟨a, vs, _, v, rfl, rfl, b.fh.sqT ha, e1, fin0 b h rv⟩)
theorem de_ix (hK : g.K = X.K) (ha : PE X a (tD g RP fa)) (hb : PE X b (tD g RP fb)) (hs : PlainIx b) : PE X (.Subscript a b pos) (tD g RF (bin ixV fa fb)) :=
  pe_imp (pe_ix ix_seq ha hb hs) fun σ H Q h => by
    rw [← hK]
    exact tOp_of rule_ix h
end
abbrev MO := DEnv → Nat → Out (Option Int)
def noP : MO := fun _ n => .ok none n
def someP (f : M) : MO := fun ρ n => (f ρ n).bind fun p n1 => match p with
  | .int i => .ok (some i) n1
  | _ => .stuck
def tDO (g : Gx) (f : MO) : TO := fun σ H Q => ∃ ρ n F, Ok g ρ n σ F H ∧ PO g F H σ (f ρ n) fun o _ _ H' => Q o H'
def cutP (ds : List PV) (lo hi : Option Int) : List PV := (ds.drop (HT.sIx ds.length 0 lo)).take (HT.sIx ds.length ds.length hi - HT.sIx ds.length 0 lo)
def slcV (p : PV) (lo hi : Option Int) : Option PV := match p with
  | .list ds => some (.list (cutP ds lo hi))
  | .tuple ds => some (.tuple (cutP ds lo hi))
  | .str x => if x.length ≤ sizeLine then some (.str (cutS x lo hi)) else none
  | _ => none
def slcL (p : PV) (lo hi : Option Int) : Option PV := match p with
  | .list ds => some (.list (cutP ds lo hi))
  | _ => none
def slcM (k : PV → Option Int → Option Int → Option PV) (f : M) (l h : MO) : M := fun ρ n => (f ρ n).bind fun p n1 => (l ρ n1).bind fun a n2 => (h ρ n2).bind fun b n3 => opt (k p a b) n3
section
variable {g : Gx} {X : Cx} {e : Expr} {lo hi : Option Expr} {fe : M} {fl fh : MO} {pos p2 : Pos}
theorem dpo_none : L2.PO X none (tDO g noP) := ⟨fun pins s σ H Q I ⟨ρ, n, F, k, h⟩ => po_none.run pins s σ H Q I (h F H k.bd Stp.refl)⟩
theorem dpo_some (h : PE X e (tD g RF fe)) : L2.PO X (some e) (tDO g (someP fe)) := ⟨fun pins s σ H Q I ⟨ρ, n, F, k, hh⟩ => (po_some h).run pins s σ H Q I ⟨ρ, n, F, k, (DL.PO.bind hh).imp fun p n1 F1 H1 b1 s1 q v r => by
  cases p with
  | int i =>
    cases r
    exact ⟨i, rfl, q F1 H1 b1 Stp.refl⟩
  | _ => exact q.elim⟩⟩
theorem cut_rps {K : PySem.W.Frag} {F : Hp} {ds : List PV} {vs : List V} (r : Rps K F ds vs) : Rps K F (cutP ds lo' hi') (cutV vs lo' hi') := by
  unfold cutP cutV
  rw [r.length]
  exact (r.drop _).take _
abbrev rSl (K : PySem.W.Frag) : V → Option Int → Option Int → Hp → VK → Prop := fun x lo hi H Q => (rSlL K x lo hi H Q ∨ rSlA K x lo hi H Q) ∨ rSlS x lo hi H Q
theorem sl_all : SlR X (rSl X.K) := SlR.or (SlR.or sl_list sl_tupA) sl_str
theorem cut_all {α : Type} (vs : List α) {lo hi : Option Int} (h : HT.sIx vs.length 0 lo = 0 ∧ HT.sIx vs.length vs.length hi = vs.length) : (vs.drop (HT.sIx vs.length 0 lo)).take (HT.sIx vs.length vs.length hi - HT.sIx vs.length 0 lo) = vs := by
  rw [h.1, h.2]
  simp
theorem de_slc (hK : g.K = X.K) (he : PE X e (tD g RP fe)) (hl : L2.PO X lo (tDO g fl)) (hu : L2.PO X hi (tDO g fh)) : PE X (.Subscript e (.Slice lo hi none p2) pos) (tD g RF (slcM slcV fe fl fh)) := by
  refine pe_imp (pe_slice sl_all he hl hu) fun σ H Q ⟨ρ, n, F, k, h⟩ => ⟨ρ, n, F, k, (DL.PO.bind h).imp fun p n1 F1 H1 b1 s1 h1 v rv => ?_⟩
  refine ⟨ρ, n1, F1, k.step b1 s1, (DL.PO.bind h1).imp fun l n2 F2 H2 b2 s2 h2 => ⟨ρ, n2, F2, (k.step b1 s1).step b2 s2, (DL.PO.bind h2).imp fun u n3 F3 H3 b3 s3 h3 => ?_⟩⟩
  have rv3 := (rv.step s2).step s3
  obtain ⟨s, es, h4⟩ := DL.PO.opt h3
  have h5 : FinF g n3 F3 H3 s Q := fun u F' H' b' s' r => h4 F' H' b' s' u r
  rw [← hK]
  cases p with
  | list ds =>
    cases es
    obtain ⟨a, vs, rfl, ha, ra⟩ := Pk.list b3 rv3
    exact .inl (.inl ⟨a, vs, rfl, SqL.of ha, fun p np => finL b3 h5 (cut_rps ra) np⟩)
  | tuple ds =>
    cases es
    obtain ⟨a, vs, rfl, ha, ra⟩ := Pk.tup rv3
    refine .inl (.inr ⟨a, vs, rfl, b3.fh.sqT ha, fun w => ?_, fun w p np => finT b3 h5 (cut_rps ra) np⟩)
    have e1 : cutP ds l u = ds := cut_all ds (by rw [← ra.length]; exact w)
    rw [e1] at h5
    exact fin0 b3 h5 (.tup ha ra)
  | str x =>
    by_cases hz : x.length ≤ sizeLine
    · have e1 : some (PyData.str (cutS x l u)) = some s := by
        rw [← es]
        exact (if_pos hz).symm
      cases e1
      cases Pk.str rv3
      exact .inr ⟨x, rfl, hz, fin0 b3 h5 (.str _)⟩
    · have e1 : none = some s := by
        rw [← es]
        exact (if_neg hz).symm
      cases e1
  | _ => cases es
theorem do_slc (hK : g.K = X.K) (he : PE X e (tD g RP fe)) (hl : L2.PO X lo (tDO g fl)) (hu : L2.PO X hi (tDO g fh)) : PE X (.Subscript e (.Slice lo hi none p2) pos) (tD g RO (slcM slcL fe fl fh)) := by
  refine pe_imp (pe_slice sl_list he hl hu) fun σ H Q ⟨ρ, n, F, k, h⟩ => ⟨ρ, n, F, k, (DL.PO.bind h).imp fun p n1 F1 H1 b1 s1 h1 v rv => ?_⟩
  refine ⟨ρ, n1, F1, k.step b1 s1, (DL.PO.bind h1).imp fun l n2 F2 H2 b2 s2 h2 => ⟨ρ, n2, F2, (k.step b1 s1).step b2 s2, (DL.PO.bind h2).imp fun u n3 F3 H3 b3 s3 h3 => ?_⟩⟩
  have rv3 := (rv.step s2).step s3
  have s03 := (s1.trans b1 s2).trans b2 s3
  obtain ⟨s, es, h4⟩ := DL.PO.opt h3
  rw [← hK]
  cases p with
  | list ds =>
    cases es
    obtain ⟨a, vs, rfl, ha, ra⟩ := Pk.list b3 rv3
    exact ⟨a, vs, rfl, SqL.of ha, fun p np => finO b3 s03 (fun u F' H' b' s' r => h4 F' H' b' s' u r) (cut_rps ra) np⟩
  | _ => cases es
end

/-! ### isinstance -/
def tyN : PV → String
  | .none => "NoneType"
  | .bool _ => "bool"
  | .int _ => "int"
  | .str _ => "str"
  | .list _ => "list"
  | .tuple _ => "tuple"
  | .dict _ => "dict"
def isB (a b : String) : Bool := a == b || (a == "bool" && b == "int")
def isiV (T : String) (p : PV) : Option PV := some (.bool (isB (tyN p) T))
def KitOk (T : String) : Prop := ∀ p : PV, kitB (tyN p) T = some (isB (tyN p) T)
theorem kit_int : KitOk "int" := fun p => by cases p <;> (simp only [tyN]; decide +kernel)
theorem kit_bool : KitOk "bool" := fun p => by cases p <;> (simp only [tyN]; decide +kernel)
theorem kit_str : KitOk "str" := fun p => by cases p <;> (simp only [tyN]; decide +kernel)
theorem kit_list : KitOk "list" := fun p => by cases p <;> (simp only [tyN]; decide +kernel)
theorem kit_tuple : KitOk "tuple" := fun p => by cases p <;> (simp only [tyN]; decide +kernel)
theorem kit_dict : KitOk "dict" := fun p => by cases p <;> (simp only [tyN]; decide +kernel)
theorem tyx {g : Gx} {n : Nat} {F H : Hp} (b : Bd g n F H) {p : PV} {v : V} (r : Pk g F H p v) : TyX g.K H v (.type (tyN p)) := by
  cases p with
  | none => cases Pk.non r; exact .base .non
  | bool c => cases Pk.bl r; exact .base (.bl _)
  | int c => cases Pk.int r; exact .base (.int _)
  | str c => cases Pk.str r; exact .base (.str _)
  | list ds =>
    obtain ⟨a, vs, rfl, ha, _⟩ := Pk.list b r
    exact .base (.lst ha)
  | dict ds =>
    obtain ⟨a, vs, rfl, ha, _⟩ := Pk.dict b r
    exact .base (.dK ha)
  | tuple ds =>
    obtain ⟨a, vs, rfl, ha, _⟩ := Pk.tup r
    rcases b.fh.sqT ha with (h | ⟨o, h⟩) | ⟨o, its, m, h, c, _⟩
    · exact .base (.tup h)
    · exact .fTuple h
    · exact .kTuple h c
section
variable {g : Gx} {X : Cx} {e : Expr} {fe : M} {p p2 pos : Pos} {T : String} {x : Str}
theorem de_isi (hK : g.K = X.K) (kk : KitOk T) (hg : Gl X "isinstance") (hm : X.mg "isinstance" = none) (gT : Gl X x) (mT : X.mg x = none) (hv : bootBuiltins x = some (.type T)) (he : PE X e (tD g RP fe)) (hn : x ≠ "__name__" := by decide) (hd : (x == ("__debug__" : Str)) = false := by decide)
    (hs : starEach [e, .Name x p2] X.env = (false, eval e X.env) :: starEach [.Name x p2] X.env := by rfl) (hs2 : starEach [.Name x p2] X.env = (false, eval (.Name x p2) X.env) :: starEach [] X.env := by rfl) (hpl : (backTo pos (starEach [.Name x p2] X.env)).any (·.1) = false := by rfl) :
    PE X (.Call (.Name "isinstance" p) [e, .Name x p2] [] pos) (tD g RF (una (isiV T) fe)) := by
  refine pe_imp (pe_callB call_isi hg hm (by decide +kernel) (pa_cons he (pa_cons (pe_bltn (v := .ty T) gT mT hv rfl hn hd) pa_nil hs2) hs) (by decide) (by decide) hs hpl) fun σ H Q ⟨ρ, n, F, k, h⟩ => ⟨ρ, n, F, k, (PO.bind h).imp fun q n1 F1 H1 b1 s1 h1 v r => ?_⟩
  have h2 : Q (.bl (isB (tyN q) T)) H1 := h1 F1 H1 b1 Stp.refl _ (.bl _)
  exact ⟨v, .ty T, .type (tyN q), .type T, _, rfl, .ty T, by rw [← hK]; exact tyx b1 r, kit_ty (kk q), h2⟩
end

/-! ### raise C('..') -/
def excS (c : Str) : MS := fun ρ n => .exc ⟨c, none⟩ ρ n
theorem ds_raise {X : Cx} {g : Gx} {C : Addr} {bmB : List Value} {B newId initId : String} {x m : Str} {j : Nat} {p p2 pos pos' : Pos} (hc : X.calm = true) (tk : Takes X g.W) (hmg : g.mg = X.mg) (F : ExcBaseFacts B newId initId bmB) (q : PySem.W.excIn X.K C bmB newId = true) (gC : X.mg x = some (.ref C)) (kC : PySem.W.keepIn X.K (.ref C) = true) (r : Raises X (.ref C)) (hg : Gl X x)
    (hdb : (x == ("__debug__" : Str)) = false := by decide) : PS X (.Raise (some (.Call (.Name x p) [.Constant (.str m) j p2] [] pos)) none pos') (tDS g (excS x)) :=
  ps_imp (ps_raise hc tk (pmk_own F q gC kC r hg hdb)) fun D σ H ⟨ρ, n, F, k, h⟩ => h _ _ σ F H k ⟨⟨C, by rw [hmg]; exact gC, rfl⟩, rfl⟩
end DL
set_option Elab.async false
set_option linter.all false
set_option maxRecDepth 100000
set_option maxHeartbeats 1000000
/-! DJ: the D layer: any, all of a generator expression (its elements may call) -/
namespace DL
open PySem PySem.Spec PyProof.Rows L2 GenW

/-- the context of a generator expression's frame -/
abbrev gX (X : Cx) (A : Around) (s : Shared) (H : Hp) (scope : Scope) (C : Addr) (code : Value) (fp : List Addr) : Cx :=
  { X with A := A, s_0 := s, H_0 := H, env := genEnv scope (cloFrom X.env.cells scope.names []) C code builtinsNs X.env, outer := X.stack, stack := genEnv scope (cloFrom X.env.cells scope.names []) C code builtinsNs X.env :: X.stack, ex := fp, fn := fun _ => false, calm := true, pn := [], xe := fun _ _ => False }
structure GenOk (N : List Str) (sc scope : Scope) (own : List (Str × Nat)) : Prop where
  b : BlkOk N sc scope own
  co : scope.isCoroutine = false
  cell : ∀ y ∈ scope.names, y.2 ≠ .cell
  dot : scope.names.lookup (".0" : Str) = some NameKind.local

section
variable {X : Cx} {pins : List (Addr × Obj)} {σ : L2.St} {H : Hp} {s : Shared}
theorem Inv.regen (I : Inv X pins σ H s) {s' : Shared} (hk : ∀ b o, s.heap.get? b = some o → s'.heap.get? b = some o) (ho : s'.os = s.os) (hb : AllBare s'.gens) : Inv X pins σ H s' :=
  I.call' ho (Un.kept hk) (I.hok.kept hk) hb (ch := []) fun b hb => absurd hb (by simp)
theorem gen_start {A : Around} {scope : Scope} {own : List (Str × Nat)} {fp : List Addr} {C : Addr} {code : Value} {m : Str → Option Value} {s' : Shared} (I : Inv X pins σ H s) (ok : GenOk X.N X.env.scope scope own) (hN : X.N.Nodup) (hfp : ∀ b ∈ fp, FpOk X pins H b ∧ b < s.heap.objs.size)
    (hA : A.handled = none) (hfr : A.frames = some (genEnv scope (cloFrom X.env.cells scope.names []) C code builtinsNs X.env :: X.stack)) (hC : C = s.heap.objs.size) (ns : s'.heap.Ns C m) (kp : ∀ b o, s.heap.get? b = some o → s'.heap.get? b = some o) (ho : s'.os = s.os) (hb : AllBare s'.gens) :
    Inv (gX X A s H scope C code fp) [] (wipe σ (own.map (·.2))) H s' := by
  have hfree : ∀ y ∈ scope.names, y.2 = .free → ∃ c, X.env.cells.lookup y.1 = some c := fun y hy e => by
    rcases ok.b.free y hy e with k | k
    · exact I.ok.has _ (.inl k)
    · exact I.ok.has _ (.inr k)
  have cm : ∀ {y c}, (y, c) ∈ cloFrom X.env.cells scope.names [] → X.env.cells.lookup y = some c ∧ c < s.heap.objs.size := fun {y c} hm => by
    rcases cloFrom_mem hm with hm | ⟨h1, rfl⟩
    · cases hm
    · obtain ⟨c, hc⟩ := hfree _ h1 rfl
      rw [hc]
      obtain ⟨w, z⟩ := I.cell _ _ hc
      exact ⟨rfl, z.lt⟩
  have cml : ∀ {y c}, (cloFrom X.env.cells scope.names []).lookup y = some c → X.env.cells.lookup y = some c ∧ c < s.heap.objs.size := fun {y c} e => cm (PySem.mem_of_lookup e)
  have look : ∀ {y}, scope.names.lookup y = some .free → ∃ c, (cloFrom X.env.cells scope.names []).lookup y = some c ∧ X.env.cells.lookup y = some c := fun {y} hl => by
    have hy : (y, NameKind.free) ∈ scope.names := PySem.mem_of_lookup hl
    obtain ⟨c', e'⟩ := mem_lookup (cloFrom_has (cells := X.env.cells) (acc := []) hy)
    exact ⟨c', e', (cml e').1⟩
  have okB : (gX X A s H scope C code fp).Ok := by
    refine ⟨I.ok.mod, ok.b.kind, I.ok.glob, rfl, Nat.le_of_eq hC.symm, fun y z c e1 e2 => I.ok.inj y z c (cml e1).1 (cml e2).1, fun y hy => ?_, fun y c z e => (Bool.false_ne_true z).elim, fun _ => hA, hfr, .inr ⟨rfl, rfl⟩, fun b hb => ⟨?_, fun y c e z => (hfp b hb).1.2.2.2.2.1 y c (cml e).1 z⟩, I.bs, Nat.le_trans I.ok.bsz I.sz, fun b o e hb => ?_, fun b hb z => ?_, I.stack, I.stkFree⟩
    · rcases hy with hy | hy
      · exact absurd rfl (ok.cell _ (PySem.mem_of_lookup hy))
      · obtain ⟨c, h1, _⟩ := look hy
        exact ⟨c, h1⟩
    · show b ≠ C
      rw [hC]; exact Nat.ne_of_lt (hfp b hb).2
    · rcases (hfp b hb).1.2.2.2.1 with z | z
      · exact I.ok.noex b o e z
      · exact absurd (Nat.lt_of_lt_of_le (Heap.lt_size e) (Nat.le_trans I.ok.bsz z)) (Nat.lt_irrefl _)
    · rcases List.mem_cons.mp (I.stkSub b z) with z | z
      · exact (hfp b hb).1.2.1 z
      · exact (hfp b hb).1.2.2.1 z
  refine ⟨okB, ho, hb, Un.kept kp, ⟨m, ns, fun i y av e1 e2 e3 => ?_⟩, fun y c e => ?_, ?_, fun y c e => ?_, fun p hp => ?_, I.hok.kept kp, by rw [wipe_length]; exact I.len⟩
  · obtain ⟨e2, hne⟩ := wipe_some e2
    have hfr : scope.names.lookup y = some .free := by
      have no : ∀ k', scope.names.lookup y = some k' → ¬ (k' = .local ∨ k' = .cell) := fun k' e hh => by
        rcases ok.b.own _ (PySem.mem_of_lookup e) hh with e' | e'
        · obtain ⟨p, hp, hpy⟩ := List.mem_map.mp e'
          have e3 := ok.b.ix p hp
          have : p.1 = y := hpy
          rw [this] at e3
          exact hne (List.mem_map.mpr ⟨p, hp, nodup_ix hN e3 e1⟩)
        · exact e' (List.mem_of_getElem? e1)
      have e3 : Vis scope y := e3
      rcases e3 with e3 | e3 | e3
      · exact absurd (.inl rfl) (no _ e3)
      · exact absurd (.inr rfl) (no _ e3)
      · exact e3
    obtain ⟨m, hn, hl⟩ := I.loc
    have hvis : Vis X.env.scope y := (ok.b.free _ (PySem.mem_of_lookup hfr) rfl).elim (fun k => .inr (.inl k)) (fun k => .inr (.inr k))
    obtain ⟨w, r, q⟩ := hl i y av e1 e2 hvis
    refine ⟨w, r, .inr ⟨.inr hfr, ?_⟩⟩
    obtain ⟨c, h1, h2⟩ := look hfr
    rcases q with ⟨k, _⟩ | ⟨_, c', e', z⟩
    · have k : X.env.scope.names.lookup y = some .local := k
      rcases ok.b.free _ (PySem.mem_of_lookup hfr) rfl with k' | k' <;> rw [show X.env.scope.names.lookup y = _ from k'] at k <;> cases k
    · rw [h2] at e'; cases e'
      exact ⟨c, h1, z.keeps kp⟩
  · obtain ⟨w, z⟩ := I.cell y c (cml e).1
    exact ⟨w, z.keeps kp⟩
  · show H C = none
    rw [hC]; exact I.hok.fresh (Nat.le_refl _)
  · exact I.freeC y c (cml e).1
  · exact absurd (show p ∈ ([] : List (Addr × Obj)) ++ [] from hp) (by simp)
end

/-! ### the generator's run -/
/-- item by item: J i ahead of turn i; the answer is settled at the first item that is c: Dn c; or at the end: Dn (!c) -/
def gY (c : Bool) (J : Nat → Shared → Prop) (Dn : Bool → Shared → Prop) (n : Nat) : Protocol := fun m s₀ v s kap =>
  ∃ i d, i + 1 + m = n ∧ v = .bool d ∧ (if d = c then Dn c s else J (i + 1) s) ∧ ∀ s'', J (i + 1) s'' → kap (.send .none) s''
def gR (c : Bool) (Dn : Bool → Shared → Prop) : GenEnd := fun m s₀ r s => ((r = .ok (.ret .none) ∨ r = .ok .next) ∧ (m = 0 ∧ Dn (!c) s)) ∨ ∃ e, r = .error e ∧ False
abbrev gCode (elt tg iter : Expr) (scope : Scope) (pos : Pos) (it : Value) (cenv : Env) : Code := .compLoop (.GeneratorExp elt [⟨tg, iter, [], 0⟩] scope pos) 0 it .none cenv
section
variable {P : Program} {w : World} {A : Around} {elt tg iter : Expr} {scope : Scope} {pos : Pos} {it : Value} {cenv : Env} {c : Bool} {J : Nat → Shared → Prop} {Dn : Bool → Shared → Prop} {n : Nat}
theorem seg_gen (hco : cenv.scope.isCoroutine = false)
    (turn : ∀ i s, i < n → J i s → wpAny (model P w) (A.over (gCode elt tg iter scope pos it cenv) []) (pyNext it) (fun r s1 => ∃ u, r = some u ∧ wpAny (model P w) (A.over (gCode elt tg iter scope pos it cenv) []) (letOwnedTupleGo tg it u) (fun _ s2 =>
      wpAny (model P w) (A.over (gCode elt tg iter scope pos it cenv) []) (assign tg cenv u) (fun _ s3 => wpAny (model P w) (A.over (gCode elt tg iter scope pos it cenv) []) (eval elt cenv) (fun y s4 => ∃ d, y = .bool d ∧ if d = c then Dn c s4 else J (i + 1) s4) (fun _ _ => False) s3) (fun _ _ => False) s2) (fun _ _ => False) s1) (fun _ _ => False) s)
    (last : ∀ s, J n s → wpAny (model P w) (A.over (gCode elt tg iter scope pos it cenv) []) (pyNext it) (fun r s1 => r = none ∧ Dn (!c) s1) (fun _ _ => False) s) :
    ∀ (k i : Nat) (s₀ s : Shared), n - i = k → i ≤ n → J i s → Seg (model P w) A (gR c Dn) (gY c J Dn n) k s₀ (gCode elt tg iter scope pos it cenv) ((model P w).den (gCode elt tg iter scope pos it cenv)) [] s := by
  intro k
  induction k with
  | zero =>
    intro i s₀ s hk hi hJ
    have hin : i = n := by omega
    subst hin
    show Seg _ A _ _ _ s₀ _ ((compTurn (.GeneratorExp elt [⟨tg, iter, [], 0⟩] scope pos) 0 it .none cenv).onRaise (leaving cenv)) [] s
    rw [compTurn_gen, Sem.onRaise_eq_wrap]
    refine seg_bind_wrap (wpAny_standAt ?_)
    refine seg_bind_wrap (wpAny_mono (last s hJ) (fun r s1 h1 => ?_) fun _ _ z => z.elim)
    obtain ⟨rfl, hd⟩ := h1
    exact seg_end (.ok .next) (.inl ⟨.inr rfl, rfl, hd⟩)
  | succ k ih =>
    intro i s₀ s hk hi hJ
    have hlt : i < n := by omega
    show Seg _ A _ _ _ s₀ _ ((compTurn (.GeneratorExp elt [⟨tg, iter, [], 0⟩] scope pos) 0 it .none cenv).onRaise (leaving cenv)) [] s
    rw [compTurn_gen, Sem.onRaise_eq_wrap]
    refine seg_bind_wrap (wpAny_standAt ?_)
    refine seg_bind_wrap (wpAny_mono (turn i s hlt hJ) (fun r s1 h1 => ?_) fun _ _ z => z.elim)
    obtain ⟨u, rfl, h1⟩ := h1
    refine seg_bind_wrap (wpAny_mono h1 (fun _ s2 h2 => ?_) fun _ _ z => z.elim)
    refine seg_bind_wrap (wpAny_mono h2 (fun _ s3 h3 => ?_) fun _ _ z => z.elim)
    refine seg_bind_wrap (wpAny_of_eq (a := true) (by rw [List.forIn_nil]) ?_)
    simp only [if_true]
    have hy : ∀ v, yieldOut cenv v = yieldValue v := fun v => by simp only [yieldOut, hco, Bool.false_eq_true, if_false]
    simp only [hy]
    rw [Sem.bind_eq_wrap', Sem.bind_eq_wrap', Sem.wrap_wrap, Sem.wrap_wrap]
    refine seg_wrap (wpAny_mono h3 (fun y s4 h4 => ?_) fun _ _ z => z.elim)
    obtain ⟨d, rfl, h4⟩ := h4
    refine seg_at (seg_yield rfl rfl rfl ⟨i, d, by omega, rfl, h4, fun s'' hJ'' => ?_⟩)
    exact seg_again rfl (ih (i + 1) s'' s'' (by omega) hlt hJ'')
theorem seg_genS (hco : cenv.scope.isCoroutine = false) {s₀ s : Shared} {k : Nat}
    (self : ∀ (A : Around) (Q : Value → Shared → Prop) (E : Value → Shared → Prop), Q it s → wpAny (model P w) A (pyIter it) Q E s)
    (loop : Seg (model P w) A (gR c Dn) (gY c J Dn n) k s₀ (gCode elt tg iter scope pos it cenv) ((model P w).den (gCode elt tg iter scope pos it cenv)) [] s) :
    Seg (model P w) A (gR c Dn) (gY c J Dn n) k s₀ (.compStart (.GeneratorExp elt [⟨tg, iter, [], 0⟩] scope pos) 0 it .none cenv) ((model P w).den (.compStart (.GeneratorExp elt [⟨tg, iter, [], 0⟩] scope pos) 0 it .none cenv)) [] s := by
  show Seg _ A _ _ _ s₀ _ ((compStart (.GeneratorExp elt [⟨tg, iter, [], 0⟩] scope pos) 0 it .none cenv).onRaise (leaving cenv)) [] s
  unfold compStart
  rw [Sem.onRaise_eq_wrap]
  show Seg _ A _ _ _ s₀ _ ((ask >>= _).wrap _ _ _ _) [] s
  refine seg_bind_wrap (wpAny_askSetting ?_)
  split
  · exact seg_again rfl loop
  · first
      | exact seg_bind_wrap (wpAny_rule (seg_bind_wrap (wpAny_standAt (seg_bind_wrap (self _ _ _ (seg_again rfl loop))))))
      | (refine seg_bind_wrap (wpAny_rule ?_); show Seg _ A _ _ _ s₀ _ ((standAt iter.pos >>= _).wrap _ _ _ _) [] s; exact seg_bind_wrap (wpAny_standAt (seg_bind_wrap (self _ _ _ (seg_again rfl loop)))))
end

/-! ### the consumer's loop -/
section
variable {P : Program} {w : World} {A : Around} {c : Bool} {J : Nat → Shared → Prop} {Dn : Bool → Shared → Prop} {n : Nat} {a : Addr} {g : Nat} {R : Result → Shared → Prop}
/-- what a run of the generator leaves alone -/
structure GSt (a : Addr) (g : Nat) (J : Nat → Shared → Prop) (Dn : Bool → Shared → Prop) : Prop where
  gen : ∀ i s, J i s → s.heap.IsGen a g ∧ s.heap.NoLimit
  setJ : ∀ i s x, x.bare = true → J i s → J i (s.setGen g x)
  setD : ∀ d s x, x.bare = true → Dn d s → Dn d (s.setGen g x)
  keepD : ∀ d (s : Shared) h', (∀ b o, s.heap.get? b = some o → h'.get? b = some o) → Dn d s → Dn d { s with heap := h' }
def GGo (P : Program) (w : World) (A : Around) (c : Bool) (J : Nat → Shared → Prop) (Dn : Bool → Shared → Prop) (n g m : Nat) (s : Shared) : Prop :=
  ∃ gs, s.gens[g]? = some gs ∧ gs.Goes (model P w) A (gR c Dn) (gY c J Dn n) m (.send .none) (s.setGen g .running)
theorem next_gy (S : GSt a g J Dn) (hh : A.handled = none) (hd : A.depth < recursionLimit) {i : Nat} {s : Shared} {Q : Option Value → Shared → Prop} {E : Value → Shared → Prop} (hJ : J i s) (hi : i ≤ n) (go : GGo P w A.in1 c J Dn n g (n - i) s)
    (hV : ∀ d s', i < n → (if d = c then Dn c s' else J (i + 1) s' ∧ GGo P w A.in1 c J Dn n g (n - (i + 1)) s') → Q (some (.bool d)) s') (hN : ∀ s', Dn (!c) s' → Q none s') :
    wpAny (model P w) A (pyNext (.ref a)) Q E s := by
  obtain ⟨gs, hgs, hgo⟩ := go
  obtain ⟨h1, h2⟩ := S.gen i s hJ
  have hgl : g < s.gens.size := (Array.getElem?_eq_some_iff.mp hgs).1
  refine wpAny_gsz (n := g + 1) hgl (next_genG (F := fun m _ s1 => m = 0 ∧ Dn (!c) s1) (Er := fun _ _ => False) hh h2 hd h1 hgs hgo (fun v s₁ gs' hbare hv => ?_) (fun s₁ hp h' hk => ?_) fun e s₁ he => he.elim)
  · intro hsz
    obtain ⟨j, d, hj, rfl, hJ1, hk⟩ := hv
    have hsz1 : g < s₁.gens.size := by
      have q : (s₁.setGen g gs').gens.size = s₁.gens.size := setGen_size _ _ _
      have hsz' : g + 1 ≤ (s₁.setGen g gs').gens.size := hsz
      omega
    cases hm : n - i with
    | zero =>
      exfalso
      rw [hm] at hj hk
      have hji : j + 1 = i := by omega
      exact hk s (by rw [hji]; exact hJ)
    | succ m =>
      rw [hm] at hj hk
      have hji : j = i := by omega
      subst hji
      refine hV d _ (by omega) ?_
      by_cases hdc : d = c
      · rw [if_pos hdc] at hJ1 ⊢
        exact S.setD _ _ _ hbare hJ1
      · rw [if_neg hdc] at hJ1 ⊢
        refine ⟨S.setJ _ _ _ hbare hJ1, gs', setGen_at hsz1, ?_⟩
        have e : n - (j + 1) = m := by omega
        rw [e]
        exact hk _ (S.setJ _ _ _ rfl (S.setJ _ _ _ hbare hJ1))
  · intro hsz
    exact hN _ (S.keepD _ _ _ hk (S.setD _ _ _ rfl hp.2))
theorem all_gen (S : GSt a g J Dn) (hh : A.handled = none) (hd : A.depth < recursionLimit) (hR : ∀ d s, Dn d s → R (.ok (.ret (.bool d))) s) (hc : c = false) : ∀ (k i : Nat) (s : Shared), n - i = k → i ≤ n → J i s → GGo P w A.in1.in1 c J Dn n g (n - i) s →
    codeAny (model P w) A (.builtin "all.loop" ⟨[.ref a], []⟩) R s := by
  subst hc
  intro k
  induction k with
  | zero =>
    intro i s hk hi hJ go
    refine codeAny_builtin F.entry_all_loop ?_
    rw [Around.under_plainId F.plain_all_loop _]
    show wpAny _ A.in1 (pyNext (.ref a) >>= _) _ _ s
    refine wpAny_bind (next_gy (A := A.in1) S hh hd hJ hi go (fun d s' h _ => absurd h (by omega)) fun s' h => ?_)
    exact wpAny_bind (wpAny_rule (wpAny_pure (hR _ _ h)))
  | succ k ih =>
    intro i s hk hi hJ go
    refine codeAny_builtin F.entry_all_loop ?_
    rw [Around.under_plainId F.plain_all_loop _]
    show wpAny _ A.in1 (pyNext (.ref a) >>= _) _ _ s
    refine wpAny_bind (next_gy (A := A.in1) S hh hd hJ hi go (fun d s' h q => ?_) fun s' h => ?_)
    · refine wpAny_bind (wpAny_holding (wpAny_truthy_bool ?_))
      refine wpAny_bind (wpAny_letGo ?_)
      cases d with
      | true =>
        rw [if_neg (by decide)] at q
        simp only [if_true]
        exact wpAny_pure ⟨plainId_quiet F.plain_all_loop _, ih (i + 1) _ (by omega) h q.1 q.2⟩
      | false =>
        rw [if_pos rfl] at q
        simp only [Bool.false_eq_true, if_false]
        exact wpAny_bind (wpAny_rule (wpAny_pure (hR _ _ q)))
    · exact wpAny_bind (wpAny_rule (wpAny_pure (hR _ _ h)))
theorem any_gen (S : GSt a g J Dn) (hh : A.handled = none) (hd : A.depth < recursionLimit) (hR : ∀ d s, Dn d s → R (.ok (.ret (.bool d))) s) (hc : c = true) : ∀ (k i : Nat) (s : Shared), n - i = k → i ≤ n → J i s → GGo P w A.in1.in1 c J Dn n g (n - i) s →
    codeAny (model P w) A (.builtin "any.loop" ⟨[.ref a], []⟩) R s := by
  subst hc
  intro k
  induction k with
  | zero =>
    intro i s hk hi hJ go
    refine codeAny_builtin F.entry_any_loop ?_
    rw [Around.under_plainId F.plain_any_loop _]
    show wpAny _ A.in1 (pyNext (.ref a) >>= _) _ _ s
    refine wpAny_bind (next_gy (A := A.in1) S hh hd hJ hi go (fun d s' h _ => absurd h (by omega)) fun s' h => ?_)
    exact wpAny_bind (wpAny_rule (wpAny_pure (hR _ _ h)))
  | succ k ih =>
    intro i s hk hi hJ go
    refine codeAny_builtin F.entry_any_loop ?_
    rw [Around.under_plainId F.plain_any_loop _]
    show wpAny _ A.in1 (pyNext (.ref a) >>= _) _ _ s
    refine wpAny_bind (next_gy (A := A.in1) S hh hd hJ hi go (fun d s' h q => ?_) fun s' h => ?_)
    · refine wpAny_bind (wpAny_holding (wpAny_truthy_bool ?_))
      refine wpAny_bind (wpAny_letGo ?_)
      cases d with
      | false =>
        rw [if_neg (by decide)] at q
        simp only [Bool.false_eq_true, if_false]
        exact wpAny_pure ⟨plainId_quiet F.plain_any_loop _, ih (i + 1) _ (by omega) h q.1 q.2⟩
      | true =>
        rw [if_pos rfl] at q
        simp only [if_true]
        exact wpAny_bind (wpAny_rule (wpAny_pure (hR _ _ q)))
    · exact wpAny_bind (wpAny_rule (wpAny_pure (hR _ _ h)))
end
end DL
set_option Elab.async false
set_option linter.all false
set_option maxRecDepth 100000
set_option maxHeartbeats 1000000
/-! DK: the D layer: any, all of a generator expression, joined -/
namespace DL
open PySem PySem.Spec PyProof.Rows L2 GenW

def gnL (c : Bool) (b : Bnd) (elt : M) (ρ0 : DEnv) : List PV → Nat → Out Bool
  | [], n => .ok (!c) n
  | p :: ps, n => match b p ρ0 with
    | none => .stuck
    | some ρ1 => (elt ρ1 n).bind fun q n1 => match q with
      | .bool d => if d = c then .ok c n1 else gnL c b elt ρ0 ps n1
      | _ => .stuck
def gnM (c : Bool) (it : MA) (b : Bnd) (elt : M) (vs : List Nat) : M := fun ρ n => (it ρ n).bind fun items n1 => (noX (gnL c b elt (wipeE ρ vs) items n1)).bind fun d n2 => .ok (.bool d) n2
structure GnP (X : Cx) (g : Gx) (k : Nat) (elt tg : Expr) (scope : Scope) (own : List (Str × Nat)) (b : Bnd) (fe : M) : Prop where
  ok : GenOk X.N X.env.scope scope own
  tg : ∃ (t : TG) (is : List Nat), (∀ i ∈ is, i ∈ own.map (·.2)) ∧ (∀ (A : Around) (s : Shared) (H : Hp) (C : Addr) (code : Value) (fp : List Addr), PG (gX X A s H scope C code fp) tg t) ∧ DT X.K t b is
  el : ∀ (A : Around) (s : Shared) (H : Hp) (C : Addr) (code : Value) (fp : List Addr), Room k A → PE (gX X A s H scope C code fp) elt (tD g.q RF fe)

section
variable {g : Gx} {n : Nat} {F H H' : Hp} {P : Addr}
/-- a table has grown -/
theorem Bd.tabbed (b : Bd g n F H) (hP : P ∈ g.T) (t : GxR.Tabbed P H H') : Bd g n F H' ∧ Stp g F H F H' := by
  obtain ⟨t1, t2⟩ := t
  have fP := (b.tab P hP).2
  have ne : ∀ a, ¬ g.odd a → a ≠ P := fun a h z => h (.inl (by rw [z]; exact hP))
  have nF : ∀ a o, F a = some o → a ≠ P := fun a o e z => by
    rw [z, fP] at e
    cases e
  refine ⟨⟨fun a o h => by rw [t2 a (nF a o h)]; exact b.fh a o h, b.sub, fun a o h od => by rw [t2 a (ne a od)]; exact b.kept a o h od, b.was, fun Q hQ => ?_, fun B R e => ?_⟩, Sub.refl _, fun a o h od => by rw [t2 a (ne a od)]; exact h, fun _ _ _ => rfl⟩
  · by_cases z : Q = P
    · rw [z]
      exact ⟨t1, fP⟩
    · obtain ⟨⟨ps, h1, h2⟩, h3⟩ := b.tab Q hQ
      exact ⟨⟨ps, by rw [t2 Q z]; exact h1, h2⟩, h3⟩
  · obtain ⟨h1, h2, r, h3, h4⟩ := b.box B R e
    have hB : B ≠ P := fun z => h1 (by rw [z]; exact hP)
    exact ⟨h1, h2, r, by rw [t2 B hB]; exact h3, h4⟩
end
section
variable {X : Cx} {g : Gx} {elt tg iter : Expr} {scope : Scope} {own : List (Str × Nat)} {pos gpos p : Pos} {it : MA} {b : Bnd} {fe : M} {k : Nat} {c P : Addr}
theorem over_hd {A : Around} {itv : Value} {cenv : Env} : (A.in1.in1.over (gCode elt tg iter scope pos itv cenv) []).handled = A.handled := rfl
theorem over_dp {A : Around} {itv : Value} {cenv : Env} : (A.in1.in1.over (gCode elt tg iter scope pos itv cenv) []).depth = A.depth + 1 := rfl
theorem over_un {A : Around} {itv : Value} {cenv : Env} : (A.in1.in1.over (gCode elt tg iter scope pos itv cenv) []).units = A.units + 5 := rfl
theorem over_fr {A : Around} {itv : Value} {cenv : Env} {l : List Env} (h : A.frames = some l) : (A.in1.in1.over (gCode elt tg iter scope pos itv cenv) []).frames = some (cenv :: l) := by
  show (A.in1.in1.over (gCode elt tg iter scope pos itv cenv) []).frames = _
  unfold Around.over
  show pushEnvs [cenv] (pushEnvs [] A.frames) = _
  rw [h]
  rfl
theorem Room.over {A : Around} {itv : Value} {cenv : Env} (r : Room (k + 1) A) : Room k (A.in1.in1.over (gCode elt tg iter scope pos itv cenv) []) :=
  ⟨r.hd, by have := r.dp; rw [over_dp]; omega, by have := r.un; rw [over_un]; omega⟩

/-- the generator is made; Q': ready to be walked -/
theorem gen_make {cst : Bool} {pins : List (Addr × Obj)} {s : Shared} {σ : L2.St} {H : Hp} {Q : VK} {Q' : Value → Shared → Prop} (hK : g.K = X.K) (hr : Room (k + 1) X.A) (TB : GxR.TabB X.base X.mg c P) (hP : P ∈ g.T) (hcode : X.env.code = .ref c) (hN : X.N.Nodup)
    (hi : PI X tg iter (iD g it)) (L : GnP X g k elt tg scope own b fe) (hs : ∀ v, genFold iter X.env v = pure v) (I : Inv X pins σ H s) (h : tD g RF (gnM cst it b fe (own.map (·.2))) σ H Q)
    (hQ : ∀ (a : Addr) (gi : Nat) (s5 : Shared) (J : Nat → Shared → Prop) (Dn : Bool → Shared → Prop) (n : Nat), s5.heap.IsGen a gi → GSt a gi J Dn → J 0 s5 → GGo X.prog X.w X.A.in1.in1 cst J Dn n gi n s5 →
      (∀ d s', Dn d s' → ∃ v H', Inv X pins σ H' s' ∧ RelV v (.bool d) ∧ Q v H') → Q' (.ref a) s5) :
    wpAny (model X.prog X.w) X.A (eval (.GeneratorExp elt [⟨tg, iter, [], 0⟩] scope gpos) X.env) Q' X.xe s := by
  obtain ⟨ρ, n, F, kk, h⟩ := h
  have hfree : ∀ y ∈ scope.names, y.2 = .free → ∃ c, X.env.cells.lookup y.1 = some c := fun y hy e => by
    rcases L.ok.b.free y hy e with k | k
    · exact I.ok.has _ (.inl k)
    · exact I.ok.has _ (.inr k)
  refine wpAny_GeneratorExp_make L.ok.co (closure_ok hfree) L.ok.cell L.ok.dot L.ok.b.kind (by have := hr.dp; omega) ?_ hs
  refine thn (hi.run pins s σ H (fun J H1 => ∃ items n1 F1, Bd g n1 F1 H1 ∧ Stp g F H F1 H1 ∧ ItOk g J F1 items ∧ PO g F1 H1 σ ((noX (gnL cst b fe (wipeE ρ (own.map (·.2))) items n1)).bind fun d n2 => .ok (.bool d) n2) fun p n' F' H' => ∀ v, RF g F H F' H' p v → Q v H') I
    ⟨ρ, n, F, kk, (PO.bind h).imp fun items n1 F1 H1 b1 s1 q hz J hJ => ⟨items, n1, F1, b1, s1, hJ, q⟩⟩) fun xv s1 hx => thn hx fun itv s2 h2 => ?_
  obtain ⟨ita, fp, tn, J, H1, rfl, I2, T, st2, f2, items, n1, F1, b1, st1, hJ, q⟩ := h2
  obtain ⟨r, nf, er, q⟩ : ∃ r nf, gnL cst b fe (wipeE ρ (own.map (·.2))) items n1 = .ok r nf ∧ ∀ F' H', Bd g nf F' H' → Stp g F1 H1 F' H' → ∀ v, RF g F H F' H' (.bool r) v → Q v H' := by
    cases e : gnL cst b fe (wipeE ρ (own.map (·.2))) items n1 with
    | ok r nf => rw [e] at q; exact ⟨r, nf, rfl, q⟩
    | exc x n3 => rw [e] at q; exact q.elim
    | stuck => rw [e] at q; exact q.elim
  obtain ⟨⟨ps, hPt, ht⟩, fP⟩ := b1.tab P hP
  have hPs : s2.heap.get? P = some { cls := .none, data := .fields ps } := I2.hok P _ hPt
  have cd : PySem.W.CodeHd s2.heap c P := TB.code.keeps I2.bk
  have hcP : cStatics ≠ P := fun e => by
    obtain ⟨_, hns, _⟩ := I2.nolimit
    obtain ⟨o', es, ep, ho, hd, _⟩ := hns
    rw [e, hPs] at ho
    cases ho
    cases hd
  refine ⟨I2.nolimit, ?_⟩
  have cont : ∀ (code : Value) (h3 : Heap) (tk : Nat) (ps' : Array Value), Heap.ExtBut P s2.heap h3 → s2.heap.objs.size ≤ h3.objs.size → h3.get? P = some { cls := .none, data := .fields ps' } → (∃ more, ps' = ps ++ more) → TriplesOk ps'.toList →
      wpAny (model X.prog X.w) X.A (builtinsFor X.env.globals X.env.builtins) (fun bi s₄ =>
        ∀ h', h'.Ns s₄.heap.objs.size (fun y => if y = ".0" then some (Value.ref ita) else none) → Heap.SameBut s₄.heap.objs.size (s₄.heap.push { cls := .type "frame", data := .dict #[] }) h' →
          Q' (.ref h'.objs.size) { s₄ with
            gens := s₄.gens.push (.fresh (.compStart (.GeneratorExp elt [⟨tg, iter, [], 0⟩] scope gpos) 0 (.ref ita) .none (genEnv scope (cloFrom X.env.cells scope.names []) s₄.heap.objs.size code bi X.env))),
            toks := s₄.toks + 1 + 1 + 1,
            heap := h'.push { cls := .type "generator", data := .fields #[.int s₄.gens.size 0, .str "<genexpr>" (s₄.toks + 1), .str (X.env.qual ++ "<genexpr>") (s₄.toks + 1 + 1)] } }) X.xe { s2 with heap := h3, toks := tk } := by
    intro code h3 tk ps' hx hsz hP3 hmore ht3
    obtain ⟨bm, ob, e1, e2, e3, e4, e5, e6, e7, e8⟩ := TB.bm
    have keep3 : ∀ b u, b ≠ P → s2.heap.get? b = some u → h3.get? b = some u := fun b u hb e => hx b u hb e
    refine wpAny_builtinsFor (m := X.mg) (by rw [I2.ok.glob]; exact (I2.mod.glob.keeps I2.bk).extBut hx TB.gP) e1 e2 (keep3 _ _ e4 (I2.bk _ _ e5)) e6 e7 e8 ?_
    obtain ⟨more, rfl⟩ := hmore
    have I3 : Inv X pins σ (upd H1 P (.tbl (ps ++ more))) { s2 with heap := h3, toks := tk } := GxR.inv_tab I2 hPt (fun b u hb e => keep3 b u hb e) hP3 I2.bare
    have tbd : GxR.Tabbed P H1 (upd H1 P (.tbl (ps ++ more))) := ⟨⟨_, upd_same, ht3⟩, fun b hb => upd_ne hb⟩
    obtain ⟨b3, st3⟩ := b1.tabbed hP tbd
    generalize hH3 : upd H1 P (.tbl (ps ++ more)) = H3 at I3 b3 st3
    generalize hs3 : ({ s2 with heap := h3, toks := tk } : Shared) = s3 at I3 ⊢
    have h3h : s3.heap = h3 := by rw [← hs3]
    intro h' hns hsb
    have kp' : ∀ b o, s3.heap.get? b = some o → h'.get? b = some o := fun b o e => (hsb.2 b (Nat.ne_of_lt (Heap.lt_size e))).trans (Heap.get?_push_of_some _ e)
    have hsz' : h'.objs.size = s3.heap.objs.size + 1 := by rw [hsb.1, Heap.size_push]
    generalize hgo : ({ cls := .type "generator", data := .fields #[.int s3.gens.size 0, .str "<genexpr>" (s3.toks + 1), .str (X.env.qual ++ "<genexpr>") (s3.toks + 1 + 1)] } : Obj) = gob
    have gobn : ∀ v, gob.data ≠ .cell v := fun v z => by
      rw [← hgo] at z
      cases z
    have kp5 : ∀ b o, s3.heap.get? b = some o → (h'.push gob).get? b = some o := fun b o e => Heap.get?_push_of_some _ (kp' b o e)
    have ha5 : (h'.push gob).get? h'.objs.size = some gob := Heap.get?_push_size _ (by rw [← hgo]; rfl)
    have isG : ∀ h : Heap, h.get? h'.objs.size = some gob → h.IsGen h'.objs.size s3.gens.size := fun h e => ⟨gob, _, _, e, by rw [← hgo], by rw [← hgo], by rw [← hgo]⟩
    generalize hce : genEnv scope (cloFrom X.env.cells scope.names []) s3.heap.objs.size code builtinsNs X.env = cenv
    have fbd : ∀ b ∈ fp, FpOk X pins H3 b ∧ b < s3.heap.objs.size := fun b hb => by
      obtain ⟨o, e, _⟩ := T.obj _ _ st2 b hb
      have hbP : b ≠ P := fun z => by
        have := (f2 b hb).1
        rw [z, hPt] at this
        cases this
      refine ⟨⟨?_, (f2 b hb).2⟩, ?_⟩
      · rw [← hH3, upd_ne hbP]
        exact (f2 b hb).1
      · rw [h3h]
        exact Heap.lt_size (keep3 b o hbP e)
    have st0 : ∀ h5 : Heap, (∀ b o, s3.heap.get? b = some o → h5.get? b = some o) → tn 0 h5 := fun h5 k5 => T.keep _ _ _ st2 fun b hb o e => k5 b o (by
      rw [h3h]
      refine keep3 b o (fun z => ?_) e
      have := (f2 b hb).1
      rw [z, hPt] at this
      cases this)
    generalize hs5 : ({ s3 with gens := s3.gens.push (.fresh (.compStart (.GeneratorExp elt [⟨tg, iter, [], 0⟩] scope gpos) 0 (.ref ita) .none cenv)), toks := s3.toks + 1 + 1 + 1, heap := h'.push gob } : Shared) = s5
    have h5h : s5.heap = h'.push gob := by rw [← hs5]
    have h5o : s5.os = s3.os := by rw [← hs5]
    have h5g : s5.gens = s3.gens.push (.fresh (.compStart (.GeneratorExp elt [⟨tg, iter, [], 0⟩] scope gpos) 0 (.ref ita) .none cenv)) := by rw [← hs5]
    have bare5 : AllBare s5.gens := by
      rw [h5g]
      exact I3.bare.push rfl
    have AGfr := over_fr (elt := elt) (tg := tg) (iter := iter) (scope := scope) (pos := gpos) (itv := .ref ita) (cenv := cenv) (A := X.A) I3.ok.frames
    generalize hAG : X.A.in1.in1.over (gCode elt tg iter scope gpos (.ref ita) cenv) [] = AG at AGfr
    have AGhd : AG.handled = none := by rw [← hAG]; exact hr.hd
    have AGr : Room k AG := by rw [← hAG]; exact Room.over hr
    have I5 : Inv (gX X AG s3 H3 scope s3.heap.objs.size code fp) [] (wipe σ (own.map (·.2))) H3 s5 := gen_start (m := fun y => if y = ".0" then some (Value.ref ita) else none) I3 L.ok hN fbd AGhd (by rw [hce]; exact AGfr) rfl (by rw [h5h]; exact hns.push _) (fun b o e => by rw [h5h]; exact kp5 b o e) h5o bare5
    obtain ⟨t, is, hsub, hpg, hdt⟩ := L.tg
    have pg := hpg AG s3 H3 s3.heap.objs.size code fp
    have pe := L.el AG s3 H3 s3.heap.objs.size code fp AGr
    have hYA : (gX X AG s3 H3 scope s3.heap.objs.size code fp).A = AG := rfl
    have hYe : (gX X AG s3 H3 scope s3.heap.objs.size code fp).env = cenv := hce
    have hYfs : (gX X AG s3 H3 scope s3.heap.objs.size code fp).fs = frs X.stack := rfl
    have hYex : (gX X AG s3 H3 scope s3.heap.objs.size code fp).ex = fp := rfl
    have hYpn : (gX X AG s3 H3 scope s3.heap.objs.size code fp).pn = [] := rfl
    have hYloc : (gX X AG s3 H3 scope s3.heap.objs.size code fp).env.locals = s3.heap.objs.size := rfl
    have back : ∀ {pins' : List (Addr × Obj)} {σ' : L2.St} {H' : Hp} {s' : Shared}, Inv (gX X AG s3 H3 scope s3.heap.objs.size code fp) pins' σ' H' s' → Inv X pins σ H' s' := fun {pins' σ' H' s'} I' =>
      I3.call' (ch := fp) I'.os I'.base I'.hok I'.bare fun b hb => ⟨(fbd b hb).1.2.2.2.1, (fbd b hb).1.2.1, (fbd b hb).1.2.2.2.2.1, (fbd b hb).1.2.2.2.2.2⟩
    generalize hY : gX X AG s3 H3 scope s3.heap.objs.size code fp = Y at I5 pg pe hYA hYe hYfs hYex hYpn hYloc back
    have hYP : Y.prog = X.prog := by rw [← hY]
    have hYw : Y.w = X.w := by rw [← hY]
    have hYK : Y.K = X.K := by rw [← hY]
    have hYc : Y.calm = true := by rw [← hY]
    have hYx : Y.xe = fun _ _ => False := by rw [← hY]
    have aF : H3 h'.objs.size = none := I3.hok.fresh (by rw [hsz']; exact Nat.le_succ _)
    have aFs : h'.objs.size ∉ frs X.stack := fun z => by
      rcases List.mem_cons.mp (I3.stkSub _ z) with z | z
      · have := I3.lt
        rw [← z, hsz'] at this
        exact absurd this (Nat.not_lt_of_le (Nat.le_succ _))
      · exact I3.nofs (by rw [hsz']; exact Nat.le_succ _) z
    have I5p : Inv Y [(h'.objs.size, gob)] (wipe σ (own.map (·.2))) H3 s5 := I5.pins_of fun p hp => by
      have e : p = (h'.objs.size, gob) := by simpa using hp
      subst e
      exact ⟨by rw [h5h]; exact ha5, aF, by rw [hYloc, hsz']; exact Nat.succ_ne_self _, by rw [hYfs]; exact aFs, gobn⟩
    have stat : ∀ {σ' : L2.St} {H' : Hp} {s' : Shared}, Inv Y [(h'.objs.size, gob)] σ' H' s' → (∀ b ∈ fp, H' b = none) → ∀ b ∈ fp, FpOk Y [(h'.objs.size, gob)] H' b := fun {σ' H' s'} I' hn b hb =>
      ⟨hn b hb, (I'.ok.exf b (by rw [hYex]; exact hb)).1, I'.ok.exfs b (by rw [hYex]; exact hb), .inl (by rw [hYex]; exact hb), fun x c e => (I'.ok.exf b (by rw [hYex]; exact hb)).2 x c e, fun p hp z => by
        rw [hYpn] at hp
        have e : p = (h'.objs.size, gob) := by simpa using hp
        subst e
        have h1 := (fbd b hb).2
        have z' : h'.objs.size = b := z
        rw [← z', hsz'] at h1
        exact absurd h1 (Nat.not_lt_of_le (Nat.le_succ _))⟩
    -- the invariant ahead of turn i, the answer
    let J' : Nat → Shared → Prop := fun i s' => ∃ H' n' F', Inv Y [(h'.objs.size, gob)] (wipe σ (own.map (·.2))) H' s' ∧ tn i s'.heap ∧ (∀ b ∈ fp, H' b = none) ∧ Bd g n' F' H' ∧ Stp g F1 H3 F' H' ∧ gnL cst b fe (wipeE ρ (own.map (·.2))) (items.drop i) n' = .ok r nf
    let Dn : Bool → Shared → Prop := fun d s' => ∃ H' F', d = r ∧ Inv X pins σ H' s' ∧ Bd g nf F' H' ∧ Stp g F1 H3 F' H'
    have gst : GSt h'.objs.size s3.gens.size J' Dn := by
      refine ⟨fun i s' ⟨H', n', F', I', _⟩ => ⟨isG _ (I'.pin (h'.objs.size, gob) (by rw [hYpn]; exact List.mem_cons_self)).1, I'.nolimit⟩, fun i s' x hx ⟨H', n', F', I', h2, h3⟩ => ⟨H', n', F', (Inv.regen I' (fun _ _ e => e) rfl (allBare_setGen I'.bare hx)), h2, h3⟩,
        fun d s' x hx ⟨H', F', h1, I', h2⟩ => ⟨H', F', h1, (Inv.regen I' (fun _ _ e => e) rfl (allBare_setGen I'.bare hx)), h2⟩, fun d s' h6 hk ⟨H', F', h1, I', h2⟩ => ⟨H', F', h1, Inv.regen I' hk rfl I'.bare, h2⟩⟩
    have j0 : J' 0 s5 := ⟨H3, n1, F1, I5p, st0 _ (fun b o e => by rw [h5h]; exact kp5 b o e), fun b hb => (fbd b hb).1.1, b3, Stp.refl, by rw [List.drop_zero]; exact er⟩
    refine hQ h'.objs.size s3.gens.size s5 J' Dn items.length (isG _ (by rw [h5h]; exact ha5)) gst j0 ?_ fun d s' ⟨H', F', h1, I', h2, h4⟩ => ⟨.bl d, H', I', rfl, by rw [h1]; exact q F' H' h2 (st3.trans b3 h4) _ (.bl _)⟩
    refine ⟨.fresh (.compStart (.GeneratorExp elt [⟨tg, iter, [], 0⟩] scope gpos) 0 (.ref ita) .none cenv), by rw [h5g]; exact Array.getElem?_push_size .., ?_⟩
    have j1 := gst.setJ 0 s5 .running rfl j0
    generalize s5.setGen s3.gens.size .running = s6 at j1
    have hco : cenv.scope.isCoroutine = false := by rw [← hce]; exact L.ok.co
    refine ⟨rfl, ?_⟩
    refine seg_genS hco (fun A Q E hq => by
      obtain ⟨_, _, _, _, h2, _⟩ := j1
      exact T.self A 0 s6 Q E h2 hq) (seg_gen hco (fun i s' hi hj => ?_) (fun s' hj => ?_) items.length 0 s6 s6 (Nat.sub_zero _) (Nat.zero_le _) j1)
    · rw [hAG]
      obtain ⟨H', n', F', I', t', nf', b', s'', e'⟩ := hj
      have ti := T.item Y hYP hYw hYK hYc i [(h'.objs.size, gob)] s' _ H' (fun _ _ => False) I' (stat I' nf') t' (hJ.go i n' F' H' b' (st3.ff.trans s''.ff) hi)
      rw [hYA] at ti
      refine thnF ti fun r1 s7 ⟨u, hr1, h7⟩ => ⟨u, hr1, thnF h7 fun _ s8 ⟨x, H8, I8, r8, y8, t8, n8⟩ => ?_⟩
      obtain ⟨F8, b8, st8, rx⟩ := hJ.yld i n' F' H' x H8 _ b' (st3.ff.trans s''.ff) (List.getElem?_eq_getElem hi) y8
      rw [List.drop_eq_getElem_cons hi] at e'
      unfold gnL at e'
      have s38 := s''.trans b' st8
      have k8 := (kk.step b8 (st1.trans b1 (st3.trans b3 s38))).wipe (own.map (·.2))
      cases eb : b items[i] (wipeE ρ (own.map (·.2))) with
      | none => rw [eb] at e'; cases e'
      | some ρ8 =>
        rw [eb] at e'
        obtain ⟨qv, n9, ee, e9⟩ := Out.bind_ok_inv e'
        have I8' := I8.pinned (stat I8 n8) (T.obj _ _ t8)
        have run1 := pg.run _ s8 _ H8 x u (fun σ9 H9 => wipe σ9 (own.map (·.2)) = wipe σ (own.map (·.2)) ∧ H9 = H8 ∧ Ok g.q ρ8 n' σ9 F8 H8) I8' r8 (hdt g.q (wipeE ρ (own.map (·.2))) ρ8 n' (wipe σ (own.map (·.2))) F8 H8 _ x _ hK k8.q rx eb fun σ2 k4 ho hl => ⟨wipe_eq hl ho hsub, rfl, k4⟩)
        rw [hYP, hYw, hYA, hYe, hYx] at run1
        refine thnF run1 fun _ s9 ⟨σ9, H9, I9, hw9, e10, k9⟩ => ?_
        subst e10
        have run2 := pe.run _ s9 σ9 H9 (fun v H10 => ∃ F10, Bd g n9 F10 H10 ∧ Stp g F8 H9 F10 H10 ∧ Rp g.K F10 qv v) I9 ⟨ρ8, n', F8, k9, by
          rw [ee]
          intro F10 H10 b10 s10 v rv
          exact ⟨F10, b10.unq, s10.unq, rv⟩⟩
        rw [hYP, hYw, hYA, hYe, hYx] at run2
        refine thnF run2 fun y s10 ⟨v, H10, I10, r10, F10, b10, s10', rv⟩ => ?_
        cases qv with
        | bool d =>
          cases rv
          have ey : y = .bool d := r10
          refine ⟨d, ey, ?_⟩
          have e9 : (if d = cst then Out.ok cst n9 else gnL cst b fe (wipeE ρ (own.map (·.2))) (items.drop (i + 1)) n9) = .ok r nf := e9
          by_cases hd : d = cst
          · rw [if_pos hd] at e9 ⊢
            cases e9
            exact ⟨H10, F10, rfl, back I10, b10, s38.trans b8 s10'⟩
          · rw [if_neg hd] at e9 ⊢
            have pin' : ∀ b ∈ fp, ∀ o, s8.heap.get? b = some o → s10.heap.get? b = some o ∧ H10 b = none := fun b hb o e =>
              let z := I10.pin (b, o) (List.mem_append_right _ (List.mem_append_right _ (mem_pinsAt hb e)))
              ⟨z.1, z.2.1⟩
            have hl : (wipe σ (own.map (·.2))).length = σ9.length := by rw [← hw9, wipe_length]
            refine ⟨H10, n9, F10, (I10.pins_of (pins' := [(h'.objs.size, gob)]) fun p hp => I10.pin p (List.mem_append_right _ (List.mem_append_left _ hp))).weak hl (fun j v e => ?_), T.keep _ _ _ t8 fun b hb o e => (pin' b hb o e).1, fun b hb => ?_, b10, s38.trans b8 s10', e9⟩
            · rw [← hw9] at e
              exact (wipe_some e).1
            · obtain ⟨o, e, _⟩ := T.obj _ _ t8 b hb
              exact (pin' b hb o e).2
        | _ => cases e9
    · rw [hAG]
      obtain ⟨H', n', F', I', t', nf', b', s'', e'⟩ := hj
      rw [List.drop_length] at e'
      cases e'
      have td := T.done Y hYP hYw hYK hYc items.length [(h'.objs.size, gob)] s' _ H' (fun _ _ => False) I' (stat I' nf') t' (hJ.stop _ nf F' H' b' (st3.ff.trans s''.ff) (Nat.le_refl _))
      rw [hYA] at td
      exact thnF td fun r1 s7 ⟨hr1, I7⟩ => ⟨hr1, H', F', rfl, back I7, b', s''⟩
  cases hf : codeAmong gpos ps.toList with
  | none =>
    refine wpAny_genexprCodeX hcode (cd.code hPs ht) (cd.tab hPs) hf fun c' h' tk hx hge hlt hco' _ htab' _ => ?_
    obtain ⟨o1, vs, f1, tf, fl, tg, inF, tx, tt, op, _, _, _, _, _, _, _, _, _, htr, _⟩ := hco'
    exact cont _ h' tk _ hx (Nat.le_trans hge (Nat.le_of_lt hlt)) htab'.2 ⟨_, rfl⟩ htr
  | some cv =>
    refine wpAny_genexprCode_hit hcode (cd.code hPs ht) hf ?_
    exact cont cv s2.heap s2.toks ps (Heap.ExtBut.refl _ _) (Nat.le_refl _) hPs ⟨#[], by simp⟩ ht

theorem de_all (hK : g.K = X.K) (hr : Room (k + 1) X.A) (hg : Gl X "all") (hm : X.mg "all" = none) (hb : bootBuiltins "all" = some (.builtin "all")) (TB : GxR.TabB X.base X.mg c P) (hP : P ∈ g.T) (hcode : X.env.code = .ref c) (hN : X.N.Nodup) (hi : PI X tg iter (iD g it)) (L : GnP X g k elt tg scope own b fe)
    (hs : ∀ v, genFold iter X.env v = pure v := by intro _; rfl)
    (he : starEach [.GeneratorExp elt [⟨tg, iter, [], 0⟩] scope gpos] X.env = (false, eval (.GeneratorExp elt [⟨tg, iter, [], 0⟩] scope gpos) X.env) :: starEach [] X.env := by rfl) :
    PE X (.Call (.Name "all" p) [.GeneratorExp elt [⟨tg, iter, [], 0⟩] scope gpos] [] pos) (tD g RF (gnM false it b fe (own.map (·.2)))) := by
  refine ⟨fun pins s σ H Q I h => ?_⟩
  refine wpAny_Call_Name_kw (ld_blt I hg hm hb ?_)
  refine PyProof.Rows.callWith_builtin1 ?_ he (by rfl)
  rw [he]
  show wpAny _ _ (spliced ((false, eval (.GeneratorExp elt [⟨tg, iter, [], 0⟩] scope gpos) X.env) :: backTo pos (starEach [] X.env))) _ _ s
  refine Calls.spliced_cons (gen_make hK hr TB hP hcode hN hi L hs I h fun a gi s5 J Dn n hG gst j0 go hQ => ?_)
  refine Calls.spliced_nil ?_
  refine call_function_tree F.kind_all F.plain_all F.entry_all (F.args_all1 _) ?_
  unfold Builtin.«all»
  refine wpAny_bind (m := oneArg "all" _) (wpAny_pure ?_)
  refine wpAny_bind (wpAny_pyIter_gen hG ?_)
  exact wpAny_pure ⟨plainId_quiet F.plain_all_loop _, all_gen gst hr.hd (by have := hr.dp; omega) hQ rfl n 0 s5 rfl (Nat.zero_le _) j0 go⟩
theorem de_any (hK : g.K = X.K) (hr : Room (k + 1) X.A) (hg : Gl X "any") (hm : X.mg "any" = none) (hb : bootBuiltins "any" = some (.builtin "any")) (TB : GxR.TabB X.base X.mg c P) (hP : P ∈ g.T) (hcode : X.env.code = .ref c) (hN : X.N.Nodup) (hi : PI X tg iter (iD g it)) (L : GnP X g k elt tg scope own b fe)
    (hs : ∀ v, genFold iter X.env v = pure v := by intro _; rfl)
    (he : starEach [.GeneratorExp elt [⟨tg, iter, [], 0⟩] scope gpos] X.env = (false, eval (.GeneratorExp elt [⟨tg, iter, [], 0⟩] scope gpos) X.env) :: starEach [] X.env := by rfl) :
    PE X (.Call (.Name "any" p) [.GeneratorExp elt [⟨tg, iter, [], 0⟩] scope gpos] [] pos) (tD g RF (gnM true it b fe (own.map (·.2)))) := by
  refine ⟨fun pins s σ H Q I h => ?_⟩
  refine wpAny_Call_Name_kw (ld_blt I hg hm hb ?_)
  refine PyProof.Rows.callWith_builtin1 ?_ he (by rfl)
  rw [he]
  show wpAny _ _ (spliced ((false, eval (.GeneratorExp elt [⟨tg, iter, [], 0⟩] scope gpos) X.env) :: backTo pos (starEach [] X.env))) _ _ s
  refine Calls.spliced_cons (gen_make hK hr TB hP hcode hN hi L hs I h fun a gi s5 J Dn n hG gst j0 go hQ => ?_)
  refine Calls.spliced_nil ?_
  refine call_function_tree F.kind_any F.plain_any F.entry_any (F.args_any1 _) ?_
  unfold Builtin.«any»
  refine wpAny_bind (m := oneArg "any" _) (wpAny_pure ?_)
  refine wpAny_bind (wpAny_pyIter_gen hG ?_)
  exact wpAny_pure ⟨plainId_quiet F.plain_any_loop _, any_gen gst hr.hd (by have := hr.dp; omega) hQ rfl n 0 s5 rfl (Nat.zero_le _) j0 go⟩
end
end DL
set_option Elab.async false
set_option linter.all false
set_option maxRecDepth 100000
set_option maxHeartbeats 1000000
/-! DM: the D layer: names, contexts, defs of a text, the end -/
namespace DL
open PySem PySem.Spec PyProof.Rows L2

def FUEL : Nat := 1000000
def visB (sc : Scope) (x : Str) : Bool := match sc.names.lookup x with
  | some .local => true
  | some .cell => true
  | some .free => true
  | _ => false
theorem vis_by {sc : Scope} {x : Str} (h : visB sc x = true) : Vis sc x := by
  unfold visB at h
  cases e : sc.names.lookup x with
  | none => rw [e] at h; cases h
  | some k =>
    rw [e] at h
    cases k with
    | «local» => exact .inl e
    | cell => exact .inr (.inl e)
    | free => exact .inr (.inr e)
    | _ => cases h
def locB (sc : Scope) (x : Str) : Bool := match sc.names.lookup x with
  | some .local => true
  | some .cell => true
  | _ => false
theorem loc_by {sc : Scope} {x : Str} (h : locB sc x = true) : Loc sc x := by
  unfold locB at h
  cases e : sc.names.lookup x with
  | none => rw [e] at h; cases h
  | some k =>
    rw [e] at h
    cases k with
    | «local» => exact .inl e
    | cell => exact .inr e
    | _ => cases h
def genB (N : List Str) (sc scope : Scope) (own : List (Str × Nat)) : Bool := blkC N sc scope own && (!scope.isCoroutine && (scope.names.all (fun y => !decide (y.2 = .cell)) && decide (scope.names.lookup (".0" : Str) = some NameKind.local)))
theorem genOk_by {N : List Str} {sc scope : Scope} {own : List (Str × Nat)} (h : genB N sc scope own = true) : GenOk N sc scope own := by
  unfold genB at h
  obtain ⟨h1, h⟩ := Bool.and_eq_true_iff.mp h
  obtain ⟨h2, h⟩ := Bool.and_eq_true_iff.mp h
  obtain ⟨h3, h4⟩ := Bool.and_eq_true_iff.mp h
  exact ⟨blkOk_by h1, by simpa using h2, fun y hy => by simpa using List.all_eq_true.mp h3 y hy, of_decide_eq_true h4⟩
section
variable {X : Cx} {g : Gx} {k j : Nat}
theorem hu65 (r : Room k X.A) : X.A.units + 65 < cLine := by have := r.un; omega
theorem hu1 (r : Room k X.A) : X.A.units + 1 < cLine := by have := r.un; omega
theorem Mo.q {s : Shared} {H : Hp} {scope : Scope} {cenv : Env} {fp : List Addr} (m : Mo X g k) : Mo (X.blk s H scope cenv fp) g.q k := ⟨m.hK, m.hm, m.hr, L2.takes0⟩
theorem Mo.gn {A : Around} {s : Shared} {H : Hp} {scope : Scope} {C : Addr} {code : Value} {fp : List Addr} (m : Mo X g k) (r : Room j A) : Mo (gX X A s H scope C code fp) g.q j := ⟨m.hK, m.hm, r, L2.takes0⟩
theorem Mo.dn (m : Mo X g k) (h : j ≤ k) : Mo X g j := ⟨m.hK, m.hm, m.hr.mono h, m.tk⟩
end
/-! ### a def of the text -/
theorem fd_ofD {P : Program} {w : World} {K : PySem.W.Frag} {mg : Str → Option Value} {base : Heap} {T : List Addr} {x : Str} {st : Stmt} {fdd : FuncData} {N ps : List Str} {k : Nat} {f : MS} (Fn : FunD K x x (defArgs st) (defBody st) (defScope st) [] [] (He.fAd K (x, none)) fdd) (S : FnScope N ps (defScope st)) (hg : mg x = some (.ref (He.fAd K (x, none)))) (hb : Binds K fdd ps [])
    (hbody : ∀ (cdv : Value) (A : Around) (outer : List Env) (s : Shared) (H F0 : Hp) (E : XK), cdv = .ref (He.codeOf K (x, none)) → Room k (A.deeper (envOfC x (defScope st) s.heap.objs.size (He.fAd K (x, none)) cdv)) →
      PSs (cxOf (L2.CX P w) P w K mg base N x (defScope st) (He.fAd K (x, none)) cdv A outer s H E) (defBody st) (tDS ⟨K, mg, T, F0, H, fun cls d _ H => E cls d H, none⟩ f)) : FD P w K mg base T (k + 1) x ps.length (defF ps.length N.length f) := by
  refine ⟨_, fdd, ps, ?_, hg, Fn.kp, hb⟩
  obtain ⟨oc, od, dV, kV, doc, pm, an, cdv, ct, osl, e, lk, hcd, _, _⟩ := Fn.ex
  have hcv : cdv = .ref (He.codeOf K (x, none)) := by
    obtain ⟨c, ec⟩ := He.codeIn_ref hcd
    rw [ec, He.codeOf_eq lk (show fdd.code = .ref c by rw [e]; exact ec)]
  subst e
  refine fn_of lk hcd S (fun vs H Q E h => h.1) fun A outer s H vs Q E hr h => ?_
  obtain ⟨hl, ds, F0, fh, tab, rs, h⟩ := h
  refine ⟨_, hbody cdv A outer s H F0 E hcv hr, ?_⟩
  have hds : ds.length = ps.length := by rw [← rs.length]; exact hl
  have hN : ps.length ≤ N.length := by
    have := S.pre
    have h2 := congrArg List.length this
    rw [List.length_take] at h2
    omega
  have odd : ∀ a, Gx.odd ⟨K, mg, T, F0, H, fun cls d _ H => E cls d H, none⟩ a → a ∈ T := fun a h => by
    rcases h with h | ⟨R, h⟩
    · exact h
    · cases h
  have b : Bd ⟨K, mg, T, F0, H, fun cls d _ H => E cls d H, none⟩ 0 F0 H := ⟨fh, Sub.refl _, fun a o h _ => ⟨h, rfl⟩, fun a h => by
    obtain ⟨⟨ps, e, _⟩, _⟩ := tab a (odd a h)
    exact ⟨_, e⟩, tab, fun B R e => by cases e⟩
  have fin : ∀ {n' : Nat} {F' H' : Hp}, Bd ⟨K, mg, T, F0, H, fun cls d _ H => E cls d H, none⟩ n' F' H' → Fin T F0 H F' H' := fun b' =>
    ⟨b'.sub, b'.fh, fun a o h nT => (b'.kept a o h fun z => nT (odd a z)).1, fun a o h => by
      by_cases hT : a ∈ T
      · rw [(b'.tab a hT).2, (tab a hT).2]
      · exact (b'.kept a o h fun z => hT (odd a z)).2, b'.tab⟩
  refine ⟨envOf ps.length N.length ds, 0, F0, ⟨b, fun i sv e => ?_, fun i j a p q e1 e2 => ?_, ?_⟩, ?_⟩
  · obtain ⟨p, e1, rfl⟩ := getE_env e
    obtain ⟨v, e2, r⟩ := rs.get e1
    refine ⟨v, ?_, r⟩
    unfold L2.start
    have hi := (List.getElem?_eq_some_iff.mp e2).1
    rw [List.getElem?_append_left (by simpa using hi), List.getElem?_map, e2]
    rfl
  · obtain ⟨p, _, e⟩ := getE_env e1
    cases e
  · unfold envOf L2.start
    rw [List.length_append, List.length_append, List.length_map, List.length_map, List.length_replicate, List.length_replicate, hl, hds]
  · unfold defF at h
    cases e : f (envOf ps.length N.length ds) 0 with
    | next ρ n =>
      rw [e] at h
      exact fun σ' F' H' k' _ => h .non F' H' (fin k'.bd) .non
    | ret p n =>
      rw [e] at h
      exact fun v F' H' b' r => h v F' H' (fin b') r
    | exc x ρ n =>
      rw [e] at h
      exact fun cls d σ' F' H' k' r => h cls d F' H' (fin k'.bd) r
    | brk ρ n => rw [e] at h; exact h.elim
    | cont ρ n => rw [e] at h; exact h.elim
    | stuck => rw [e] at h; exact h.elim
/-- a def as the head tells it -/
structure TopD (K : PySem.W.Frag) (mg : Str → Option Value) (x : Str) (st : Stmt) : Prop where
  ex : ∃ fdd, FunD K x x (defArgs st) (defBody st) (defScope st) [] [] (He.fAd K (x, none)) fdd
  hg : mg x = some (.ref (He.fAd K (x, none)))
theorem fd_top {P : Program} {w : World} {K : PySem.W.Frag} {mg : Str → Option Value} {base : Heap} {T : List Addr} {x : Str} {st : Stmt} {N ps : List Str} {k : Nat} {f : MS} (t : TopD K mg x st) (S : FnScope N ps (defScope st)) (hb : ∀ fdd, FunD K x x (defArgs st) (defBody st) (defScope st) [] [] (He.fAd K (x, none)) fdd → Binds K fdd ps [])
    (hbody : ∀ (cdv : Value) (A : Around) (outer : List Env) (s : Shared) (H F0 : Hp) (E : XK), cdv = .ref (He.codeOf K (x, none)) → Room k (A.deeper (envOfC x (defScope st) s.heap.objs.size (He.fAd K (x, none)) cdv)) →
      PSs (cxOf (L2.CX P w) P w K mg base N x (defScope st) (He.fAd K (x, none)) cdv A outer s H E) (defBody st) (tDS ⟨K, mg, T, F0, H, fun cls d _ H => E cls d H, none⟩ f)) : FD P w K mg base T (k + 1) x ps.length (defF ps.length N.length f) := by
  obtain ⟨fdd, F⟩ := t.ex
  exact fd_ofD F S t.hg (hb fdd F) hbody
theorem takes_cx {P : Program} {w : World} {K : PySem.W.Frag} {mg : Str → Option Value} {base : Heap} {N : List Str} {q : Str} {sc : Scope} {f : Addr} {cd : Value} {A : Around} {outer : List Env} {s : Shared} {H : Hp} {E : XK} :
    Takes (cxOf (L2.CX P w) P w K mg base N q sc f cd A outer s H E) (fun cls d _ H => E cls d H) := takes_of rfl rfl rfl rfl
theorem owns_cx {P : Program} {w : World} {K : PySem.W.Frag} {mg : Str → Option Value} {base : Heap} {N : List Str} {q : Str} {sc : Scope} {f : Addr} {cd : Value} {A : Around} {outer : List Env} {s : Shared} {H : Hp} {E : XK} :
    PassesOwn (model P w) (cxOf (L2.CX P w) P w K mg base N q sc f cd A outer s H E).A (cxOf (L2.CX P w) P w K mg base N q sc f cd A outer s H E).env (cxOf (L2.CX P w) P w K mg base N q sc f cd A outer s H E).xe := passes_of rfl
/-! ### the end -/
theorem walk_ofTE {l : PySem.W.OpenLaw} {n k : Nat} {q : Program} {loose : List Str} {XP : (Str → Option Value) → Heap → Prop} {YP : World → Heap → Prop} {d : DefRec} {x : Str}
    (hn : l.most = some n) (hn2 : n ≤ sizeLine) (hdf : d.params.defaults = []) (hr : Room k callerA)
    (F : ∀ (w : World) (mg : Str → Option Value) (fa : Addr) (h : Heap), YP w h → h.Ns mainGlobals mg → mg d.name = some (.ref fa) → ∃ K : PySem.W.Frag, K.In h ∧ LamX.LawAtS l w K (L2.CX l.prog w) k n x mg fa h) :
    PySem.W.WalkO q loose XP YP l.row.toRowW d [] (fun f vs => PySem.call f vs) := by
  refine Att.attach_callB hn hdf fun w s₀ s₁ mg mb fa o pm cd doc a vs ns G Y ho hd hcd hmg hobj hints hlen hbits hg => ?_
  obtain ⟨K, KX, fd, cs, sp, hT, nT, C, hb, hsp, hF⟩ := F w mg fa _ Y G.T.g hmg
  exact LamX.law_callTs KX G.T.g G.T.b G.T.builtins G.T.nolimit hg hT nT C G.T.bmain hobj hints (Nat.le_trans hlen hn2) hr hF hb (fun H hH hS => hsp H a ns hlen hbits hH hS) fun H e s' c => by
    obtain ⟨_, _, _, _, _, _, _, _, _, _, _, _, z⟩ := c
    exact z.elim
end DL
set_option Elab.async false
set_option linter.all false
set_option maxRecDepth 100000
set_option maxHeartbeats 1000000
/-! DN: the D layer: the box of draws -/
namespace DL
open PySem PySem.Spec PyProof.Rows L2

def drawV (R : List Int) (n : Nat) (m : Int) : Int := (R.getD (n % R.length) 0 + 7919 * ((n / R.length : Nat) : Int)).fmod m
abbrev boxO (r : Addr) (n : Nat) : HO := .dK [(.inr "row", .ref r), (.inr "at", .int (n : Int))]
def SpN : Sp := fun vs H Q _ => ∃ (B r : Addr) (n : Nat) (R : List Int) (m : Int), vs = [.ref B, .int m] ∧ H B = some (boxO r n) ∧ H r = some (.lst (R.map V.int)) ∧ R ≠ [] ∧ R.length < 1073741824 ∧ m ≠ 0 ∧ Q (.int (drawV R n m)) (upd H B (boxO r (n + 1)))
abbrev rLen1 (K : PySem.W.Frag) : List V → Hp → VK → Prop := fun xs H Q => ∃ x n, xs = [x] ∧ LenV K x H n ∧ Q (.int n) H
abbrev rFd : R2 := rI CDivN fun i j => .int (i.fdiv j)
abbrev rMl : R2 := rI CMul fun i j => .int (i * j)
abbrev rMd : R2 := rI (fun _ j => j ≠ 0) fun i j => .int (i.fmod j)
abbrev rAd : R2 := rI0 fun i j => .int (i + j)
abbrev rInt1 : List V → Hp → VK → Prop := fun xs H Q => (∃ i, xs = [.int i] ∧ Q (.int i) H) ∨ ∃ k, xs = [.bl k] ∧ Q (.int (if k then 1 else 0)) H
def t_next (K : PySem.W.Frag) : TS := tSeq (tAsg (tDGet (tVar 0) (tC (.str "at"))) (gName 2)) (tSeq (sDPut (tVar 0) (tC (.str "at")) (tOp rAd (tVar 2) (tC (.int 1))))
  (tSeq (tAsg (tOp (rIx K) (tDGet (tVar 0) (tC (.str "row"))) (tOp rMd (tVar 2) (tCB (rLen1 K) (tCons (tDGet (tVar 0) (tC (.str "row"))) tNil)))) (gName 3))
    (tRet (tOp rMd (tCB rInt1 (tCons (tOp rAd (tVar 3) (tOp rMl (tC (.int 7919)) (tOp rFd (tVar 2) (tCB (rLen1 K) (tCons (tDGet (tVar 0) (tC (.str "row"))) tNil))))) tNil)) (tVar 1)))))
theorem pure_next {K : PySem.W.Frag} {vs : List V} {H : Hp} {Q : VK} {E : XK} (h : SpN vs H Q E) : t_next K { nx := fun _ H' => Q .non H', rt := Q } (start ["box", "modulus", "at", "number"] vs) H := by
  obtain ⟨B, r, n, R, m, rfl, hB, hr', hR, hL, hm, q⟩ := h
  have hlen : 0 < R.length := List.length_pos_iff.mpr hR
  have hrB : r ≠ B := fun z => by
    rw [z, hB] at hr'
    cases hr'
  have hr2 : upd H B (boxO r (n + 1)) r = some (.lst (R.map V.int)) := by rw [upd_ne hrB]; exact hr'
  have hB2 : upd H B (boxO r (n + 1)) B = some (boxO r (n + 1)) := upd_same
  refine ⟨.ref B, rfl, B, .int n, rfl, DGet.k (k := .inr "at") hB, ?_⟩
  refine ⟨_, rfl, _, _, rfl, rfl, _, rfl, ?_⟩
  refine ⟨B, _, rfl, DPut.k (k := .inr "at") hB (by show 2 < sizeLine; rw [sizeLine_eq]; decide), ?_⟩
  have e1 : putK ([(Sum.inr "row", V.ref r), (Sum.inr "at", V.int (n : Int))] : List (Key × V)) (Sum.inr "at") (V.int ((n : Int) + 1)) = [(.inr "row", .ref r), (.inr "at", .int ((n + 1 : Nat) : Int))] := by
    have e2 : ((n + 1 : Nat) : Int) = (n : Int) + 1 := by omega
    rw [e2]
    rfl
  rw [e1]
  have gd : R[n % R.length]? = some (R.getD (n % R.length) 0) := by
    have hl : n % R.length < R.length := Nat.mod_lt _ hlen
    rw [List.getD_eq_getElem?_getD, List.getElem?_eq_getElem hl]
    rfl
  have fm : (n : Int).fmod ((R.map V.int).length : Int) = ((n % R.length : Nat) : Int) := by
    rw [List.length_map, Int.fmod_eq_emod_of_nonneg _ (by omega), Int.natCast_emod]
  have fd : (n : Int).fdiv ((R.map V.int).length : Int) = ((n / R.length : Nat) : Int) := by
    rw [List.length_map, Int.fdiv_eq_ediv_of_nonneg _ (by omega), Int.natCast_ediv]
  have hne : ((R.map V.int).length : Int) ≠ 0 := by rw [List.length_map]; omega
  refine ⟨.ref B, rfl, B, .ref r, rfl, DGet.k (k := .inr "row") hB2, ?_⟩
  refine ⟨.int n, rfl, .ref B, rfl, B, .ref r, rfl, DGet.k (k := .inr "row") hB2, ?_⟩
  refine ⟨.ref r, (R.map V.int).length, rfl, .inl ⟨_, SqL.of hr2, rfl⟩, ?_⟩
  refine ⟨_, _, rfl, rfl, hne, ?_⟩
  refine .inl ⟨r, R.map V.int, _, V.int (R.getD (n % R.length) 0), rfl, rfl, SqL.of hr2, ?_, ?_⟩
  · rw [fm]
    refine atI_nat ?_
    rw [List.getElem?_map, gd]
    rfl
  refine ⟨.int (R.getD (n % R.length) 0), rfl, .int n, rfl, .ref B, rfl, B, .ref r, rfl, DGet.k (k := .inr "row") hB2, ?_⟩
  refine ⟨.ref r, (R.map V.int).length, rfl, .inl ⟨_, SqL.of hr2, rfl⟩, ?_⟩
  refine ⟨_, _, rfl, rfl, ⟨hne, by rw [List.length_map]; omega⟩, ?_⟩
  refine ⟨_, _, rfl, rfl, .inl ⟨by decide, by decide⟩, ?_⟩
  refine ⟨_, _, rfl, rfl, ?_⟩
  refine .inl ⟨_, rfl, ?_⟩
  refine ⟨.int m, rfl, _, _, rfl, rfl, hm, ?_⟩
  rw [fd]
  exact q
/-- the draws' def of the text -/
structure FN (P : Program) (w : World) (K : PySem.W.Frag) (mg : Str → Option Value) (base : Heap) (k : Nat) : Prop where
  ex : ∃ (a : Addr) (fd : FuncData) (ps : List Str), FnOk P w K mg base (L2.CX P w) k a fd ps SpN ∧ mg "_law_next" = some (.ref a) ∧ PySem.W.keepIn K (.ref a) = true ∧ Binds K fd ps []
def RGood (R : List Int) : Prop := R ≠ [] ∧ R.length < 1073741824
/-- _law_next(box, e) -/
def nxt (R : List Int) (i : Nat) (f : M) : M := fun ρ n => match ρ[i]? with
  | some (some .bx) => (f ρ n).bind fun p n1 => match p with
    | .int m => if m ≠ 0 then .ok (.int (drawV R n1 m)) (n1 + 1) else .stuck
    | _ => .stuck
  | _ => .stuck
section
variable {X : Cx} {g : Gx} {n : Nat} {F H : Hp} {B r : Addr} {R : List Int}
theorem Bd.draw (b : Bd g n F H) (hb : g.bx = some (B, R)) (hB : H B = some (boxO r n)) : Bd g (n + 1) F (upd H B (boxO r (n + 1))) ∧ Stp g F H F (upd H B (boxO r (n + 1))) := by
  obtain ⟨nT, fB, r', e1, e2⟩ := b.box B R hb
  rw [hB] at e1
  cases e1
  have nF : ∀ a o, F a = some o → a ≠ B := fun a o e z => by
    rw [z, fB] at e
    cases e
  have nod : ∀ a, ¬ g.odd a → a ≠ B := fun a h z => h (.inr ⟨R, by rw [z]; exact hb⟩)
  refine ⟨⟨fun a o h => by rw [upd_ne (nF a o h)]; exact b.fh a o h, b.sub, fun a o h od => by rw [upd_ne (nod a od)]; exact b.kept a o h od, b.was, fun Q hQ => ?_, fun B' R' e => ?_⟩, Sub.refl _, fun a o h od => by rw [upd_ne (nod a od)]; exact h, fun _ _ _ => rfl⟩
  · have : Q ≠ B := fun z => nT (by rw [← z]; exact hQ)
    obtain ⟨⟨ps, h1, h2⟩, h3⟩ := b.tab Q hQ
    exact ⟨⟨ps, by rw [upd_ne this]; exact h1, h2⟩, h3⟩
  · rw [hb] at e
    cases e
    exact ⟨nT, fB, r, upd_same, e2⟩
theorem de_next {k i j : Nat} {x : Str} {e : Expr} {f : M} {p p2 pos : Pos} (mo : Mo X g k) (nx : FN X.prog X.w X.K X.mg X.base j) (hj : j ≤ k) (hR : ∃ B, g.bx = some (B, R)) (hG : RGood R) (hg : Gl X "_law_next") (hN : X.N[i]? = some x) (hv : Vis X.env.scope x) (he : PE X e (tD g RF f))
    (hs : starEach [.Name x p2, e] X.env = (false, eval (.Name x p2) X.env) :: starEach [e] X.env := by rfl) (hs2 : starEach [e] X.env = (false, eval e X.env) :: starEach [] X.env := by rfl) (hpl : (backTo pos (starEach [e] X.env)).any (·.1) = false := by rfl)
    (hd : (x == ("__debug__" : Str)) = false := by decide) (hcd : (x == ("__classdict__" : Str)) = false := by decide) :
    PE X (.Call (.Name "_law_next" p) [.Name x p2, e] [] pos) (tD g RF (nxt R i f)) := by
  obtain ⟨a, fd, ps, Fn, h1, h2, h3⟩ := nx.ex
  refine pe_imp (pe_callS Fn (mo.hr.mono hj) hg h1 h2 h3 (fun σ => passAt mo.tk σ) (pa_cons (pe_var hN hv hd hcd) (pa_cons he pa_nil hs2) hs) (by decide) hs hpl) fun σ H Q h => ?_
  obtain ⟨ρ, n, F, k, h⟩ := h
  unfold nxt at h
  cases eb : ρ[i]? with
  | none => rw [eb] at h; exact h.elim
  | some o =>
    rw [eb] at h
    cases o with
    | none => exact h.elim
    | some sv =>
      cases sv with
      | sh p => exact h.elim
      | ow p => exact h.elim
      | bx =>
        obtain ⟨v, e1, B, R', hb, rfl⟩ := k.sl i _ eb
        obtain ⟨B', hB'⟩ := hR
        rw [hB'] at hb
        cases hb
        refine ⟨.ref B, e1, ρ, n, F, k, (PO.bind h).imp fun p n1 F1 H1 b1 s1 q v rv => ?_⟩
        cases p with
        | int m =>
          have q : PO g F1 H1 σ (if m ≠ 0 then Out.ok (PyData.int (drawV R n1 m)) (n1 + 1) else .stuck) _ := q
          by_cases hm : m ≠ 0
          · rw [if_pos hm] at q
            cases rv
            obtain ⟨nT, fB, r, e2, e3⟩ := b1.box B R hB'
            refine ⟨B, r, n1, R, m, rfl, e2, b1.fh _ _ e3, hG.1, hG.2, hm, ?_⟩
            obtain ⟨b2, s2⟩ := b1.draw hB' e2
            exact q F1 _ b2 s2 _ (.int _)
          · rw [if_neg hm] at q
            exact q.elim
        | _ => exact q.elim
end
end DL
set_option Elab.async false
set_option linter.all false
set_option maxRecDepth 100000
set_option maxHeartbeats 1000000
/-! DO: the D layer: the box is made; a law's body behind it -/
namespace DL
open PySem PySem.Spec PyProof.Rows L2

/-- what stood stands (but the tables); the tables are tables -/
structure Kp (T : List Addr) (H H' : Hp) : Prop where
  hh : ∀ a o, H a = some o → a ∉ T → H' a = some o
  tab : ∀ P ∈ T, GxR.TabG H' P
theorem Kp.trans {T : List Addr} {H H1 H2 : Hp} (x : Kp T H H1) (y : Kp T H1 H2) : Kp T H H2 := ⟨fun a o h n => y.hh a o (x.hh a o h n) n, y.tab⟩
theorem Kp.new {T : List Addr} {H H1 : Hp} (x : Kp T H H1) {p : Addr} {o : HO} (np : H1 p = none) : Kp T H (upd H1 p o) := by
  have nT : ∀ P ∈ T, P ≠ p := fun P hP z => by
    obtain ⟨ps, e, _⟩ := x.tab P hP
    rw [z, np] at e
    cases e
  refine ⟨fun a u h n => ?_, fun P hP => ?_⟩
  · have e := x.hh a u h n
    rw [upd_ne fun z => by rw [z, np] at e; cases e]
    exact e
  · obtain ⟨ps, e, t⟩ := x.tab P hP
    exact ⟨ps, by rw [upd_ne (nT P hP)]; exact e, t⟩
theorem Kp.seq {K : PySem.W.Frag} {T : List Addr} {H H1 : Hp} (x : Kp T H H1) (t : ∀ P ∈ T, GxR.TabG H P) {a : Addr} {xs : List V} (h : SqL K H a xs) : SqL K H1 a xs := by
  have nT : ∀ o, H a = some o → (∀ ps, o ≠ .tbl ps) → a ∉ T := fun o e n z => by
    obtain ⟨ps, e2, _⟩ := t a z
    rw [e] at e2
    exact n ps (Option.some.inj e2)
  rcases h with (h | ⟨o, h⟩) | h
  · exact .inl (.inl (x.hh a _ h (nT _ h fun ps z => by cases z)))
  · exact .inl (.inr ⟨o, x.hh a _ h (nT _ h fun ps z => by cases z)⟩)
  · exact .inr h
theorem rps_iL {K : PySem.W.Frag} {F : Hp} : ∀ {l : List Int} {vs : List V}, Rps K F (l.map .int) vs → vs = l.map V.int
  | [], _, .nil => rfl
  | i :: l, _, .cons r rs => by
    cases r
    rw [rps_iL rs]
    rfl
/-- the promise of the def that makes the box -/
def SpB (K : PySem.W.Frag) (T : List Addr) : Sp := fun vs H Q _ => ∃ (a : Addr) (ns : List Int), vs = [.ref a] ∧ SqL K H a (ns.map V.int) ∧ ns.length ≤ 1000 ∧ (∀ P ∈ T, GxR.TabG H P) ∧
  ∀ (B r : Addr) (R : List Int) (H' : Hp), Kp T H H' → H B = none → H r = none → H' B = some (boxO r 0) → H' r = some (.lst (R.map V.int)) → RGood R → Q (.ref B) H'
structure FB (P : Program) (w : World) (K : PySem.W.Frag) (mg : Str → Option Value) (base : Heap) (T : List Addr) (k : Nat) : Prop where
  ex : ∃ (a : Addr) (fd : FuncData) (ps : List Str), FnOk P w K mg base (L2.CX P w) k a fd ps (SpB K T) ∧ mg "_law_box" = some (.ref a) ∧ PySem.W.keepIn K (.ref a) = true ∧ Binds K fd ps []
def seven : TA := tCons (tC (.int 11)) (tCons (tC (.int 5)) (tCons (tC (.int 2)) (tCons (tC (.int 7)) (tCons (tC (.int 31)) (tCons (tC (.int 101)) (tCons (tC (.int 997)) tNil))))))
def t_box (K : PySem.W.Frag) (sp : Sp) (E : L2.St → XK) : TS := tSeq (tAsg (tLst tNil) (gName 1)) (tSeq (tFor (iList K (tVar 0)) (gName 2) (tAsg (tOp rCat (tVar 1) (tCallS sp E (tCons (tVar 2) (tCons (tC (.int 1000003)) (tCons (tC (.int 6)) tNil))))) (gName 1)))
  (tSeq (tIfS (tTest (tOp rEq (tCB (rLen1 K) (tCons (tVar 1) tNil)) (tC (.int 0)))) (tAsg (tLst seven) (gName 1)) tNext)
    (tRet (tDisp [(tC (.str "row"), tVar 1), (tC (.str "at"), tC (.int 0))]))))
def DrawsOk (f : List PV → FOut) : Prop := ∀ c : Int, ∃ l : List Int, l.length = 6 ∧ f [.int c, .int 1000003, .int 6] = .ok (.list (l.map .int))
theorem pure_box {K : PySem.W.Frag} {mg : Str → Option Value} {T : List Addr} {f : List PV → FOut} {E' : L2.St → XK} (hf : DrawsOk f) {vs : List V} {H : Hp} {Q : VK} {E : XK} (h : SpB K T vs H Q E) : t_box K (SpD K mg T f 3) E' { nx := fun _ H' => Q .non H', rt := Q } (start ["script", "row", "cell"] vs) H := by
  obtain ⟨a, ns, rfl, hS, hl, hT, q⟩ := h
  refine ⟨Nat.zero_le _, fun c0 n0 => ?_⟩
  have k0 : Kp T H (upd H c0 (.lst [])) := Kp.new ⟨fun _ _ h _ => h, hT⟩ n0
  refine ⟨.ref a, rfl, a, rfl, ⟨_, k0.seq hT hS⟩, ?_⟩
  refine ⟨fun i m σ H' => ∃ (c : Addr) (R : List Int) (y : Option V), σ = [some (.ref a), some (.ref c), y] ∧ i + m = ns.length ∧ Kp T H H' ∧ H c = none ∧ H' c = some (.lst (R.map V.int)) ∧ R.length = 6 * i,
    ⟨ns.length, c0, [], none, rfl, by omega, k0, n0, upd_same, rfl⟩, ?_⟩
  rintro i m σ H1 ⟨c, R, y, rfl, em, k1, nc, e1, el⟩
  have hA := k1.seq hT hS
  by_cases hi : i < ns.length
  · have g1 : (ns.map V.int)[i]? = some (.int ns[i]) := by
      rw [List.getElem?_map, List.getElem?_eq_getElem hi]
      rfl
    refine .inr ⟨⟨_, _, hA, g1⟩, fun σ' H' => ∃ (c : Addr) (R : List Int) (y : Option V), σ' = [some (.ref a), some (.ref c), y] ∧ Kp T H H' ∧ H c = none ∧ H' c = some (.lst (R.map V.int)) ∧ R.length = 6 * (i + 1), fun σ' H' hN => ?_, fun x H' hy => ?_⟩
    · obtain ⟨c', R', y', h1, h2, h3, h4, h5⟩ := hN
      exact ⟨m - 1, by omega, c', R', y', h1, by omega, h2, h3, h4, h5⟩
    · obtain ⟨rfl, hy⟩ := hy
      have ex : x = .int ns[i] := Option.some.inj ((hy _ hA).symm.trans g1)
      subst ex
      obtain ⟨l, l6, ef⟩ := hf ns[i]
      refine ⟨.ref c, rfl, .int ns[i], rfl, ?_⟩
      have hsub : Sub (fun _ => none) H' := fun _ _ h => by cases h
      have hrp : Rps K (fun _ => none) [PyData.int ns[i], .int 1000003, .int 6] [V.int ns[i], .int 1000003, .int 6] := .cons (.int _) (.cons (.int _) (.cons (.int _) .nil))
      refine ⟨rfl, [.int ns[i], .int 1000003, .int 6], fun _ => none, hsub, fun P hP => ⟨k1.tab P hP, rfl⟩, hrp, ?_⟩
      rw [ef]
      intro v F' H2 fin rv
      cases rv with
      | lst hb rs =>
        rename_i b vs2
        have ev := rps_iL rs
        subst ev
        have k2 : Kp T H H2 := k1.trans ⟨fun a o h n => fin.hh a o h n, fun P hP => (fin.tab P hP).1⟩
        have cT : c ∉ T := fun z => by
          obtain ⟨ps, e, _⟩ := hT c z
          rw [nc] at e
          cases e
        have e2 : H2 c = some (.lst (R.map V.int)) := fin.hh c _ e1 cT
        refine ⟨c, b, _, _, rfl, rfl, e2, fin.fh _ _ hb, ?_, fun p np => ?_⟩
        · rw [List.length_map, List.length_map, el, l6, sizeLine_eq]
          omega
        · have np0 : H p = none := by
            cases z : H p with
            | none => rfl
            | some o =>
              by_cases hp : p ∈ T
              · obtain ⟨ps, e, _⟩ := k2.tab p hp
                rw [np] at e
                cases e
              · rw [k2.hh p o z hp] at np
                cases np
          refine ⟨p, R ++ l, some (.int ns[i]), rfl, k2.new np, np0, ?_, ?_⟩
          · rw [upd_same, List.map_append]
          · rw [List.length_append, el, l6]
            omega
  · have ei : i = ns.length := by omega
    refine .inl ⟨⟨_, hA, by rw [List.length_map]; omega⟩, ?_⟩
    -- len(row) == 0
    refine ⟨.ref c, rfl, .ref c, (R.map V.int).length, rfl, .inl ⟨_, SqL.of e1, rfl⟩, rfl, ?_⟩
    refine ⟨_, rfl, ?_⟩
    have fin : ∀ (σ3 : L2.St) (c3 : Addr) (R3 : List Int) (H3 : Hp), σ3[1]? = some (some (.ref c3)) → Kp T H H3 → H c3 = none → H3 c3 = some (.lst (R3.map V.int)) → RGood R3 → tRet (tDisp [(tC (.str "row"), tVar 1), (tC (.str "at"), tC (.int 0))]) { nx := fun _ H' => Q .non H', rt := Q } σ3 H3 := by
      intro σ3 c3 R3 H3 hσ k3 n3 e3 g3
      intro B nB
      refine ⟨.ref c3, hσ, upd_same, [(.inr "row", .ref c3), (.inr "at", .int 0)], rfl, (by show 2 ≤ 15; decide), ?_⟩
      have hB0 : H B = none := by
        cases z : H B with
        | none => rfl
        | some o =>
          by_cases hp : B ∈ T
          · obtain ⟨ps, e, _⟩ := k3.tab B hp
            rw [nB] at e
            cases e
          · rw [k3.hh B o z hp] at nB
            cases nB
      have em : mergeK [] [(Sum.inr "row", V.ref c3), (Sum.inr "at", V.int 0)] = [(.inr "row", .ref c3), (.inr "at", .int ((0 : Nat) : Int))] := rfl
      rw [em]
      have hu : upd (upd H3 B (.dK [])) B (boxO c3 0) = upd H3 B (boxO c3 0) := by
        funext z
        by_cases hz : z = B
        · rw [hz, upd_same, upd_same]
        · rw [upd_ne hz, upd_ne hz, upd_ne hz]
      rw [hu]
      have hcB : c3 ≠ B := fun z => by
        rw [z, nB] at e3
        cases e3
      exact q B c3 R3 _ (k3.new nB) hB0 n3 upd_same (by rw [upd_ne hcB]; exact e3) g3
    by_cases h0 : R.length = 0
    · have hd : decide (V.int ((R.map V.int).length : Int) = V.int 0) = true := by
        rw [List.length_map, h0]
        rfl
      rw [hd]
      show (if true = true then _ else _ : Prop)
      rw [if_pos rfl]
      refine ⟨by decide, fun p np => ?_⟩
      have np0 : H p = none := by
        cases z : H p with
        | none => rfl
        | some o =>
          by_cases hp : p ∈ T
          · obtain ⟨ps, e, _⟩ := k1.tab p hp
            rw [np] at e
            cases e
          · rw [k1.hh p o z hp] at np
            cases np
      exact fin _ p [11, 5, 2, 7, 31, 101, 997] _ rfl (k1.new np) np0 upd_same ⟨by decide, by decide⟩
    · have hd : decide (V.int ((R.map V.int).length : Int) = V.int 0) = false := by
        rw [List.length_map, decide_eq_false]
        intro z
        have z' : ((R.length : Nat) : Int) = 0 := by injection z
        omega
      rw [hd]
      show (if false = true then _ else _ : Prop)
      rw [if_neg Bool.false_ne_true]
      exact fin _ c R _ rfl k1 nc e1 ⟨fun z => h0 (by rw [z]; rfl), by omega⟩

/-! ### the law's own body -/
def SpL (K : PySem.W.Frag) (T : List Addr) : Sp := fun vs H Q _ => ∃ (a : Addr) (ns : List Int), vs = [.ref a] ∧ SqL K H a (ns.map V.int) ∧ ns.length ≤ 1000 ∧ (∀ P ∈ T, GxR.TabG H P) ∧ ∀ H', Q (.bl true) H'
def tEx (K : PySem.W.Frag) (mg : Str → Option Value) (T : List Addr) (W : WX) (d : List Int → MS) : TS := fun D σ H => ∃ (R : List Int) (B : Addr) (H0 F0 : Hp), RGood R ∧ tDS ⟨K, mg, T, F0, H0, W, some (B, R)⟩ (d R) D σ H
theorem pss_ex {X : Cx} {sts : List Stmt} {K : PySem.W.Frag} {mg : Str → Option Value} {T : List Addr} {W : WX} {d : List Int → MS} (h : ∀ (R : List Int) (B : Addr) (H0 F0 : Hp), RGood R → PSs X sts (tDS ⟨K, mg, T, F0, H0, W, some (B, R)⟩ (d R))) : PSs X sts (tEx K mg T W d) :=
  ⟨fun pins s σ H D I ⟨R, B, H0, F0, hR, q⟩ => (h R B H0 F0 hR).run pins s σ H D I q⟩
def t_law (K : PySem.W.Frag) (mg : Str → Option Value) (T : List Addr) (W : WX) (E : L2.St → XK) (d : List Int → MS) : TS := tSeq (tAsg (tCallS (SpB K T) E (tCons (tVar 0) tNil)) (gName 1)) (tEx K mg T W d)
def lawE (n : Nat) : DEnv := none :: some .bx :: List.replicate n none
theorem pure_law {K : PySem.W.Frag} {mg : Str → Option Value} {T : List Addr} {W : WX} {E' : L2.St → XK} {d : List Int → MS} {N : List Str} {n : Nat} (hN : N.length = n + 2) (hd : ∀ R, RGood R → ∃ m, d R (lawE n) 0 = .ret (.bool true) m) {vs : List V} {H : Hp} {Q : VK} {E : XK} (h : SpL K T vs H Q E) :
    t_law K mg T W E' d { nx := fun _ H' => Q .non H', rt := Q } (start N vs) H := by
  obtain ⟨a, ns, rfl, hS, hl, hT, q⟩ := h
  have hst : start N [V.ref a] = some (.ref a) :: none :: List.replicate n none := by
    unfold L2.start
    rw [hN]
    rfl
  rw [hst]
  refine ⟨.ref a, rfl, a, ns, rfl, hS, hl, hT, fun B r R H' kp nB nr hB hr hR => ?_⟩
  have ro : ∀ P ∈ T, P ≠ r ∧ P ≠ B := fun P hP => by
    obtain ⟨ps, e, _⟩ := kp.tab P hP
    refine ⟨fun z => ?_, fun z => ?_⟩
    · rw [z, hr] at e
      cases e
    · rw [z, hB] at e
      cases e
  have hBr : B ≠ r := fun z => by
    rw [z, hr] at hB
    cases hB
  obtain ⟨m, em⟩ := hd R hR
  have oddc : ∀ c, Gx.odd ⟨K, mg, T, fun c => if c = r then some (.lst (R.map V.int)) else none, H', W, some (B, R)⟩ c → c ∈ T ∨ c = B := fun c z => by
    rcases z with z | ⟨R', z⟩
    · exact .inl z
    · cases z
      exact .inr rfl
  refine ⟨R, B, H', fun c => if c = r then some (.lst (R.map V.int)) else none, hR, lawE n, 0, fun c => if c = r then some (.lst (R.map V.int)) else none, ⟨⟨fun c o e => ?_, Sub.refl _, fun c o e _ => ⟨e, rfl⟩, fun c z => ?_, fun P hP => ⟨kp.tab P hP, if_neg (ro P hP).1⟩, fun B' R' e => ?_⟩, fun i sv e => ?_, fun i j c p p' e1 _ _ _ => ?_, ?_⟩, ?_⟩
  · by_cases hc : c = r
    · have e' : (if c = r then some (HO.lst (R.map V.int)) else none) = some o := e
      rw [if_pos hc] at e'
      cases e'
      rw [hc]
      exact hr
    · have e' : (if c = r then some (HO.lst (R.map V.int)) else none) = some o := e
      rw [if_neg hc] at e'
      cases e'
  · rcases oddc c z with z | z
    · obtain ⟨ps, e, _⟩ := kp.tab c z
      exact ⟨_, e⟩
    · rw [z]
      exact ⟨_, hB⟩
  · cases e
    exact ⟨fun z => (ro _ z).2 rfl, if_neg hBr, r, hB, if_pos rfl⟩
  · match i, e with
    | 0, e => cases e
    | 1, e =>
      cases e
      exact ⟨.ref B, rfl, B, R, rfl, rfl⟩
    | i + 2, e =>
      have e' : (List.replicate n (none : Option SV))[i]? = some (some sv) := e
      rw [List.getElem?_replicate] at e'
      split at e' <;> cases e'
  · match i, e1 with
    | 0, e => cases e
    | 1, e => cases e
    | i + 2, e =>
      have e' : (List.replicate n (none : Option SV))[i]? = some (some (.ow p)) := e
      rw [List.getElem?_replicate] at e'
      split at e' <;> cases e'
  · show (none :: some SV.bx :: List.replicate n none).length = (some (V.ref a) :: some (V.ref B) :: List.replicate n none).length
    rw [List.length_cons, List.length_cons, List.length_cons, List.length_cons, List.length_replicate, List.length_replicate]
  · rw [em]
    intro v F1 H1 b1 rv
    cases rv
    exact q H1
end DL
set_option Elab.async false
set_option linter.all false
set_option maxRecDepth 100000
set_option maxHeartbeats 1000000
/-! DP: the D layer: globals by a Bool, methods of texts, try with one clause -/
namespace DL
open PySem PySem.Spec PyProof.Rows L2

def glB (sc : Scope) (x : Str) : Bool := decide (sc.names.lookup x = some .globalImplicit)
theorem gl_by {X : Cx} {x : Str} (h : glB X.env.scope x = true) : Gl X x := (of_decide_eq_true h : X.env.scope.names.lookup x = some .globalImplicit)

/-! ### methods of texts with one argument -/
def mth (k : Str → PV → Option PV) (fo fe : M) : M := fun ρ n => (fo ρ n).bind fun p n1 => match p with
  | .str a => (fe ρ n1).bind fun q n2 => opt (k a q) n2
  | _ => .stuck
def strsOf : List PV → Option (List Str)
  | [] => some []
  | .str i :: r => (strsOf r).map (i :: ·)
  | _ => none
theorem strsOf_rps {K : PySem.W.Frag} {F : Hp} : ∀ {ds : List PV} {vs : List V} {ns : List Str}, Rps K F ds vs → strsOf ds = some ns → vs = ns.map V.str
  | [], _, _, .nil, h => by
    cases h
    rfl
  | .str i :: ds, _, ns, .cons r rs, h => by
    unfold strsOf at h
    cases e : strsOf ds with
    | none => rw [e] at h; cases h
    | some ms =>
      rw [e] at h
      cases h
      cases r
      rw [strsOf_rps rs e]
      rfl
  | .none :: _, _, _, _, h | .bool _ :: _, _, _, _, h | .int _ :: _, _, _, _, h | .list _ :: _, _, _, _, h | .tuple _ :: _, _, _, _, h | .dict _ :: _, _, _, _, h => by simp [strsOf] at h
def joinV (a : Str) (p : PV) : Option PV := match p with
  | .list ds => (match strsOf ds with
    | some ys => if (ys.map (·.length)).sum + ys.length * a.length ≤ 16777216 then some (.str (Txt.join a ys)) else none
    | none => none)
  | .tuple ds => (match strsOf ds with
    | some ys => if (ys.map (·.length)).sum + ys.length * a.length ≤ 16777216 then some (.str (Txt.join a ys)) else none
    | none => none)
  | _ => none
def splV (a : Str) (p : PV) : Option PV := match p with
  | .str b => if (b.length == 0) = false ∧ a.length + 2 ≤ sizeLine then some (.list ((Txt.split a b).map .str)) else none
  | _ => none
def RuleM (g : Gx) (R : Rel) (k : Str → PV → Option PV) (r : V → List V → Hp → VK → Prop) : Prop :=
  ∀ (n : Nat) (F0 H0 F H : Hp) (a : Str) (q s : PV) (w : V) (Q : VK), Bd g n F H → Stp g F0 H0 F H → Pk g F H q w → k a q = some s →
    (∀ u F' H', Bd g n F' H' → Stp g F H F' H' → R g F0 H0 F' H' s u → Q u H') → r (.str a) [w] H Q
section
variable {X : Cx} {g : Gx} {R : Rel} {o e : Expr} {fo fe : M} {apos pos : Pos}
theorem tM1_of {k : Str → PV → Option PV} {r : V → List V → Hp → VK → Prop} (rule : RuleM g R k r) {σ : L2.St} {H : Hp} {Q : VK} (h : tD g R (mth k fo fe) σ H Q) : tM1 r (tD g RF fo) (tD g RP fe) σ H Q := by
  obtain ⟨ρ, n, F, kk, h⟩ := h
  refine ⟨ρ, n, F, kk, (PO.bind h).imp fun p n1 F1 H1 b1 s1 h1 v rv => ?_⟩
  cases p with
  | str a =>
    cases rv
    refine ⟨⟨a, rfl⟩, ρ, n1, F1, kk.step b1 s1, (PO.bind h1).imp fun q n2 F2 H2 b2 s2 h2 w rw' => ?_⟩
    obtain ⟨s, e, h3⟩ := PO.opt h2
    exact rule n2 F H F2 H2 a q s w Q b2 (s1.trans b1 s2) rw' e fun u F' H' b' s' ru => h3 F' H' b' s' u ru
  | _ => exact h1.elim
theorem rps_strs {K : PySem.W.Frag} {F : Hp} : ∀ ys : List Str, Rps K F (ys.map .str) (ys.map V.str)
  | [] => .nil
  | y :: ys => .cons (.str y) (rps_strs ys)
theorem rule_split : RuleM g RO splV (fun x xs H Q => ∃ a b, x = .str a ∧ xs = [.str b] ∧ (b.length == 0) = false ∧ a.length + 2 ≤ sizeLine ∧ rNewStrs (Txt.split a b) H Q) := by
  intro n F0 H0 F H a q s w Q b st rw' e h
  unfold splV at e
  cases q with
  | str c =>
    simp only at e
    by_cases hc : (c.length == 0) = false ∧ a.length + 2 ≤ sizeLine
    · rw [if_pos hc] at e
      cases e
      cases Pk.rp b rw'
      exact ⟨a, c, rfl, rfl, hc.1, hc.2, fun p np => finO b st h (rps_strs _) np⟩
    · rw [if_neg hc] at e
      cases e
  | _ => simp at e
theorem de_split (ho : PE X o (tD g RF fo)) (he : PE X e (tD g RP fe)) (hs : starEach [e] X.env = [(false, eval e X.env)] := by rfl) (hbase : attributeBase o "split" X.env (eval o X.env) = eval o X.env := by rfl) (hline : (apos.endLine == pos.line) = true := by rfl) :
    PE X (.Call (.Attribute o "split" apos) [e] [] pos) (tD g RO (mth splV fo fe)) :=
  pe_imp (pe_split ho he hs hbase hline) fun _ _ _ => tM1_of rule_split
abbrev rJoin (K : PySem.W.Frag) : V → List V → Hp → VK → Prop := fun x xs H Q => ∃ a p, ∃ ys : List Str, x = .str a ∧ xs = [.ref p] ∧ (SqL K H p (ys.map V.str) ∨ SqT K H p (ys.map V.str)) ∧ (ys.map (·.length)).sum + ys.length * a.length ≤ 16777216 ∧ Q (.str (Txt.join a ys)) H
theorem rule_join : RuleM g RF joinV (rJoin g.K) := by
  intro n F0 H0 F H a q s w Q b st rw' e h
  unfold joinV at e
  cases q with
  | list ds =>
    simp only at e
    cases es : strsOf ds with
    | none => rw [es] at e; cases e
    | some ys =>
      rw [es] at e
      simp only at e
      by_cases hc : (ys.map (·.length)).sum + ys.length * a.length ≤ 16777216
      · rw [if_pos hc] at e
        cases e
        cases Pk.rp b rw' with
        | lst ha rs =>
          rw [strsOf_rps rs es] at ha
          exact ⟨a, _, ys, rfl, rfl, .inl (SqL.of (vw_sub _ _ ha)), hc, fin0 b h (.str _)⟩
      · rw [if_neg hc] at e
        cases e
  | tuple ds =>
    simp only at e
    cases es : strsOf ds with
    | none => rw [es] at e; cases e
    | some ys =>
      rw [es] at e
      simp only at e
      by_cases hc : (ys.map (·.length)).sum + ys.length * a.length ≤ 16777216
      · rw [if_pos hc] at e
        cases e
        cases Pk.rp b rw' with
        | tup ha rs =>
          rw [strsOf_rps rs es] at ha
          exact ⟨a, _, ys, rfl, rfl, .inr (vw_sub.sqT ha), hc, fin0 b h (.str _)⟩
      · rw [if_neg hc] at e
        cases e
  | _ => simp at e
theorem de_join (hK : g.K = X.K) (ho : PE X o (tD g RF fo)) (he : PE X e (tD g RP fe)) (hs : starEach [e] X.env = [(false, eval e X.env)] := by rfl) (hbase : attributeBase o "join" X.env (eval o X.env) = eval o X.env := by rfl) (hline : (apos.endLine == pos.line) = true := by rfl) :
    PE X (.Call (.Attribute o "join" apos) [e] [] pos) (tD g RF (mth joinV fo fe)) :=
  pe_imp (pe_join ho he hs hbase hline) fun σ H Q h => by
    have := tM1_of (rule_join (g := g)) h
    rw [hK] at this
    exact this
end

/-! ### try: .. except C as e: return 'z' if isinstance(e, B) else .. -/
structure MtOk (X : Cx) (c cb : Value) (l : List (Str × Bool)) : Prop where
  ok : ∀ x b, l.lookup x = some b → ∃ C, X.mg x = some (.ref C) ∧ PySem.W.exmOne X.K (.ref C) c = some b ∧ (b = true → ExcC X.K C ∧ PySem.W.kitOne X.K (.ref C) cb = some true)
theorem mt_nil {X : Cx} {c cb : Value} : MtOk X c cb [] := ⟨fun _ _ h => by cases h⟩
theorem mt_cons {X : Cx} {c cb : Value} {l : List (Str × Bool)} {x : Str} {b : Bool} {C : Addr} (hg : X.mg x = some (.ref C)) (he : PySem.W.exmOne X.K (.ref C) c = some b) (hk : b = true → ExcC X.K C ∧ PySem.W.kitOne X.K (.ref C) cb = some true) (r : MtOk X c cb l) : MtOk X c cb ((x, b) :: l) := by
  refine ⟨fun y d h => ?_⟩
  rw [List.lookup_cons] at h
  cases e : y == x with
  | true =>
    rw [e] at h
    cases h
    have : y = x := by simpa using e
    rw [this]
    exact ⟨C, hg, he, hk⟩
  | false =>
    rw [e] at h
    exact r.ok y d h
def toldS (i : Nat) (f : MS) (l : List (Str × Bool)) (z : Str) : MS := fun ρ n => match f ρ n with
  | .exc x ρ' n' => (match l.lookup x.cls with
    | some true => (match x.fld with
      | none => if i < ρ'.length then .ret (.str z) n' else .stuck
      | some _ => .stuck)
    | some false => .exc x ρ' n'
    | none => .stuck)
  | o => o
section
variable {X : Cx} {g : Gx} {k : Nat}
theorem Bd.reW {n : Nat} {F H : Hp} {W : WX} (b : Bd g n F H) : Bd { g with W := W } n F H := ⟨b.fh, b.sub, b.kept, b.was, b.tab, b.box⟩
theorem Bd.unW {n : Nat} {F H : Hp} {W : WX} (b : Bd { g with W := W } n F H) : Bd g n F H := ⟨b.fh, b.sub, b.kept, b.was, b.tab, b.box⟩
theorem Ok.reW {ρ : DEnv} {n : Nat} {σ : L2.St} {F H : Hp} {W : WX} (k : Ok g ρ n σ F H) : Ok { g with W := W } ρ n σ F H := ⟨k.bd.reW, fun i sv e => by
  obtain ⟨v, h1, h2⟩ := k.sl i sv e
  refine ⟨v, h1, ?_⟩
  cases sv <;> exact h2, k.ap, k.len⟩
theorem Ok.unW {ρ : DEnv} {n : Nat} {σ : L2.St} {F H : Hp} {W : WX} (k : Ok { g with W := W } ρ n σ F H) : Ok g ρ n σ F H := ⟨k.bd.unW, fun i sv e => by
  obtain ⟨v, h1, h2⟩ := k.sl i sv e
  refine ⟨v, h1, ?_⟩
  cases sv <;> exact h2, k.ap, k.len⟩
theorem Mo.tr {W : WX} {pn : List (Addr × Obj)} {xe : Value → Shared → Prop} (m : Mo X g k) (tk : Takes (X.tr pn xe) W) : Mo (X.tr pn xe) { g with W := W } k := ⟨m.hK, m.hm, m.hr, tk⟩
theorem ds_told1 {x n B : Str} {i : Nat} {Cy Cb : Addr} {l : List (Str × Bool)} {fb : MS} {body : List Stmt} {z z2 : Str} {j1 j2 : Nat} {np np2 np3 np4 np5 np6 p1 p2 pos pos' pos2 : Pos} (mo : Mo X g k) (hs : X.stack = X.env :: X.outer) (hf : X.env.frame = some X.env.locals) (hN : X.N.Nodup) (hi : X.N[i]? = some n) (hln : X.env.kindOf n = some .local)
    (hc : Gl X x) (hcm : X.mg x = some (.ref Cy)) (hcB : Gl X B) (hcBm : X.mg B = some (.ref Cb)) (gI : Gl X "isinstance") (mI : X.mg "isinstance" = none) (bI : bootBuiltins "isinstance" = some (.builtin "isinstance")) (mt : MtOk X (.ref Cy) (.ref Cb) l)
    (hb : ∀ (W : WX) (pn : List (Addr × Obj)) (xe : Value → Shared → Prop), Takes (X.tr pn xe) W → PassesOwn (model X.prog X.w) X.A X.env xe → PSs (X.tr pn xe) body (tDS { g with W := W } fb))
    (hd : (x == ("__debug__" : Str)) = false := by decide) (hdB : (B == ("__debug__" : Str)) = false := by decide) (hdn : (n == ("__debug__" : Str)) = false := by decide) (hcdn : (n == ("__classdict__" : Str)) = false := by decide)
    (hst : starEach [.Name n np4, .Name B np5] X.env = (false, eval (.Name n np4) X.env) :: starEach [.Name B np5] X.env := by rfl) (hst2 : starEach [.Name B np5] X.env = (false, eval (.Name B np5) X.env) :: starEach [] X.env := by rfl) (hpl : (backTo np6 (starEach [.Name B np5] X.env)).any (·.1) = false := by rfl) :
    PS X (.Try body [.ExceptHandler (some (.Name x np)) (some n) [.Return (some (.IfExp (.Call (.Name "isinstance" np3) [.Name n np4, .Name B np5] [] np6) (.Constant (.str z) j1 p1) (.Constant (.str z2) j2 p2) np2)) pos2] pos'] [] [] pos) (tDS g (toldS i fb l z)) := by
  refine ps_imp (ps_try_as (tb := fun W => tDS { g with W := W } fb) (ts := fun a cls d D σ H => ∃ C, cls = .ref C ∧ d = none ∧ ExcC X.K C ∧ PySem.W.kitOne X.K (.ref C) (.ref Cb) = some true ∧ σ[i]? = some (some (.ref a)) ∧ D.rt (.str z) H) (Wout := g.W) hs hf hN hi hln ⟨hc, hd, .inl hcm⟩ mo.tk hb fun a oe cls d pn hz hfl => ?_) fun D σ H ⟨ρ, n, F, kk, q⟩ => ?_
  · refine ⟨fun pins s σ H D I ⟨C, e1, e2, eC, kt, hσ, q⟩ => ?_⟩
    subst e1 e2
    refine (pss_one (ps_ret (pe_ifExp (pt_truth (pe_callB (call_isE eC hz hfl) gI mI bI (pa_cons (pe_var (i := i) hi (.inl hln) hdn hcdn) (pa_cons (pe_glob (v := .ref Cb) hcB hcBm rfl hdB) pa_nil hst2) hst) (by decide) (by decide) hst hpl) (by intro _; rfl)) pe_str pe_str))).run pins s σ H D I ?_
    refine ⟨.ref a, hσ, .ref Cb, .ref Cb, true, rfl, fun u ru => ru, kt, true, rfl, ?_⟩
    exact q
  · refine ⟨ρ, n, F, kk.reW, ?_⟩
    unfold toldS at q
    cases e : fb ρ n with
    | next ρ' n' =>
      rw [e] at q
      exact fun σ' F' H' k' s' => q σ' F' H' k'.unW s'
    | ret p n' =>
      rw [e] at q
      exact fun v F' H' b' r => q v F' H' b'.unW r
    | brk ρ' n' =>
      rw [e] at q
      exact fun σ' F' H' k' s' => q σ' F' H' k'.unW s'
    | cont ρ' n' =>
      rw [e] at q
      exact fun σ' F' H' k' s' => q σ' F' H' k'.unW s'
    | stuck => rw [e] at q; exact q.elim
    | exc xn ρ' n' =>
      rw [e] at q
      intro cls d σ' F' H' k' xo
      obtain ⟨⟨C, hC, rfl⟩, xf⟩ := xo
      have hC : g.mg xn.cls = some (.ref C) := hC
      have q : SO g F D (match l.lookup xn.cls with
        | some true => (match xn.fld with
          | none => if i < ρ'.length then .ret (.str z) n' else .stuck
          | some _ => .stuck)
        | some false => .exc xn ρ' n'
        | none => .stuck) := q
      cases el : l.lookup xn.cls with
      | none => rw [el] at q; exact q.elim
      | some b =>
        rw [el] at q
        obtain ⟨C', h1, h2, h3⟩ := mt.ok _ _ el
        rw [mo.hm, h1] at hC
        cases hC
        refine ⟨b, h2, fun hb1 a na => ?_, fun hb1 => ?_⟩
        · subst hb1
          cases ef : xn.fld with
          | some fv =>
            simp only [ef] at q
            exact q.elim
          | none =>
            simp only [ef] at q xf
            obtain ⟨h4, h5⟩ := h3 rfl
            by_cases hl : i < ρ'.length
            · rw [if_pos hl] at q
              have hl2 : i < σ'.length := by rw [← k'.len]; exact hl
              exact ⟨_, rfl, xf, h4, h5, List.getElem?_set_self hl2, q _ F' H' k'.bd.unW (.str z)⟩
            · rw [if_neg hl] at q
              exact q.elim
        · subst hb1
          exact q _ d σ' F' H' k'.unW ⟨⟨_, by rw [mo.hm]; exact h1, rfl⟩, xf⟩
end
end DL
set_option Elab.async false
set_option linter.all false
set_option maxRecDepth 100000
set_option maxHeartbeats 3200000
/-! DQ: the D layer: sorted(set(xs)) of ints -/
namespace DL
open PySem PySem.Spec PyProof.Rows L2

/-- a set as it is made -/
abbrev nSet (w : World) : Obj := { cls := .type "set", dict := none, data := .set #[] 0 (.fresh 0 0 (!w.params.followText "set-order")) }
section
variable {P : Program} {w : World} {A : Around} {E : Value → Shared → Prop} {s : Shared}
theorem set_of_list {l : Addr} {items : Array Value} (ns : List Int) {Q : Value → Shared → Prop} (hh : A.handled = none) (hl : s.heap.IsList l items) (hit : IntsAre items.toList ns) (hb : ns.length + 1 < scanBound)
    (h : ∀ (h' : Heap) (tk c : Nat), SetR w h' s.heap.objs.size (fun j => decide (j ∈ ns)) c → c ≤ ns.length → (∀ b o, s.heap.get? b = some o → h'.get? b = some o) → Q (.ref s.heap.objs.size) { s with heap := h', toks := tk }) : wpAny (model P w) A (call (.type "set") [.ref l]) Q E s := by
  have isz : items.size = ns.length := by
    have q := IntsAre.length hit
    rwa [Array.length_toList] at q
  obtain ⟨cm, tl, hmro⟩ := F.called_set.mro
  have m1 := F.called_set.made
  have m2 := F.called_set.sub
  refine wpAny_call (codeAny_of_tree ?_)
  show wpAny _ _ (callAny (.type "set") _) _ _ _
  refine wpAny_pure ⟨Code.quiet_builtin _ (by decide +kernel), codeAny_builtin F.entry_type_call ?_⟩
  rw [Around.under_plain (weight_type_call_type "set" [.ref l] []) rfl]
  have m3 := F.called_set.notType
  have m4 := F.called_set.canCreate
  have m5 := F.typeCall_set_1 (.ref l)
  repeat (any_goals (first | assumption | wp_step))
  refine codeAny_mono (code_set_led1 (.ref l) (E := E) (Q₁ := fun obj u1 => obj = .ref s.heap.objs.size ∧ u1 = { s with heap := s.heap.push (nSet w) }) ⟨rfl, rfl⟩) fun r u1 hr => ?_
  cases r with
  | error e => exact hr
  | ok fl =>
    cases fl with
    | ret obj =>
      obtain ⟨rfl, rfl⟩ := hr
      have eS : (s.heap.push (nSet w)).get? s.heap.objs.size = some (nSet w) := Heap.get?_push_size _ rfl
      have tS : Shared.TypeIs { s with heap := s.heap.push (nSet w) } (.ref s.heap.objs.size) "set" := ⟨_, eS, rfl⟩
      have m6 := F.called_set.init.lookup
      have m7 := F.called_set.init.bind (.ref s.heap.objs.size)
      repeat (any_goals (first | assumption | wp_step))
      refine codeAny_mono (codeAny_call_builtin (R := wants (fun r u2 => r = .none ∧ ∃ h' tk c, u2 = { s with heap := h', toks := tk } ∧ SetR w h' s.heap.objs.size (fun j => decide (j ∈ ns)) c ∧ c ≤ ns.length ∧ (∀ b o, s.heap.get? b = some o → h'.get? b = some o)) E) F.called_set.init.plain F.entry_set_init (check_set_init_1 tS ?_)) fun r2 u2 hr2 => ?_
      · obtain ⟨ol, eol, hcl, nl, hdl⟩ := hl
        obtain ⟨ocls, odict, odata, oslots⟩ := ol
        simp only at hcl hdl
        subst hcl
        subst hdl
        have eol2 : (s.heap.push (nSet w)).get? l = some { cls := .type "list", dict := odict, data := .seq items nl, slots := oslots } := Heap.get?_push_of_some _ eol
        have m8 := F.sub_list_set
        have m9 := F.sub_list_frozenset
        have nd : (Value.type "list" == Value.type "dict") = false := by decide
        have il : (s.heap.push (nSet w)).IsList l items := ⟨_, eol2, rfl, nl, rfl⟩
        unfold Builtin.«set.__init__» noKeywords Builtin.Frozenset.updateFrom
        generalize hPI : pyIter = PI
        wp_walk
        subst hPI
        refine wpAny_pyIter_list il ?_
        refine wpAny_bind (wpAny_runValue ?_)
        have lS : l < s.heap.objs.size := Heap.lt_size eol
        have h3 : A.in1.in1.in1.handled = none := by simp [hh]
        have nI : l ≠ (s.heap.push (nSet w)).objs.size := by
          rw [Heap.size_push]
          exact Nat.ne_of_lt (Nat.lt_succ_of_lt lS)
        have nSf : s.heap.objs.size ∉ [(s.heap.push (nSet w)).objs.size, l] := by
          rw [Heap.size_push]
          simp only [List.mem_cons, List.mem_singleton, List.not_mem_nil, or_false, not_or]
          exact ⟨Nat.ne_of_lt (Nat.lt_succ_self _), Nat.ne_of_gt lS⟩
        have hv : ∀ (i : Nat) (v : Value), items[i]? = some v → ∃ k t, ns[i]? = some k ∧ v = .int k t := fun i v e1 => by
          have hi : i < ns.length := by rw [← isz]; exact (Array.getElem?_eq_some_iff.mp e1).1
          obtain ⟨t, e2⟩ := PyProof.Rows.IntsAre.int_at hit i v (by rw [Array.getElem?_toList]; exact e1)
          refine ⟨ns[i], t, List.getElem?_eq_getElem hi, ?_⟩
          rw [e2, List.getD_eq_getElem?_getD, List.getElem?_eq_getElem hi] <;> rfl
        refine set_update_ints ((Walks.list h3 _ l nI items).toS) s.heap.objs.size nSf ns isz hb hv (items.size - 0) 0 _ (by omega) (Nat.zero_le _) ⟨⟨_, Heap.get?_push_size _ rfl, rfl, rfl⟩, (il.push _)⟩ ?a1 ?a2
        case a1 =>
          have e3 : ((s.heap.push (nSet w)).push { cls := .type "list_iterator", data := .fields #[.ref l, .int 0 0] }).get? s.heap.objs.size = some (nSet w) := Heap.get?_push_of_some _ eS
          exact ⟨0, Nat.le_refl 0, setR_new_at e3⟩
        case a2 =>
          intro u3 c3 hm hc3 hS3
          obtain ⟨h4, g4, d4, tk4, os4⟩ := u3
          have eg : g4 = s.gens := hm.gens
          have ed : d4 = s.drawn := hm.drawn
          have eo : os4 = s.os := hm.os
          subst eg
          subst ed
          subst eo
          show wpAny _ _ _ _ _ _
          refine wpAny_pure ?_
          show wpAny _ _ (ret Value.none) _ _ _
          rw [isz] at hc3
          refine wpAny_pure ⟨rfl, h4, tk4, c3, rfl, hS3, hc3, fun b o e => ?_⟩
          have b0 : b < s.heap.objs.size := Heap.lt_size e
          have b2 : b ≠ (s.heap.push (nSet w)).objs.size := by
            rw [Heap.size_push]
            exact Nat.ne_of_lt (Nat.lt_succ_of_lt b0)
          exact hm.heap b o (by simp only [List.mem_cons, List.mem_singleton, List.not_mem_nil, or_false, not_or]; exact ⟨Nat.ne_of_lt b0, b2⟩) (Heap.get?_push_of_some _ (Heap.get?_push_of_some _ e))
      · cases r2 with
        | error e => exact hr2
        | ok fl2 =>
          cases fl2 with
          | ret r =>
            obtain ⟨rfl, h5, tk5, c5, rfl, hS5, hc5, hk5⟩ := hr2
            repeat (any_goals (first | assumption | wp_step))
            exact h _ _ _ hS5 hc5 hk5
          | _ => exact hr2.elim
    | _ => exact hr.elim
end
/-- the ints of a list, once each, rising -/
def insI (k : Int) : List Int → List Int
  | [] => [k]
  | x :: r => if k < x then k :: x :: r else if k = x then x :: r else x :: insI k r
def risI : List Int → List Int
  | [] => []
  | x :: r => insI x (risI r)
theorem insI_mem (k : Int) : ∀ (l : List Int) (j : Int), j ∈ insI k l ↔ j = k ∨ j ∈ l
  | [], j => by simp [insI]
  | x :: r, j => by
    unfold insI
    by_cases h1 : k < x
    · rw [if_pos h1]
      simp
    · rw [if_neg h1]
      by_cases h2 : k = x
      · rw [if_pos h2]
        subst h2
        simp
      · rw [if_neg h2, List.mem_cons, List.mem_cons, insI_mem k r j]
        constructor <;> (rintro (h | h | h) <;> simp [h])
theorem risI_mem : ∀ (ns : List Int) (k : Int), k ∈ risI ns ↔ k ∈ ns
  | [], k => by simp [risI]
  | x :: r, k => by rw [risI, insI_mem, risI_mem r k, List.mem_cons]
theorem insI_pw (k : Int) : ∀ {l : List Int}, l.Pairwise (· < ·) → (insI k l).Pairwise (· < ·)
  | [], _ => by simp [insI]
  | x :: r, h => by
    obtain ⟨h1, h2⟩ := List.pairwise_cons.mp h
    unfold insI
    by_cases c1 : k < x
    · rw [if_pos c1]
      refine List.pairwise_cons.mpr ⟨fun j hj => ?_, h⟩
      rcases List.mem_cons.mp hj with e | e
      · rw [e]
        exact c1
      · exact Int.lt_trans c1 (h1 j e)
    · rw [if_neg c1]
      by_cases c2 : k = x
      · rw [if_pos c2]
        exact h
      · rw [if_neg c2]
        refine List.pairwise_cons.mpr ⟨fun j hj => ?_, insI_pw k h2⟩
        rcases (insI_mem k r j).mp hj with e | e
        · rw [e]
          omega
        · exact h1 j e
theorem risI_pw : ∀ ns : List Int, (risI ns).Pairwise (· < ·)
  | [] => List.Pairwise.nil
  | x :: r => insI_pw x (risI_pw r)
theorem pw_uniq : ∀ {a b : List Int}, a.Pairwise (· < ·) → b.Pairwise (· < ·) → (∀ k, k ∈ a ↔ k ∈ b) → a = b
  | [], [], _, _, _ => rfl
  | [], y :: b, _, _, h => by simpa using (h y).mpr (List.mem_cons_self)
  | x :: a, [], _, _, h => by simpa using (h x).mp (List.mem_cons_self)
  | x :: a, y :: b, ha, hb, h => by
    obtain ⟨ha1, ha2⟩ := List.pairwise_cons.mp ha
    obtain ⟨hb1, hb2⟩ := List.pairwise_cons.mp hb
    have exy : x = y := by
      rcases List.mem_cons.mp ((h x).mp List.mem_cons_self) with e | e
      · exact e
      · rcases List.mem_cons.mp ((h y).mpr List.mem_cons_self) with e2 | e2
        · exact e2.symm
        · have h1 := hb1 x e
          have h2 := ha1 y e2
          omega
    subst exy
    refine congrArg (x :: ·) (pw_uniq ha2 hb2 fun k => ?_)
    constructor
    · intro hk
      rcases List.mem_cons.mp ((h k).mp (List.mem_cons_of_mem _ hk)) with e | e
      · have := ha1 k hk
        omega
      · exact e
    · intro hk
      rcases List.mem_cons.mp ((h k).mpr (List.mem_cons_of_mem _ hk)) with e | e
      · have := hb1 k hk
        omega
      · exact e
def sortSetC : List PV → Option PV
  | [.list ds] => (match intsOf ds with
    | some ns => if ns.length < 63 then some (.list ((risI ns).map .int)) else none
    | none => none)
  | _ => none
section
variable {X : Cx} {g : Gx} {e : Expr} {fe : M} {p p2 pos pos2 : Pos}
theorem rps_intsV {K : PySem.W.Frag} {F : Hp} : ∀ ns : List Int, Rps K F (ns.map .int) (ns.map V.int)
  | [] => .nil
  | n :: ns => .cons (.int n) (rps_intsV ns)
theorem de_sortset (hc : X.calm = true) (hg : Gl X "sorted") (hm : X.mg "sorted" = none) (hv : bootBuiltins "sorted" = some (.builtin "sorted")) (hg2 : Gl X "set") (hm2 : X.mg "set" = none) (he : PE X e (tD g RP fe))
    (na : starEach [e] X.env = (false, eval e X.env) :: starEach [] X.env := by rfl) : PE X (.Call (.Name "sorted" p) [.Call (.Name "set" p2) [e] [] pos2] [] pos) (tD g RO (callB sortSetC (consA fe nilA))) := by
  refine ⟨fun pins s σ H Q I ⟨ρ, n, F, k, h⟩ => ?_⟩
  refine Call_ (ld_blt I hg hm hv ?_)
  refine PyProof.Rows.callWith_builtin1 (PyProof.Rows.args_cons ?_ rfl) rfl rfl
  refine Call_ (ld_blt I hg2 hm2 PyProof.Rows.boot_set ?_)
  have h2 : tD g RP fe σ H fun v H1 => ∃ q n1 F1, Bd g n1 F1 H1 ∧ Stp g F H F1 H1 ∧ Pk g F1 H1 q v ∧ ∃ s, sortSetC [q] = some s ∧ ∀ F' H', Bd g n1 F' H' → Stp g F1 H1 F' H' → ∀ u, RO g F H F' H' s u → Q u H' := by
    refine ⟨ρ, n, F, k, (PO.bind (PO.bind h)).imp fun q n1 F1 H1 b1 s1 h1 v rv => ?_⟩
    have h1 : PO g F1 H1 σ (opt (sortSetC [q]) n1) _ := h1 F1 H1 b1 Stp.refl
    obtain ⟨s, e1, h3⟩ := PO.opt h1
    exact ⟨q, n1, F1, b1, s1, rv, s, e1, h3⟩
  refine PyProof.Rows.callWith_type1 (PyProof.Rows.args_cons (thn (he.run pins s σ H _ I h2) fun v s1 ⟨x, H1, I1, r1, q1⟩ => PyProof.Rows.args_nil ?_) na) na rfl
  obtain ⟨q, n1, F1, b1, s1', rv, sv, es, hQ⟩ := q1
  unfold sortSetC at es
  cases q with
  | list ds =>
    simp only at es
    cases ei : intsOf ds with
    | none => rw [ei] at es; cases es
    | some ns =>
      rw [ei] at es
      simp only at es
      by_cases hl : ns.length < 63
      · rw [if_pos hl] at es
        cases es
        cases Pk.rp b1 rv with
        | lst ha rs =>
          rw [intsOf_rps rs ei] at ha
          cases r1
          obtain ⟨its, rr, pl, hz⟩ := I1.list (SqL.of (vw_sub _ _ ha))
          refine set_of_list ns (I1.ok.hd hc) pl.isList (by simpa using ints_of_vals rr) (by unfold scanBound; omega) fun h' tk c R1 hcn hk => ?_
          refine PyProof.Rows.args_nil ?_
          have I2 : Inv X pins σ H1 { s1 with heap := h', toks := tk } := I1.kept hk
          refine sorted_set R1 (I1.ok.hd hc) (by omega) fun s' p out c' ms k2 g2 o2 hp2 hg3 hi3 hs3 hm3 hl3 => ?_
          have em : ms = risI ns := pw_uniq hs3 (risI_pw ns) fun j => by rw [hm3 j, risI_mem, decide_eq_true_eq]
          subst em
          have hlen : ((risI ns).map V.int).length ≤ sizeLine := by rw [List.length_map, hl3, sizeLine_eq]; omega
          have hn2 : H1 p = none := I2.hok.fresh hp2
          have J : Inv X pins σ (upd H1 p (.lst ((risI ns).map V.int))) s' := I2.call' (ch := []) o2 (Un.laid k2 hp2 hn2) (I2.hok.laid k2 hp2 ⟨hlen, out.toList, c', vals_of_ints hi3, hg3⟩) (by rw [g2]; exact I2.bare) (fun _ z => nomatch z)
          exact ⟨.ref p, _, J, rfl, finO b1 s1' (fun u F' H' b' s'' r => hQ F' H' b' s'' u r) (rps_intsV _) hn2⟩
      · rw [if_neg hl] at es
        cases es
  | _ => simp at es
end
end DL
set_option Elab.async false
set_option linter.all false
set_option maxRecDepth 100000
set_option maxHeartbeats 1000000
/-! DR: the D layer: the law's def -/
namespace DL
open PySem PySem.Spec PyProof.Rows L2

theorem law_top {P : Program} {w : World} {K : PySem.W.Frag} {mg : Str → Option Value} {base : Heap} {T : List Addr} {st : Stmt} {N : List Str} {k n : Nat} {d : List Int → MS} {fdd : FuncData} (F : FunD K "law" "law" (defArgs st) (defBody st) (defScope st) [] [] (He.fAd K ("law", none)) fdd) (S : FnScope N ["script"] (defScope st)) (hN : N.length = n + 2)
    (pure : ∀ R, RGood R → ∃ m, d R (lawE n) 0 = .ret (.bool true) m)
    (hbody : ∀ (cdv : Value) (A : Around) (outer : List Env) (s : Shared) (H : Hp) (E : XK), cdv = .ref (He.codeOf K ("law", none)) → Room k (A.deeper (envOfC "law" (defScope st) s.heap.objs.size (He.fAd K ("law", none)) cdv)) →
      PSs (cxOf (L2.CX P w) P w K mg base N "law" (defScope st) (He.fAd K ("law", none)) cdv A outer s H E) (defBody st) (t_law K mg T (fun cls d _ H => E cls d H) (WE fun cls d _ H => E cls d H) d)) :
    FnOk P w K mg base (L2.CX P w) (k + 1) (He.fAd K ("law", none)) fdd ["script"] (SpL K T) := by
  obtain ⟨oc, od, dV, kV, doc, pm, an, cdv, ct, osl, e, lk, hcd, _, _⟩ := F.ex
  have hcv : cdv = .ref (He.codeOf K ("law", none)) := by
    obtain ⟨c, ec⟩ := He.codeIn_ref hcd
    rw [ec, He.codeOf_eq lk (show fdd.code = .ref c by rw [e]; exact ec)]
  subst e
  refine fn_of lk hcd S (fun vs H Q E h => ?_) fun A outer s H vs Q E hr h => ⟨_, hbody cdv A outer s H E hcv hr, pure_law hN pure h⟩
  obtain ⟨a, ns, rfl, _⟩ := h
  rfl
/-! ### what the head tells -/
def eD (x : Str) (st : Stmt) : He.DefD := ⟨(x, none), x, x, defArgs st, defBody st, defScope st, [], []⟩
def excB (K : PySem.W.Frag) (D : Addr) : Bool := decide (PySem.W.findIn K (.ref D) "__getattribute__" = some (some (.builtin "BaseException.__getattribute__"))) && (decide (PySem.W.findIn K (.ref D) "__getattr__" = some none) && (decide (PySem.W.subIn K (.ref D) (.type "BaseException") = some true) && (PySem.W.hasDictIn K D &&
  (decide (PySem.W.findIn K (.ref D) "__class__" = some (some (.builtin "object.__class__"))) && (decide (PySem.W.specialIn K (.builtin "object.__class__") "__get__" = some (some (.builtin "getset_descriptor.__get__"))) && (decide (PySem.W.takesIn K (.builtin "object.__class__") = some true) && decide (PySem.W.mroIn K D (.type "object") = some true)))))))
theorem excB_ok {K : PySem.W.Frag} {D : Addr} (h : excB K D = true) : ExcC K D := by
  obtain ⟨h1, h⟩ := He.ba h
  obtain ⟨h2, h⟩ := He.ba h
  obtain ⟨h3, h⟩ := He.ba h
  obtain ⟨h4, h⟩ := He.ba h
  obtain ⟨h5, h⟩ := He.ba h
  obtain ⟨h6, h⟩ := He.ba h
  obtain ⟨h7, h8⟩ := He.ba h
  exact ⟨of_decide_eq_true h1, of_decide_eq_true h2, of_decide_eq_true h3, h4, of_decide_eq_true h5, of_decide_eq_true h6, of_decide_eq_true h7, of_decide_eq_true h8⟩
def kitB1 (K : PySem.W.Frag) (a b : Addr) : Bool := decide (PySem.W.kitOne K (.ref a) (.ref b) = some true)
theorem all_at {l : List Bool} (h : l.all id = true) (i : Nat) {b : Bool} (e : l[i]? = some b) : b = true := List.all_eq_true.mp h b (List.mem_of_getElem? e)
theorem topD_of {fa : List He.Fa} {fn : List He.DefD} {K : PySem.W.Frag} {h : Heap} {mg : Str → Option Value} {x : Str} {st : Stmt} (X : K.In h) (G : h.Ns mainGlobals mg) (c : He.SaysD fa fn K) (i j : Nat) (hi : fn[i]? = some (eD x st)) (hj : fa[j]? = some (.glo x)) : TopD K mg x st := ⟨c.def_ i hi, He.glo_ok X G (c.fact j hj)⟩
theorem lawAt_of {l : PySem.W.OpenLaw} {w : World} {K : PySem.W.Frag} {h : Heap} {mg : Str → Option Value} {fa : Addr} {k n : Nat} {tf : List He.Defn} {st : Stmt} {Fa : List He.Fa} {fn : List He.DefD} {ts : List He.Tab} {ex : PySem.W.Frag → Bool} (hn : n ≤ 1000) (X : K.In h) (c : He.SaysX Fa fn ts tf ex w h K) (t : TopD K mg "law" st) (hmg : mg "law" = some (.ref fa))
    (hb : ∀ fdd, FunD K "law" "law" (defArgs st) (defBody st) (defScope st) [] [] (He.fAd K ("law", none)) fdd → ∀ (s : Shared) (u : Value), BindsTo s fdd ⟨[u], []⟩ [("script", u)])
    (F : ∀ (base : Heap) fdd, (∀ p ∈ tf.map (He.cT K), GxR.TabB base mg p.1 p.2) → FunD K "law" "law" (defArgs st) (defBody st) (defScope st) [] [] (He.fAd K ("law", none)) fdd → FnOk l.prog w K mg base (L2.CX l.prog w) k (He.fAd K ("law", none)) fdd ["script"] (SpL K ((tf.map (He.cT K)).map (·.2)))) :
    LamX.LawAtS l w K (L2.CX l.prog w) k n "script" mg fa h := by
  obtain ⟨fdd, FD⟩ := t.ex
  have e := hmg.symm.trans t.hg
  cases e
  have tm : ∀ p ∈ tf.map (He.cT K), ∃ q ∈ tf, p = He.cT K q := fun p hp => by
    obtain ⟨q, hq, e⟩ := List.mem_map.mp hp
    exact ⟨q, hq, e.symm⟩
  refine ⟨fdd, tf.map (He.cT K), SpL K ((tf.map (He.cT K)).map (·.2)), fun p hp => ?_, fun p hp => ?_, fun p hp => ?_, hb fdd FD, fun H a ns hl _ hH hS => ⟨a, ns, rfl, hS, Nat.le_trans hl hn, fun P hP => ?_, fun _ => rfl⟩, fun base _ _ hT => F base fdd (fun p hp => let t := hT p hp; ⟨t.code, t.bm, t.gP⟩) FD⟩
  · obtain ⟨q, hq, rfl⟩ := tm p hp
    exact c.empty q hq
  · obtain ⟨q, hq, rfl⟩ := tm p hp
    exact c.out q hq
  · obtain ⟨q, hq, rfl⟩ := tm p hp
    exact PySem.W.codeHd_of_K X (c.hd q hq)
  · obtain ⟨p, hp, rfl⟩ := List.mem_map.mp hP
    exact ⟨#[], hH p hp, trivial⟩
/-! ### +=, *= -/
def addW : PV → PV → Option PV
  | .int a, .int b => some (.int (a + b))
  | .str a, .str b => if a.length + b.length ≤ sizeLine then some (.str (a ++ b)) else none
  | _, _ => none
def mulI : PV → PV → Option PV
  | .int a, .int b => if a.natAbs < 2 ^ 64 ∨ b.natAbs < 2 ^ 64 then some (.int (a * b)) else none
  | _, _ => none
section
variable {g : Gx}
theorem iop_addV {X : Cx} : OpR X (inplaceOp .Add) (fun x y H Q => (rI0 fun i j => .int (i + j)) x y H Q ∨ (∃ i j, x = .str i ∧ y = .str j ∧ i.length + j.length ≤ sizeLine ∧ Q (.str (i ++ j)) H)) := OpR.or iop_add iop_add_str
theorem rule_addW : RuleR g RF addW (fun x y H Q => (rI0 fun i j => .int (i + j)) x y H Q ∨ (∃ i j, x = .str i ∧ y = .str j ∧ i.length + j.length ≤ sizeLine ∧ Q (.str (i ++ j)) H)) := by
  intro n F0 H0 F H p q s v w Q b st rp rq e h
  unfold addW at e
  split at e
  · cases e
    cases Pk.rp b rp
    cases Pk.rp b rq
    exact .inl ⟨_, _, rfl, rfl, fin0 b h (.int _)⟩
  · split at e
    · rename_i hz
      cases e
      cases Pk.rp b rp
      cases Pk.rp b rq
      exact .inr ⟨_, _, rfl, rfl, hz, fin0 b h (.str _)⟩
    · cases e
  · cases e
theorem rule_mulI : RuleR g RF mulI (rI CMul fun i j => .int (i * j)) := by
  intro n F0 H0 F H p q s v w Q b st rp rq e h
  unfold mulI at e
  split at e
  · split at e
    · rename_i hz
      cases e
      cases Pk.rp b rp
      cases Pk.rp b rq
      refine ⟨_, _, rfl, rfl, ?_, fin0 b h (.int _)⟩
      unfold CMul
      omega
    · cases e
  · cases e
end
end DL
set_option Elab.async false
set_option linter.all false
set_option maxRecDepth 100000
set_option maxHeartbeats 2000000
/-! DS: the D layer: enumerate of lists and tuples -/
namespace DL
open PySem PySem.Spec PyProof.Rows L2

theorem meets_enu1 {v : Value} {o : Obj} {Hp0 : Heap → Prop} (B : Begins v o Hp0) :
    Meets (Builtin.«enumerate.__new__» ⟨[.type "enumerate", v], []⟩) (fun _ R s => Hp0 s.heap ∧ R (.ok (.ret (.ref (s.heap.push o).objs.size))) { s with heap := (s.heap.push o).push { cls := .type "enumerate", data := .fields #[.none, .bool false, .ref s.heap.objs.size, rawInt 0, .none, .none] } }) :=
  .of_wp fun prog w A R s h => by
    obtain ⟨hp, g, d, tk, os⟩ := s
    obtain ⟨h1, h⟩ := h
    have hsub := sub_enumerate
    have q1 : ∀ {A' : Around} {E : Value → Shared → Prop} {Q : Value → Shared → Prop}, Q (.ref hp.objs.size) ⟨hp.push o, g, d, tk, os⟩ → wpAny (model prog w) A' (pyIter v) Q E ⟨hp, g, d, tk, os⟩ := fun q => B.iter prog w _ _ ⟨hp, g, d, tk, os⟩ _ h1 q
    wp_walk using q1
    refine wpAny_stack_any fun st => wpAny_pure ?_
    split
    · rename_i c _ _ _ _ _
      cases (c == Value.type "enumerate")
      · wp_walk using q1
        exact ⟨_, rfl, h⟩
      · wp_walk using q1
        exact ⟨_, rfl, h⟩
    · wp_walk using q1
      exact ⟨_, rfl, h⟩
theorem enu1 {prog : Program} {w : World} {A : Around} {E : Value → Shared → Prop} {s : Shared} {v : Value} {o : Obj} {Hp0 : Heap → Prop} {Q : Value → Shared → Prop} (B : Begins v o Hp0) (h1 : Hp0 s.heap)
    (h : ∀ h', IsEnum h' (s.heap.objs.size + 1) s.heap.objs.size 0 .none → h'.get? s.heap.objs.size = some o → h'.objs.size = s.heap.objs.size + 2 → (∀ b o, s.heap.get? b = some o → h'.get? b = some o) → Q (.ref (s.heap.objs.size + 1)) { s with heap := h' }) :
    wpAny (model prog w) A (call (.type "enumerate") [v]) Q E s := by
  refine callType_new F.called_enumerate (by decide) (F.typeCall_enumerate_1 _) (F.newCall_enumerate_1 _) (fun obj => F.args_object_init_2 obj _) F.entry_enumerate_new (meets_enu1 B) ⟨h1, ?_⟩
  have hz : (s.heap.push o).objs.size = s.heap.objs.size + 1 := Heap.size_push ..
  show _ ∧ _
  rw [hz]
  have he : IsEnum ((s.heap.push o).push { cls := .type "enumerate", data := .fields #[.none, .bool false, .ref s.heap.objs.size, rawInt 0, .none, .none] }) (s.heap.objs.size + 1) s.heap.objs.size 0 .none := by
    have q := Heap.get?_push_size (s.heap.push o) (o := { cls := .type "enumerate", data := .fields #[.none, .bool false, .ref s.heap.objs.size, rawInt 0, .none, .none] }) rfl
    rw [hz] at q
    exact q
  exact ⟨⟨_, he, rfl⟩, h _ he (Heap.get?_push_of_some _ (Heap.get?_push_size _ B.free)) (by rw [Heap.size_push, hz]) fun b o x => Heap.get?_push_of_some _ (Heap.get?_push_of_some _ x)⟩
/-- the tuple at a, each item in a new pair -/
def IteT (K : PySem.W.Frag) (a : Addr) : It :=
  ⟨fun i H => ∃ (xs : List V) (x : V), SqT K H a xs ∧ xs[i]? = some x, fun i H v H' => ∃ T x, v = .ref T ∧ H T = none ∧ H' = upd H T (.tup [.int (i : Nat), x]) ∧ ∀ xs, SqT K H a xs → xs[i]? = some x, fun i H => ∃ xs : List V, SqT K H a xs ∧ xs.length ≤ i⟩
theorem turn_enuT {P : Program} {w : World} {K : PySem.W.Frag} {elts : List Expr} {kk : Nat} {tpos : Pos} (a e it : Addr) :
    Turn P w K (.Tuple elts kk tpos) (IteT K a) [e, it] e (fun i h => (∃ old, IsEnum h e it ((i : Nat) : Int) old) ∧ h.IsTupleIter it a i ∧ e ≠ it ∧ a ≠ it ∧ e ≠ a) where
  mem := by simp
  obj := fun i h st b hb => by
    obtain ⟨⟨old, he⟩, ⟨o, ho, hc, hd⟩, _⟩ := st
    have e' : b = e ∨ b = it := by simpa using hb
    rcases e' with z | z
    · rw [z]; exact ⟨_, he, fun v q => nomatch q⟩
    · rw [z]; exact ⟨o, ho, fun v q => by rw [hd] at q; cases q⟩
  keep := fun i h h' st k => let ⟨⟨old, he⟩, hi, hne⟩ := st; ⟨⟨old, k e (by simp) _ he⟩, hi.at fun o q => k it (by simp) o q, hne⟩
  item := by
    intro X hP hw hK hc i pins s σ H E I hf st hg
    subst hP hw hK
    obtain ⟨⟨old, he⟩, hit, hne, hai, hea⟩ := st
    obtain ⟨xs, x, hq, hx⟩ := hg
    obtain ⟨its, rv, p, hz⟩ := I.tuple hq
    have hel : e < s.heap.objs.size := Heap.lt_size he
    have hil : it < s.heap.objs.size := by obtain ⟨_, q, _⟩ := hit; exact Heap.lt_size q
    have hlt : i < its.toArray.size := by
      have h1 := (List.getElem?_eq_some_iff.mp hx).1
      have h2 := rv.length
      rw [List.size_toArray]
      omega
    refine wpAny_pyNext_enum_itemD (Draws.tuple (show X.A.in1.handled = none from I.ok.hd hc) it a hai its.toArray) he ⟨hit, p⟩ hlt hne (by simp only [List.mem_cons, List.not_mem_nil, or_false, not_or]; exact ⟨hne, hea⟩) fun u h' tk hu ho hst' hT hsz hk => ?_
    have hu' : its[i]? = some u := by simpa using hu
    obtain ⟨u2, hu2, ru⟩ := rv.get hx
    rw [hu'] at hu2
    cases hu2
    refine ⟨_, rfl, wpAny_letOwnedTupleGo_enum (s := { s with heap := h', toks := tk + 1 }) ho fun h'' he' sb => ?_⟩
    have hT2 : h''.get? s.heap.objs.size = some { cls := .type "tuple", data := .seq #[.int i tk, u] } := (sb.2 _ (Nat.ne_of_gt hel)).trans hT
    have new : ObjOk X.prog X.w (upd H s.heap.objs.size (.tup [.int (i : Nat), x])) h'' s.heap.objs.size (.tup [.int (i : Nat), x]) :=
      ⟨by show 2 ≤ sizeLine; decide, [.int i tk, u], .cons ⟨_, rfl⟩ (.cons ru .nil), ⟨_, hT2, rfl, _, rfl⟩⟩
    have I1 : Inv X pins σ (upd H s.heap.objs.size (.tup [.int (i : Nat), x])) { s with heap := h'', toks := tk + 1 } :=
      I.turnedNew (ch := [e, it]) (fun b ob hb q => (sb.2 b (fun z => hb (by simp [z]))).trans (hk b ob (fun z => hb (by simp [z])) (fun z => hb (by simp [z])) q)) hf (Nat.le_refl _) new
    refine ⟨.ref s.heap.objs.size, _, I1, rfl, ⟨_, x, rfl, I.hok.fresh (Nat.le_refl _), rfl, fun ys hy => by rw [I.tuple_inj hy hq]; exact hx⟩, ⟨⟨u, ?_⟩, hst'.1.at fun o q => (sb.2 it (Ne.symm hne)).trans q, hne, hai, hea⟩, fun b hb => ?_⟩
    · have e1 : ((i + 1 : Nat) : Int) = (i : Int) + 1 := by omega
      rw [e1]; exact he'
    · have hb' : b < s.heap.objs.size := by
        have e' : b = e ∨ b = it := by simpa using hb
        rcases e' with z | z
        · rw [z]; exact hel
        · rw [z]; exact hil
      rw [upd_ne (Nat.ne_of_lt hb')]
      exact (hf b hb).1
  done := by
    intro X hP hw hK hc i pins s σ H E I hf st hg
    subst hP hw hK
    obtain ⟨⟨old, he⟩, hit, hne, hai, hea⟩ := st
    obtain ⟨xs, hq, hx⟩ := hg
    obtain ⟨its, rv, p, hz⟩ := I.tuple hq
    obtain ⟨f0, f1, f2, f3, f4, f5⟩ := hf it (by simp)
    have hl := rv.length
    have hT : s.TypeIs (.ref e) "enumerate" := ⟨_, he, rfl⟩
    unfold pyNext
    refine wpAny_bind (wpAny_attempt (wpAny_callSpecial?_slot (name := Str.ofString "__next__") hT F.slot_enumerate_next (wpAny_call_entry F.slot_enumerate_next hT F.entry_enumerate_next ?_ (F.args_enumerate_next_1 _))))
    show wpAny _ _ (field (.ref e) 2 >>= _) _ _ _
    refine wpAny_bind (wpAny_field he rfl (x := .ref it) rfl ?_)
    refine wpAny_bind (wpAny_nextOf_tuple_end (show X.A.in1.handled = none from I.ok.hd hc) hit (show s.heap.IsTuple a its.toArray from p) (by simp; omega) fun h' x eb hx' => ?_)
    obtain ⟨o, ho, hcl⟩ := hx'
    refine wpAny_bind (wpAny_isInstance (T := "StopIteration") (b := true) ⟨o, ho, hcl⟩ isSubtype_stop ?_)
    exact wpAny_pure ⟨rfl, I.turned (t' := s.toks) (fun b o hb q => eb b o hb q) f0 f1 f3 f4 f5⟩
  self := fun A i s Q E st h => let ⟨⟨_, he⟩, _⟩ := st; wpAny_pyIter_enum he h

/-- enumerate of a list or a tuple -/
def enuW : PV → Option (List PV)
  | .list ds => some (ds.zipIdx.map fun q => .tuple [.int (q.2 : Int), q.1])
  | .tuple ds => some (ds.zipIdx.map fun q => .tuple [.int (q.2 : Int), q.1])
  | _ => none
def enuJ (f : M) : MA := fun ρ n => (f ρ n).bind fun p n1 => opA (enuW p) n1
section
variable {X : Cx} {g : Gx} {e : Expr} {fe : M}
theorem itOk_enuT {a : Addr} {vs : List V} {ds : List PV} {F1 : Hp} (ha : SqT g.K F1 a vs) (r : Rps g.K F1 ds vs) : ItOk g (IteT g.K a) F1 (ds.zipIdx.map fun q => .tuple [.int (q.2 : Int), q.1]) where
  go := fun i n F H b s hi => by
    have hi' : i < vs.length := by rw [r.length]; simpa using hi
    exact ⟨vs, vs[i], b.fh.sqT (s.sqT ha), List.getElem?_eq_getElem hi'⟩
  stop := fun i n F H b s hi => ⟨vs, b.fh.sqT (s.sqT ha), by rw [r.length]; simpa using hi⟩
  yld := fun i n F H x H' p b s e y => by
    obtain ⟨T, w, rfl, nT, rfl, y⟩ := y
    have e1 := y vs (b.fh.sqT (s.sqT ha))
    rw [List.getElem?_map, List.getElem?_zipIdx] at e
    cases q : ds[i]? with
    | none => rw [q] at e; cases e
    | some d =>
      rw [q] at e
      obtain ⟨v, e2, rv⟩ := r.get q
      rw [e1] at e2
      cases e2
      have e' := Option.some.inj e
      subst e'
      have sb := (Stp.newF (g := g) (o := .tup [.int (i : Nat), w]) nT b.fh).ff
      refine ⟨_, b.newF nT, Stp.newF nT b.fh, .tup (SqT.of upd_same) (.cons ?_ (.cons ((rv.mono s).mono sb) .nil))⟩
      have : ((0 + i : Nat) : Int) = ((i : Nat) : Int) := by omega
      show Rp _ _ (.int ((0 + i : Nat) : Int)) (.int ((i : Nat) : Int))
      rw [this]
      exact .int _
theorem di_enuJ {p pos tpos : Pos} {elts : List Expr} {kk : Nat} (hK : g.K = X.K) (hg : Gl X "enumerate") (hm : X.mg "enumerate" = none) (he : PE X e (tD g RF fe)) (hs0 : starEach [e] X.env = (false, eval e X.env) :: starEach [] X.env := by rfl) (hs : starEach [e] X.env = [(false, eval e X.env)] := by rfl) :
    PI X (.Tuple elts kk tpos) (.Call (.Name "enumerate" p) [e] [] pos) (iD g (enuJ fe)) := by
  refine ⟨fun pins s σ H R I h => ?_⟩
  have h' : tCons (tD g RF fe) tNil σ H fun vs H1 => ∃ v p n1 F1, vs = [v] ∧ Bd g n1 F1 H1 ∧ Rp g.K F1 p v ∧ ∃ items, enuW p = some items ∧ (items.length ≤ sizeLine → ∀ J, ItOk g J F1 items → R J H1) := by
    obtain ⟨ρ, n, F, k, h⟩ := h
    refine ⟨ρ, n, F, k, (PO.bind h).imp fun p n1 F1 H1 b1 s1 h1 v r => ?_⟩
    obtain ⟨items, e1, h2⟩ := PO.opA h1
    exact ⟨v, p, n1, F1, rfl, b1, r, items, e1, h2 F1 H1 b1 Stp.refl⟩
  refine Call_ (ld_blt I hg hm boot_enumerate (PyProof.Rows.callWith_type1 (thn ((pa_cons he pa_nil hs0).run pos pins s σ H _ I h') fun us s1 ⟨vs, H1, I1, r1, v, p, n1, F1, ev, b1, rp, items, e1, q⟩ => ?_) hs rfl))
  subst ev
  have fp : ∀ (s2 : Shared) (b : Addr), s2.heap = s1.heap → (b ∈ [s1.heap.objs.size + 1, s1.heap.objs.size]) → FpOk X pins H1 b := fun s2 b _ hb => by
    have e' : b = s1.heap.objs.size + 1 ∨ b = s1.heap.objs.size := by simpa using hb
    have hle : s1.heap.objs.size ≤ b := by
      rcases e' with z | z
      · rw [z]; exact Nat.le_add_right _ _
      · rw [z]; exact Nat.le_refl _
    exact I1.fpOk hle (I1.hok.fresh hle)
  cases rp with
  | lst ha rs =>
    cases e1
    cases r1 with
    | cons r rr =>
      cases rr
      cases r
      obtain ⟨its, rv, p', hz⟩ := I1.list (SqL.of (b1.fh _ _ ha))
      refine call_enumerate_list p'.isList fun h' he hit hsz hk => wpAny_pyIter_enum he ?_
      have I2 : Inv X pins σ H1 { s1 with heap := h' } := I1.kept (t' := s1.toks) hk
      exact ⟨s1.heap.objs.size + 1, [s1.heap.objs.size + 1, s1.heap.objs.size], _, _, H1, rfl, I2, turn_enum _ (s1.heap.objs.size + 1) s1.heap.objs.size, ⟨⟨.none, he⟩, hit, Nat.succ_ne_self _⟩, fun b hb => fp s1 b rfl hb, q (by rw [List.length_map, List.length_zipIdx, ← rs.length]; exact hz) _ (by rw [← hK]; exact itOk_enu ha rs)⟩
  | tup ha rs =>
    cases e1
    cases r1 with
    | cons r rr =>
      cases rr
      cases r
      rename_i a vs0 ds0 x9
      obtain ⟨its, rv, p', hz⟩ := I1.tuple (show SqT X.K H1 _ _ by rw [← hK]; exact b1.fh.sqT ha)
      have pa : s1.heap.IsTuple a its.toArray := p'
      have alt : a < s1.heap.objs.size := by
        obtain ⟨o, eo, _⟩ := pa
        exact Heap.lt_size eo
      refine enu1 (begins_tuple a its.toArray) pa fun h' he ho hsz hk => wpAny_pyIter_enum he ?_
      have I2 : Inv X pins σ H1 { s1 with heap := h' } := I1.kept (t' := s1.toks) hk
      exact ⟨s1.heap.objs.size + 1, [s1.heap.objs.size + 1, s1.heap.objs.size], _, _, H1, rfl, I2, turn_enuT a (s1.heap.objs.size + 1) s1.heap.objs.size, ⟨⟨.none, he⟩, ⟨_, ho, rfl, rfl⟩, Nat.succ_ne_self _, Nat.ne_of_lt alt, Nat.ne_of_gt (Nat.lt_succ_of_lt alt)⟩, fun b hb => fp s1 b rfl hb, q (by rw [List.length_map, List.length_zipIdx, ← rs.length]; exact hz) _ (by rw [← hK]; exact itOk_enuT ha rs)⟩
  | _ => cases e1
end
end DL
set_option Elab.async false
set_option linter.all false
set_option maxRecDepth 100000
set_option maxHeartbeats 1000000
/-! PU: pure values: what the combinators do, for plain proofs -/
namespace DL
open PySem

/-! ### the combinators at a state -/
section
variable (ρ : DEnv) (n : Nat)
@[simp] theorem e_seqS (f h : MS) : seqS f h ρ n = (f ρ n).then h := rfl
@[simp] theorem e_setS (i : Nat) (f : M) : setS i f ρ n = ofE (f ρ n) ρ fun p n1 => .next (ρ.set i (some (.sh p))) n1 := rfl
@[simp] theorem e_ownS (i : Nat) (f : M) : ownS i f ρ n = ofE (f ρ n) ρ fun p n1 => .next (ρ.set i (some (.ow p))) n1 := rfl
@[simp] theorem e_ifS (c : MB) (a b : MS) : ifS c a b ρ n = ofE (c ρ n) ρ fun d n1 => if d = true then a ρ n1 else b ρ n1 := rfl
@[simp] theorem e_retS (f : M) : retS f ρ n = ofE (f ρ n) ρ fun p n1 => .ret p n1 := rfl
@[simp] theorem e_retN : retN ρ n = .ret .none n := rfl
@[simp] theorem e_skip : skip ρ n = .next ρ n := rfl
@[simp] theorem e_brk : brkS ρ n = .brk ρ n := rfl
@[simp] theorem e_con : conS ρ n = .cont ρ n := rfl
@[simp] theorem e_expS (f : M) : expS f ρ n = ofE (f ρ n) ρ fun _ n1 => .next ρ n1 := rfl
@[simp] theorem e_excS (c : Str) : excS c ρ n = .exc ⟨c, none⟩ ρ n := rfl
@[simp] theorem e_forS (it : MA) (b : Bnd) (body : MS) : forS it b body ρ n = ofE (it ρ n) ρ fun items n1 => forL b body items ρ n1 := rfl
@[simp] theorem e_kM (p : PV) : kM p ρ n = .ok p n := rfl
@[simp] theorem e_bin (k : PV → PV → Option PV) (f h : M) : bin k f h ρ n = (f ρ n).bind fun p n1 => (h ρ n1).bind fun q n2 => opt (k p q) n2 := rfl
@[simp] theorem e_una (k : PV → Option PV) (f : M) : una k f ρ n = (f ρ n).bind fun p n1 => opt (k p) n1 := rfl
@[simp] theorem e_nilA : nilA ρ n = .ok [] n := rfl
@[simp] theorem e_consA (f : M) (fs : MA) : consA f fs ρ n = (f ρ n).bind fun p n1 => (fs ρ n1).bind fun ps n2 => .ok (p :: ps) n2 := rfl
@[simp] theorem e_tst (f : M) : tst f ρ n = (f ρ n).bind fun p n1 => opB (blV p) n1 := rfl
@[simp] theorem e_tru (f : M) : tru f ρ n = (f ρ n).bind fun p n1 => opB (truV p) n1 := rfl
@[simp] theorem e_andB (a b : MB) : andB a b ρ n = (a ρ n).bind fun c n1 => if c = true then b ρ n1 else .ok false n1 := rfl
@[simp] theorem e_orB (a b : MB) : orB a b ρ n = (a ρ n).bind fun c n1 => if c = true then .ok true n1 else b ρ n1 := rfl
@[simp] theorem e_notB (a : MB) : notB a ρ n = (a ρ n).bind fun c n1 => .ok (!c) n1 := rfl
@[simp] theorem e_yes : yes ρ n = .ok true n := rfl
@[simp] theorem e_iteM (c : MB) (a b : M) : iteM c a b ρ n = (c ρ n).bind fun d n1 => if d = true then a ρ n1 else b ρ n1 := rfl
@[simp] theorem e_callB (k : List PV → Option PV) (fa : MA) : callB k fa ρ n = (fa ρ n).bind fun ps n1 => opt (k ps) n1 := rfl
@[simp] theorem e_callM (m : Nat) (f : List PV → FOut) (fa : MA) : callM m f fa ρ n = (fa ρ n).bind fun ps n1 => if ps.length = m then ofF (f ps) n1 else .stuck := rfl
@[simp] theorem e_seqI (f : M) : seqI f ρ n = (f ρ n).bind fun p n1 => opA (seqV p) n1 := rfl
@[simp] theorem e_rngI (v : List PV → Option (List PV)) (f : MA) : rngI v f ρ n = (f ρ n).bind fun ps n1 => opA (v ps) n1 := rfl
@[simp] theorem e_enuI (f : M) : enuI f ρ n = (f ρ n).bind fun p n1 => opA (enuV p) n1 := rfl
@[simp] theorem e_enuJ (f : M) : enuJ f ρ n = (f ρ n).bind fun p n1 => opA (enuW p) n1 := rfl
@[simp] theorem e_zipI (f h : M) : zipI f h ρ n = (f ρ n).bind fun p n1 => (h ρ n1).bind fun q n2 => opA (zipV p q) n2 := rfl
@[simp] theorem e_bNm (i : Nat) (p : PV) : bNm i p ρ = some (ρ.set i (some (.sh p))) := rfl
@[simp] theorem e_lcM (it : MA) (b : Bnd) (tt : MB) (elt : M) (vs : List Nat) : lcM it b tt elt vs ρ n = (it ρ n).bind fun items n1 => (noX (lcL b tt elt (wipeE ρ vs) items n1)).bind fun qs n2 => .ok (.list qs) n2 := rfl
@[simp] theorem e_gnM (c : Bool) (it : MA) (b : Bnd) (elt : M) (vs : List Nat) : gnM c it b elt vs ρ n = (it ρ n).bind fun items n1 => (noX (gnL c b elt (wipeE ρ vs) items n1)).bind fun d n2 => .ok (.bool d) n2 := rfl
@[simp] theorem e_tupA (fs : MA) : tupA fs ρ n = (fs ρ n).bind fun ps n1 => if ps.length ≤ sizeLine then .ok (.tuple ps) n1 else .stuck := rfl
@[simp] theorem e_lstA (fs : MA) : lstA fs ρ n = (fs ρ n).bind fun ps n1 => if ps.length ≤ sizeLine then .ok (.list ps) n1 else .stuck := rfl
@[simp] theorem e_parS (is : List Nat) (f : MA) : parS is f ρ n = ofE (f ρ n) ρ fun ps n1 => if ps.length = is.length then .next (setAll is ps ρ) n1 else .stuck := rfl
theorem e_rdS {i : Nat} {p : PV} (h : ρ[i]? = some (some (.sh p))) : rdS i ρ n = .ok p n := by unfold rdS; rw [h]
theorem e_rdP {i : Nat} {p : PV} (h : ρ[i]? = some (some (.sh p))) : rdP i ρ n = .ok p n := by unfold rdP; rw [h]
theorem e_rdPo {i : Nat} {p : PV} (h : ρ[i]? = some (some (.ow p))) : rdP i ρ n = .ok p n := by unfold rdP; rw [h]
theorem e_nxt {R : List Int} {i : Nat} {f : M} (h : ρ[i]? = some (some .bx)) {m : Int} {n1 : Nat} (e : f ρ n = .ok (.int m) n1) (hm : m ≠ 0) : nxt R i f ρ n = .ok (.int (drawV R n1 m)) (n1 + 1) := by
  unfold nxt
  rw [h, e]
  simp only [Out.bind_ok]
  rw [if_pos hm]
theorem e_app {i : Nat} {f : M} {ds : List PV} {p : PV} {n1 : Nat} (h : ρ[i]? = some (some (.ow (.list ds)))) (e : f ρ n = .ok p n1) (hl : ds.length < sizeLine) : appS i f ρ n = .next (ρ.set i (some (.ow (.list (ds ++ [p]))))) n1 := by
  unfold appS
  rw [h, e]
  simp only [ofE_ok]
  rw [if_pos hl]
theorem e_frz {i : Nat} {f : MS} {p : PV} (h : ρ[i]? = some (some (.ow p))) : frzS i f ρ n = f (ρ.set i (some (.sh p))) n := by
  unfold frzS
  rw [h]
theorem e_aug {k : PV → PV → Option PV} {i : Nat} {f : M} {p q s : PV} {n1 : Nat} (h : ρ[i]? = some (some (.sh p))) (e : f ρ n = .ok q n1) (e2 : k p q = some s) : augS k i f ρ n = .next (ρ.set i (some (.sh s))) n1 := by
  unfold augS
  rw [h, e]
  simp only [ofE_ok, e2, opt_some]
end
@[simp] theorem bl_bool (b : Bool) : blV (.bool b) = some b := rfl
@[simp] theorem tr_bool (b : Bool) : truV (.bool b) = some b := rfl
@[simp] theorem v_add (a b : Int) : addV (.int a) (.int b) = some (.int (a + b)) := rfl
@[simp] theorem v_addW (a b : Int) : addW (.int a) (.int b) = some (.int (a + b)) := rfl
@[simp] theorem v_sub (a b : Int) : subV (.int a) (.int b) = some (.int (a - b)) := rfl
@[simp] theorem v_lt (a b : Int) : ltV (.int a) (.int b) = some (.bool (decide (a < b))) := rfl
@[simp] theorem v_le (a b : Int) : leV (.int a) (.int b) = some (.bool (decide (a ≤ b))) := rfl
@[simp] theorem v_gt (a b : Int) : gtV (.int a) (.int b) = some (.bool (decide (b < a))) := rfl
@[simp] theorem v_ge (a b : Int) : geV (.int a) (.int b) = some (.bool (decide (b ≤ a))) := rfl
@[simp] theorem v_int (a : Int) : intC [.int a] = some (.int a) := rfl
@[simp] theorem v_intb (b : Bool) : intC [.bool b] = some (.int (if b then 1 else 0)) := rfl
theorem v_mod {a b : Int} (h : b ≠ 0) : modV (.int a) (.int b) = some (.int (a.fmod b)) := if_pos h
theorem v_fdiv {a b : Int} (h : b ≠ 0 ∧ b.natAbs < 1073741824) : fdivV (.int a) (.int b) = some (.int (a.fdiv b)) := if_pos h
theorem v_mul {a b : Int} (h : a.natAbs < 2 ^ 64 ∨ b.natAbs < 2 ^ 64) : mulV (.int a) (.int b) = some (.int (a * b)) := if_pos h

/-! ### loops -/
theorem forL_inv {α β : Type} {b : Bnd} {body : MS} (enc : α → PV) (J : β → DEnv → Prop) (step : β → α → β) (n : Nat) : ∀ (xs : List α) (_ : ∀ s ρ x, x ∈ xs → J s ρ → ∃ ρ1 ρ2, b (enc x) ρ = some ρ1 ∧ (body ρ1 n = .next ρ2 n ∨ body ρ1 n = .cont ρ2 n) ∧ J (step s x) ρ2) (s : β) (ρ : DEnv), J s ρ →
    ∃ ρ', forL b body (xs.map enc) ρ n = .next ρ' n ∧ J (xs.foldl step s) ρ'
  | [], _, s, ρ, h => ⟨ρ, rfl, h⟩
  | x :: xs, h, s, ρ, hJ => by
    obtain ⟨ρ1, ρ2, e1, e2, j2⟩ := h s ρ x List.mem_cons_self hJ
    obtain ⟨ρ', e3, j3⟩ := forL_inv enc J step n xs (fun s ρ x hx => h s ρ x (List.mem_cons_of_mem _ hx)) _ _ j2
    refine ⟨ρ', ?_, j3⟩
    rw [List.map_cons]
    unfold forL
    rw [e1]
    rcases e2 with e2 | e2 <;> (simp only [e2]; exact e3)
/-- .. by the place -/
theorem forL_ix {α : Type} {b : Bnd} {body : MS} (enc : α → PV) (J : Nat → DEnv → Prop) (n : Nat) : ∀ (xs : List α) (i0 : Nat) (_ : ∀ i x ρ, xs[i]? = some x → J (i0 + i) ρ → ∃ ρ1 ρ2, b (enc x) ρ = some ρ1 ∧ (body ρ1 n = .next ρ2 n ∨ body ρ1 n = .cont ρ2 n) ∧ J (i0 + i + 1) ρ2) (ρ : DEnv), J i0 ρ →
    ∃ ρ', forL b body (xs.map enc) ρ n = .next ρ' n ∧ J (i0 + xs.length) ρ'
  | [], _, _, ρ, h => ⟨ρ, rfl, h⟩
  | x :: xs, i0, h, ρ, hJ => by
    obtain ⟨ρ1, ρ2, e1, e2, j2⟩ := h 0 x ρ rfl hJ
    obtain ⟨ρ', e3, j3⟩ := forL_ix enc J n xs (i0 + 1) (fun i y ρ hy hj => by
      have := h (i + 1) y ρ hy (by rw [show i0 + (i + 1) = i0 + 1 + i by omega]; exact hj)
      rw [show i0 + (i + 1) + 1 = i0 + 1 + i + 1 by omega] at this
      exact this) _ j2
    refine ⟨ρ', ?_, by rw [List.length_cons, show i0 + (xs.length + 1) = i0 + 1 + xs.length by omega]; exact j3⟩
    rw [List.map_cons]
    unfold forL
    rw [e1]
    rcases e2 with e2 | e2 <;> (simp only [e2]; exact e3)
/-- .. with a way out by return: at the first item at which out says some p -/
theorem forL_ret {α : Type} {b : Bnd} {body : MS} (enc : α → PV) (J : DEnv → Prop) (out : α → Option PV) (n : Nat) : ∀ (xs : List α) (_ : ∀ ρ x, x ∈ xs → J ρ → ∃ ρ1, b (enc x) ρ = some ρ1 ∧ match out x with
      | some p => body ρ1 n = .ret p n
      | none => ∃ ρ2, (body ρ1 n = .next ρ2 n ∨ body ρ1 n = .cont ρ2 n) ∧ J ρ2) (ρ : DEnv), J ρ →
    match xs.findSome? out with
    | some p => forL b body (xs.map enc) ρ n = .ret p n
    | none => ∃ ρ', forL b body (xs.map enc) ρ n = .next ρ' n ∧ J ρ'
  | [], _, ρ, h => ⟨ρ, rfl, h⟩
  | x :: xs, h, ρ, hJ => by
    obtain ⟨ρ1, e1, e2⟩ := h ρ x List.mem_cons_self hJ
    rw [List.findSome?_cons]
    cases eo : out x with
    | some p =>
      rw [eo] at e2
      show forL b body (enc x :: xs.map enc) ρ n = _
      unfold forL
      rw [e1]
      simp only [e2]
    | none =>
      rw [eo] at e2
      obtain ⟨ρ2, e2, j2⟩ := e2
      have ih := forL_ret enc J out n xs (fun ρ x hx => h ρ x (List.mem_cons_of_mem _ hx)) ρ2 j2
      have e3 : forL b body (enc x :: xs.map enc) ρ n = forL b body (xs.map enc) ρ2 n := by
        show (match b (enc x) ρ with
          | none => SOut.stuck
          | some ρ1 => match body ρ1 n with
            | .next ρ2 n2 => forL b body (xs.map enc) ρ2 n2
            | .cont ρ2 n2 => forL b body (xs.map enc) ρ2 n2
            | .brk ρ2 n2 => .next ρ2 n2
            | o => o) = _
        rw [e1]
        rcases e2 with e2 | e2 <;> simp only [e2]
      simp only [List.map_cons, e3]
      exact ih
/-- a comprehension that draws nothing -/
theorem lcL_map {α : Type} {b : Bnd} {tt : MB} {elt : M} {ρ0 : DEnv} {n : Nat} (enc : α → PV) (P : α → Bool) (F : α → PV) : ∀ (xs : List α) (_ : ∀ x ∈ xs, ∃ ρ1, b (enc x) ρ0 = some ρ1 ∧ tt ρ1 n = .ok (P x) n ∧ (P x = true → elt ρ1 n = .ok (F x) n)), lcL b tt elt ρ0 (xs.map enc) n = .ok ((xs.filter P).map F) n
  | [], _ => rfl
  | x :: xs, h => by
    obtain ⟨ρ1, e1, e2, e3⟩ := h x List.mem_cons_self
    have ih := lcL_map enc P F xs fun y hy => h y (List.mem_cons_of_mem _ hy)
    rw [List.map_cons]
    unfold lcL
    rw [e1]
    simp only [e2, Out.bind_ok]
    cases hp : P x with
    | true =>
      rw [if_pos rfl, e3 hp, List.filter_cons_of_pos hp]
      simp only [Out.bind_ok, ih, List.map_cons]
    | false =>
      rw [if_neg Bool.false_ne_true, List.filter_cons_of_neg (by simp [hp])]
      exact ih
/-- .. without a test -/
theorem lcL_all {α : Type} {b : Bnd} {elt : M} {ρ0 : DEnv} {n : Nat} (enc : α → PV) (F : α → PV) (xs : List α) (h : ∀ x ∈ xs, ∃ ρ1, b (enc x) ρ0 = some ρ1 ∧ elt ρ1 n = .ok (F x) n) : lcL b yes elt ρ0 (xs.map enc) n = .ok (xs.map F) n := by
  have := lcL_map (b := b) (tt := yes) (elt := elt) (ρ0 := ρ0) (n := n) enc (fun _ => true) F xs fun x hx => by
    obtain ⟨ρ1, e1, e2⟩ := h x hx
    exact ⟨ρ1, e1, rfl, fun _ => e2⟩
  rw [this, List.filter_eq_self.mpr fun _ _ => rfl]
/-- a comprehension whose element draws c numbers: item j's draws begin at n + c * j -/
theorem lcL_draw {α : Type} {b : Bnd} {elt : M} {ρ0 : DEnv} (c : Nat) (enc : α → PV) (F : α → Nat → PV) : ∀ (xs : List α) (n : Nat) (_ : ∀ x ∈ xs, ∀ n, ∃ ρ1, b (enc x) ρ0 = some ρ1 ∧ elt ρ1 n = .ok (F x n) (n + c)), lcL b yes elt ρ0 (xs.map enc) n = .ok (xs.zipIdx.map fun q => F q.1 (n + c * q.2)) (n + c * xs.length)
  | [], n, _ => rfl
  | x :: xs, n, h => by
    obtain ⟨ρ1, e1, e2⟩ := h x List.mem_cons_self n
    have ih := lcL_draw c enc F xs (n + c) fun y hy => h y (List.mem_cons_of_mem _ hy)
    rw [List.map_cons]
    unfold lcL
    rw [e1]
    simp only [e_yes, Out.bind_ok, if_true, e2, ih]
    rw [List.zipIdx_cons, List.map_cons, List.length_cons]
    have e5 : n + c + c * xs.length = n + c * (xs.length + 1) := by rw [Nat.mul_add]; omega
    rw [e5]
    refine congrArg (fun l => Out.ok (F x (n + c * 0) :: l) (n + c * (xs.length + 1))) ?_
    rw [List.zipIdx_succ, List.map_map]
    refine List.map_congr_left fun q _ => ?_
    show F q.1 (n + c + c * q.2) = F q.1 (n + c * (q.2 + 1))
    have e6 : n + c + c * q.2 = n + c * (q.2 + 1) := by rw [Nat.mul_add]; omega
    rw [e6]
/-- a comprehension whose elements may draw: each item is related to what it gives -/
theorem lcL_rel {α β : Type} {b : Bnd} {elt : M} {ρ0 : DEnv} (enc : α → PV) (dec : β → PV) (G : α → β → Prop) : ∀ (xs : List α) (_ : ∀ x ∈ xs, ∀ n, ∃ ρ1 y n', b (enc x) ρ0 = some ρ1 ∧ elt ρ1 n = .ok (dec y) n' ∧ G x y) (n : Nat), ∃ (ys : List β) (n' : Nat), lcL b yes elt ρ0 (xs.map enc) n = .ok (ys.map dec) n' ∧ ys.length = xs.length ∧ ∀ y ∈ ys, ∃ x ∈ xs, G x y
  | [], _, n => ⟨[], n, rfl, rfl, fun _ h => by cases h⟩
  | x :: xs, h, n => by
    obtain ⟨ρ1, y, n1, e1, e2, g⟩ := h x List.mem_cons_self n
    obtain ⟨ys, n2, e3, hl, hg⟩ := lcL_rel enc dec G xs (fun z hz => h z (List.mem_cons_of_mem _ hz)) n1
    refine ⟨y :: ys, n2, ?_, by rw [List.length_cons, List.length_cons, hl], fun z hz => ?_⟩
    · rw [List.map_cons]
      unfold lcL
      rw [e1]
      simp only [e_yes, Out.bind_ok, if_true, e2, e3, List.map_cons]
    · rcases List.mem_cons.mp hz with e | e
      · rw [e]
        exact ⟨x, List.mem_cons_self, g⟩
      · obtain ⟨w, hw, gw⟩ := hg z e
        exact ⟨w, List.mem_cons_of_mem _ hw, gw⟩
theorem gnL_map {α : Type} {c : Bool} {b : Bnd} {elt : M} {ρ0 : DEnv} {n : Nat} (enc : α → PV) (P : α → Bool) : ∀ (xs : List α) (_ : ∀ x ∈ xs, ∃ ρ1, b (enc x) ρ0 = some ρ1 ∧ elt ρ1 n = .ok (.bool (P x)) n), gnL c b elt ρ0 (xs.map enc) n = .ok (if c = true then xs.any P else xs.all P) n
  | [], _ => by cases c <;> rfl
  | x :: xs, h => by
    obtain ⟨ρ1, e1, e2⟩ := h x List.mem_cons_self
    have ih := gnL_map (c := c) enc P xs fun y hy => h y (List.mem_cons_of_mem _ hy)
    rw [List.map_cons]
    unfold gnL
    rw [e1]
    simp only [e2, Out.bind_ok, ih]
    cases c <;> cases hp : P x <;> simp [hp]
/-! ### ranges -/
theorem rng1_nat {b : Int} (h : b.natAbs ≤ 2 ^ 23) : rng1V [.int b] = some ((List.range b.toNat).map fun (k : Nat) => .int (k : Int)) := if_pos h
theorem rng2_nat {a b : Int} (h : a.natAbs ≤ 2 ^ 23 ∧ b.natAbs ≤ 2 ^ 23) : rng2V [.int a, .int b] = some ((List.range (b - a).toNat).map fun (k : Nat) => .int (a + (k : Int))) := if_pos h

/-! ### shapes, comparisons -/
def Sh (d : Nat) (p : PV) : Prop := p.canLay0 = true ∧ p.depth ≤ d
theorem Sh.none {d : Nat} : Sh d .none := ⟨rfl, Nat.zero_le _⟩
theorem Sh.int {d : Nat} (i : Int) : Sh d (.int i) := ⟨rfl, Nat.zero_le _⟩
theorem Sh.bool {d : Nat} (i : Bool) : Sh d (.bool i) := ⟨rfl, Nat.zero_le _⟩
theorem Sh.str {d : Nat} {x : Str} (h : (PyData.str x).canLay0 = true) : Sh d (.str x) := ⟨h, Nat.zero_le _⟩
theorem lay_all : ∀ {xs : List PV}, (∀ x ∈ xs, x.canLay0 = true) → PyData.canLayAll0 xs = true
  | [], _ => rfl
  | x :: xs, h => by
    rw [PyData.canLayAll0, h x List.mem_cons_self, lay_all fun y hy => h y (List.mem_cons_of_mem _ hy)]
    rfl
theorem dep_all {d : Nat} : ∀ {xs : List PV}, (∀ x ∈ xs, x.depth ≤ d) → PyData.depthAll xs ≤ d
  | [], _ => Nat.zero_le _
  | x :: xs, h => by
    rw [PyData.depthAll]
    exact Nat.max_le.mpr ⟨h x List.mem_cons_self, dep_all fun y hy => h y (List.mem_cons_of_mem _ hy)⟩
theorem Sh.list {d : Nat} {xs : List PV} (h : ∀ x ∈ xs, Sh d x) : Sh (d + 1) (.list xs) := by
  refine ⟨?_, ?_⟩
  · rw [PyData.canLay0]
    exact lay_all fun x hx => (h x hx).1
  · rw [PyData.depth]
    exact Nat.succ_le_succ (dep_all fun x hx => (h x hx).2)
theorem Sh.tuple {d : Nat} {xs : List PV} (h : ∀ x ∈ xs, Sh d x) : Sh (d + 1) (.tuple xs) := by
  refine ⟨?_, ?_⟩
  · rw [PyData.canLay0]
    exact lay_all fun x hx => (h x hx).1
  · rw [PyData.depth]
    exact Nat.succ_le_succ (dep_all fun x hx => (h x hx).2)
theorem Sh.mono {d e : Nat} {p : PV} (h : Sh d p) (k : d ≤ e) : Sh e p := ⟨h.1, Nat.le_trans h.2 k⟩
theorem Sh.ok {d : Nat} {p : PV} (h : Sh d p) (k : d ≤ 64) : SeqAt.shaped p = true := by
  unfold SeqAt.shaped
  rw [h.1, decide_eq_true (Nat.le_trans h.2 k)]
  rfl
theorem v_eq {d e : Nat} {p q : PV} (hp : Sh d p) (hq : Sh e q) (kd : d ≤ 64 := by decide) (ke : e ≤ 64 := by decide) : eqV p q = some (.bool (PyData.eqv p q)) := if_pos ⟨hp.ok kd, hq.ok ke⟩
theorem v_ne {d e : Nat} {p q : PV} (hp : Sh d p) (hq : Sh e q) (kd : d ≤ 64 := by decide) (ke : e ≤ 64 := by decide) : neV p q = some (.bool (!PyData.eqv p q)) := if_pos ⟨hp.ok kd, hq.ok ke⟩
theorem v_ne_self {d : Nat} {p : PV} (hp : Sh d p) (kd : d ≤ 64 := by decide) : neV p p = some (.bool false) := by rw [v_ne hp hp kd kd, SeqAt.eqv_refl p hp.1]; rfl
@[simp] theorem v_eq_int (a b : Int) : eqV (.int a) (.int b) = some (.bool (a == b)) := v_eq (Sh.int (d := 0) a) (Sh.int (d := 0) b)
@[simp] theorem v_ne_int (a b : Int) : neV (.int a) (.int b) = some (.bool (!(a == b))) := v_ne (Sh.int (d := 0) a) (Sh.int (d := 0) b)
@[simp] theorem v_eq_none (b : Int) : eqV .none (.int b) = some (.bool false) := v_eq (Sh.none (d := 0)) (Sh.int (d := 0) b)
end DL
set_option Elab.async false
set_option linter.all false
set_option maxRecDepth 100000
set_option maxHeartbeats 4000000
namespace K18
open PySem PySem.Spec PyProof.Rows L2 DL
def topS (i : Nat) : Stmt := PySem.Challenge.pw_knittold_k18_counters_of_rows.main.body.getD i (.Pass ⟨0, 0, 0, 0⟩)

abbrev s__law_next : Stmt := topS 24
theorem sc__law_next : FnScope ["box", "modulus", "at", "number"] ["box", "modulus"] (defScope s__law_next) := C8.fnScope_by (by decide +kernel)
abbrev s__law_box : Stmt := topS 23
theorem sc__law_box : FnScope ["script", "row", "cell"] ["script"] (defScope s__law_box) := C8.fnScope_by (by decide +kernel)
abbrev s_is_tracks : Stmt := topS 4
abbrev s_row_in : Stmt := topS 5
abbrev s_rows_in : Stmt := topS 6
abbrev s_repeats_done : Stmt := topS 7
abbrev s_next_at : Stmt := topS 8
abbrev s_common : Stmt := topS 10
abbrev s_meet_at : Stmt := topS 9
abbrev s_comes_again : Stmt := topS 11
abbrev s_busy_rows : Stmt := topS 12
abbrev s_busiest : Stmt := topS 13
abbrev s_from_rows : Stmt := topS 14
abbrev s_may_be_at : Stmt := topS 15
abbrev s_time_left : Stmt := topS 16
abbrev s_done_by : Stmt := topS 17
abbrev s_ticks : Stmt := topS 18
abbrev s_tally : Stmt := topS 19
abbrev s_read_tally : Stmt := topS 20
abbrev s__law_draws : Stmt := topS 22
abbrev s__law_told : Stmt := topS 25
abbrev s__law_shown : Stmt := topS 26
abbrev s_law : Stmt := topS 27
abbrev n_is_tracks : List Str := "value" :: "pair" :: "one" :: []
theorem sc_is_tracks : FnScope n_is_tracks ["value"] (defScope s_is_tracks) := C8.fnScope_by (by decide +kernel)
def d_is_tracks : MS :=
  (seqS (ifS (orB (notB (tru (una (isiV "tuple") (rdP 0)))) (notB (tst (chn leV leV (kM (.int 1)) (callB lenC (consA (rdP 0) nilA)) (kM (.int 8)))))) (retS (kM (.bool false))) skip)
  (seqS (forS (seqI (rdS 0)) (bNm 1) (seqS (ifS (orB (notB (tru (una (isiV "tuple") (rdP 1)))) (tst (bin neV (callB lenC (consA (rdP 1) nilA)) (kM (.int 2))))) (retS (kM (.bool false))) skip)
  (ifS (notB (tru (gnM false (seqI (rdS 1)) (bNm 2) (andV (una (isiV "int") (rdP 2)) (andV (una notV (una (isiV "bool") (rdP 2))) (chn leV leV (kM (.int 1)) (rdP 2) (kM (.int 1000))))) [2]))) (retS (kM (.bool false))) skip)))
  (retS (kM (.bool true)))))
def f_is_tracks : List PV → FOut := defF 1 3 d_is_tracks
abbrev n_row_in : List Str := "track" :: "row" :: "first" :: "many" :: []
theorem sc_row_in : FnScope n_row_in ["track", "row"] (defScope s_row_in) := C8.fnScope_by (by decide +kernel)
def d_row_in : MS :=
  (seqS (unpS [2, 3] (rdS 0))
  (retS (iteM (tst (bin ltV (rdP 1) (rdP 2))) (kM .none) (bin addV (bin modV (bin subV (rdP 1) (rdP 2)) (rdP 3)) (kM (.int 1))))))
def f_row_in : List PV → FOut := defF 2 4 d_row_in
abbrev n_rows_in : List Str := "tracks" :: "row" :: "track" :: []
theorem sc_rows_in : FnScope n_rows_in ["tracks", "row"] (defScope s_rows_in) := C8.fnScope_by (by decide +kernel)
def d_rows_in : MS :=
  (retS (lcM (seqI (rdS 0)) (bNm 2) yes (callM 2 f_row_in (consA (rdS 2) (consA (rdS 1) nilA))) [2]))
def f_rows_in : List PV → FOut := defF 2 3 d_rows_in
abbrev n_repeats_done : List Str := "track" :: "row" :: "first" :: "many" :: []
theorem sc_repeats_done : FnScope n_repeats_done ["track", "row"] (defScope s_repeats_done) := C8.fnScope_by (by decide +kernel)
def d_repeats_done : MS :=
  (seqS (unpS [2, 3] (rdS 0))
  (retS (iteM (tst (bin ltV (rdP 1) (rdP 2))) (kM (.int 0)) (bin fdivV (bin addV (bin subV (rdP 1) (rdP 2)) (kM (.int 1))) (rdP 3)))))
def f_repeats_done : List PV → FOut := defF 2 4 d_repeats_done
abbrev n_next_at : List Str := "track" :: "place" :: "row" :: "first" :: "many" :: "start" :: []
theorem sc_next_at : FnScope n_next_at ["track", "place", "row"] (defScope s_next_at) := C8.fnScope_by (by decide +kernel)
def d_next_at : MS :=
  (seqS (unpS [3, 4] (rdS 0))
  (seqS (ifS (notB (tst (chn leV leV (kM (.int 1)) (rdP 1) (rdP 4)))) (excS "NoSuchThing") skip)
  (seqS (setS 5 (callB maxC (consA (rdP 2) (consA (rdP 3) nilA))))
  (retS (bin addV (rdP 5) (bin modV (bin subV (bin subV (rdP 1) (kM (.int 1))) (bin subV (rdP 5) (rdP 3))) (rdP 4)))))))
def f_next_at : List PV → FOut := defF 3 6 d_next_at
abbrev n_common : List Str := "numbers" :: "found" :: "number" :: "a" :: "b" :: []
theorem sc_common : FnScope n_common ["numbers"] (defScope s_common) := C8.fnScope_by (by decide +kernel)
def d_common : MS :=
  (seqS (setS 1 (kM (.int 1)))
  (seqS (forS (seqI (rdS 0)) (bNm 2) (seqS (parS [3, 4] (consA (rdS 1) (consA (rdS 2) nilA)))
  (seqS (whS FUEL (tru (rdP 4)) (parS [3, 4] (consA (rdS 4) (consA (bin modV (rdP 3) (rdP 4)) nilA))))
  (setS 1 (bin fdivV (bin mulV (rdP 1) (rdP 2)) (rdP 3))))))
  (retS (rdS 1))))
def f_common : List PV → FOut := defF 1 5 d_common
abbrev n_meet_at : List Str := "tracks" :: "row" :: "whole" :: "start" :: "step" :: "_" :: "many" :: "first" :: "track" :: []
theorem sc_meet_at : FnScope n_meet_at ["tracks", "row"] (defScope s_meet_at) := C8.fnScope_by (by decide +kernel)
def d_meet_at : MS :=
  (seqS (setS 2 (callM 1 f_common (consA (lcM (seqI (rdS 0)) (bTp [(bNm 5), (bNm 6)]) yes (rdS 6) [5, 6]) nilA)))
  (seqS (setS 3 (callB maxC (consA (bin addV (lstA (consA (rdS 1) nilA)) (lcM (seqI (rdS 0)) (bTp [(bNm 7), (bNm 5)]) yes (rdS 7) [7, 5])) nilA)))
  (seqS (forS (rngI rng1V (consA (rdS 2) nilA)) (bNm 4) (ifS (tru (gnM false (seqI (rdS 0)) (bNm 8) (bin eqV (callM 2 f_row_in (consA (rdS 8) (consA (bin addV (rdP 3) (rdP 4)) nilA))) (kM (.int 1))) [8])) (retS (bin addV (rdP 3) (rdP 4))) skip))
  (retS (kM .none)))))
def f_meet_at : List PV → FOut := defF 2 9 d_meet_at
abbrev n_comes_again : List Str := "tracks" :: "_" :: "many" :: []
theorem sc_comes_again : FnScope n_comes_again ["tracks"] (defScope s_comes_again) := C8.fnScope_by (by decide +kernel)
def d_comes_again : MS :=
  (retS (callM 1 f_common (consA (lcM (seqI (rdS 0)) (bTp [(bNm 1), (bNm 2)]) yes (rdS 2) [1, 2]) nilA)))
def f_comes_again : List PV → FOut := defF 1 3 d_comes_again
abbrev n_busy_rows : List Str := "tracks" :: "marks" :: "first" :: "last" :: "found" :: "row" :: "some" :: "number" :: "track" :: []
theorem sc_busy_rows : FnScope n_busy_rows ["tracks", "marks", "first", "last"] (defScope s_busy_rows) := C8.fnScope_by (by decide +kernel)
def d_busy_rows : MS :=
  (seqS (ownS 4 (lstA nilA))
  (seqS (forS (rngI rng2V (consA (rdS 2) (consA (bin addV (rdP 3) (kM (.int 1))) nilA))) (bNm 5) (seqS (setS 6 (lcM (enuJ (rdS 0)) (bTp [(bNm 7), (bNm 8)]) (tst (bin inV (callM 2 f_row_in (consA (rdS 8) (consA (rdS 5) nilA))) (bin ixV (rdP 1) (rdP 7)))) (rdS 7) [7, 8]))
  (ifS (tru (rdP 6)) (appS 4 (tupA (consA (rdS 5) (consA (rdS 6) nilA)))) skip)))
  (frzS 4 (retS (rdS 4)))))
def f_busy_rows : List PV → FOut := defF 4 9 d_busy_rows
abbrev n_busiest : List Str := "tracks" :: "marks" :: "first" :: "last" :: "rows" :: "most" :: "_" :: "some" :: "row" :: []
theorem sc_busiest : FnScope n_busiest ["tracks", "marks", "first", "last"] (defScope s_busiest) := C8.fnScope_by (by decide +kernel)
def d_busiest : MS :=
  (seqS (setS 4 (callM 4 f_busy_rows (consA (rdS 0) (consA (rdS 1) (consA (rdS 2) (consA (rdS 3) nilA))))))
  (seqS (ifS (notB (tru (rdP 4))) (retS (kM .none)) skip)
  (seqS (setS 5 (callB maxC (consA (lcM (seqI (rdS 4)) (bTp [(bNm 6), (bNm 7)]) yes (callB lenC (consA (rdP 7) nilA)) [6, 7]) nilA)))
  (retS (tupA (consA (bin ixV (lcM (seqI (rdS 4)) (bTp [(bNm 8), (bNm 7)]) (tst (bin eqV (callB lenC (consA (rdP 7) nilA)) (rdP 5))) (rdS 8) [8, 7]) (kM (.int 0))) (consA (rdS 5) nilA)))))))
def f_busiest : List PV → FOut := defF 4 9 d_busiest
abbrev n_from_rows : List Str := "tracks" :: "places" :: "most" :: "row" :: []
theorem sc_from_rows : FnScope n_from_rows ["tracks", "places", "most"] (defScope s_from_rows) := C8.fnScope_by (by decide +kernel)
def d_from_rows : MS :=
  (retS (lcM (rngI rng2V (consA (kM (.int 1)) (consA (bin addV (rdP 2) (kM (.int 1))) nilA))) (bNm 3) (tst (bin eqV (callM 2 f_rows_in (consA (rdS 0) (consA (rdS 3) nilA))) (callB listC (consA (rdP 1) nilA)))) (rdS 3) [3]))
def f_from_rows : List PV → FOut := defF 3 4 d_from_rows
abbrev n_may_be_at : List Str := "tracks" :: "places" :: "most" :: "found" :: "row" :: "shown" :: "place" :: "here" :: []
theorem sc_may_be_at : FnScope n_may_be_at ["tracks", "places", "most"] (defScope s_may_be_at) := C8.fnScope_by (by decide +kernel)
def d_may_be_at : MS :=
  (seqS (ownS 3 (lstA nilA))
  (seqS (forS (rngI rng2V (consA (kM (.int 1)) (consA (bin addV (rdP 2) (kM (.int 1))) nilA))) (bNm 4) (seqS (setS 5 (callM 2 f_rows_in (consA (rdS 0) (consA (rdS 4) nilA))))
  (ifS (tru (gnM false (zipI (rdS 1) (rdS 5)) (bTp [(bNm 6), (bNm 7)]) (orV (bin isV (rdP 6) (kM .none)) (bin eqV (rdP 6) (rdP 7))) [6, 7])) (appS 3 (rdS 4)) skip)))
  (frzS 3 (retS (rdS 3)))))
def f_may_be_at : List PV → FOut := defF 3 8 d_may_be_at
abbrev n_time_left : List Str := "row" :: "last" :: "times" :: "one" :: []
theorem sc_time_left : FnScope n_time_left ["row", "last", "times"] (defScope s_time_left) := C8.fnScope_by (by decide +kernel)
def d_time_left : MS :=
  (retS (callB sumC (consA (lcM (rngI rng2V (consA (rdS 0) (consA (bin addV (rdP 1) (kM (.int 1))) nilA))) (bNm 3) yes (bin ixV (rdP 2) (bin modV (bin subV (rdP 3) (kM (.int 1))) (callB lenC (consA (rdP 2) nilA)))) [3]) nilA)))
def f_time_left : List PV → FOut := defF 3 4 d_time_left
abbrev n_done_by : List Str := "row" :: "times" :: "length" :: "here" :: "left" :: []
theorem sc_done_by : FnScope n_done_by ["row", "times", "length"] (defScope s_done_by) := C8.fnScope_by (by decide +kernel)
def d_done_by : MS :=
  (seqS (setS 3 (rdS 0))
  (seqS (setS 4 (rdS 2))
  (seqS (whS FUEL (tst (bin leV (bin ixV (rdP 1) (bin modV (bin subV (rdP 3) (kM (.int 1))) (callB lenC (consA (rdP 1) nilA)))) (rdP 4))) (seqS (augS subV 4 (bin ixV (rdP 1) (bin modV (bin subV (rdP 3) (kM (.int 1))) (callB lenC (consA (rdP 1) nilA)))))
  (augS addW 3 (kM (.int 1)))))
  (retS (bin subV (rdP 3) (kM (.int 1)))))))
def f_done_by : List PV → FOut := defF 3 5 d_done_by
abbrev n_ticks : List Str := "moves" :: "here" :: "move" :: []
theorem sc_ticks : FnScope n_ticks ["moves"] (defScope s_ticks) := C8.fnScope_by (by decide +kernel)
def d_ticks : MS :=
  (seqS (setS 1 (kM (.int 0)))
  (seqS (forS (seqI (rdS 0)) (bNm 2) (ifS (tst (bin eqV (rdP 2) (kM (.str "+")))) (augS addW 1 (kM (.int 1))) (ifS (tst (bin eqV (rdP 2) (kM (.str "-")))) (setS 1 (callB maxC (consA (kM (.int 0)) (consA (bin subV (rdP 1) (kM (.int 1))) nilA)))) (setS 1 (kM (.int 0))))))
  (retS (rdS 1))))
def f_ticks : List PV → FOut := defF 1 3 d_ticks
abbrev n_tally : List Str := "number" :: "groups" :: []
theorem sc_tally : FnScope n_tally ["number"] (defScope s_tally) := C8.fnScope_by (by decide +kernel)
def d_tally : MS :=
  (seqS (setS 1 (bin mulV (lstA (consA (kM (.str "||||/")) nilA)) (bin fdivV (rdP 0) (kM (.int 5)))))
  (retS (mth joinV (kM (.str " ")) (bin addV (rdP 1) (bin mulV (lstA (consA (bin mulV (kM (.str "|")) (bin modV (rdP 0) (kM (.int 5)))) nilA)) (callB intC (consA (bin gtV (bin modV (rdP 0) (kM (.int 5))) (kM (.int 0))) nilA)))))))
def f_tally : List PV → FOut := defF 1 2 d_tally
abbrev n_read_tally : List Str := "text" :: "words" :: "found" :: "place" :: "word" :: []
theorem sc_read_tally : FnScope n_read_tally ["text"] (defScope s_read_tally) := C8.fnScope_by (by decide +kernel)
def d_read_tally : MS :=
  (seqS (ifS (notB (tru (rdP 0))) (retS (kM (.int 0))) skip)
  (seqS (setS 1 (mth splV (rdS 0) (kM (.str " "))))
  (seqS (setS 2 (kM (.int 0)))
  (seqS (forS (enuJ (rdS 1)) (bTp [(bNm 3), (bNm 4)]) (ifS (tst (bin eqV (rdP 4) (kM (.str "||||/")))) (augS addW 2 (kM (.int 5))) (ifS (andB (tst (bin eqV (rdP 3) (bin subV (callB lenC (consA (rdP 1) nilA)) (kM (.int 1))))) (tst (bin inV (rdP 4) (tupA (consA (kM (.str "|")) (consA (kM (.str "||")) (consA (kM (.str "|||")) (consA (kM (.str "||||")) nilA)))))))) (augS addW 2 (callB lenC (consA (rdP 4) nilA))) (excS "NoSuchThing"))))
  (retS (rdS 2))))))
def f_read_tally : List PV → FOut := defF 1 5 d_read_tally
abbrev n__law_draws : List Str := "cell" :: "modulus" :: "count" :: "number" :: "row" :: "k" :: "mixed" :: []
theorem sc__law_draws : FnScope n__law_draws ["cell", "modulus", "count"] (defScope s__law_draws) := C8.fnScope_by (by decide +kernel)
def d__law_draws : MS :=
  (seqS (setS 3 (rdS 0))
  (seqS (ifS (tst (bin ltV (rdP 3) (kM (.int 0)))) (setS 3 (bin subV (bin subV (kM (.int 0)) (kM (.int 1))) (rdP 3))) skip)
  (seqS (ownS 4 (lstA nilA))
  (seqS (ifS (tst (bin geV (rdP 3) (bin powV (kM (.int 10)) (kM (.int 18))))) (seqS (forS (rngI rng1V (consA (rdS 2) nilA)) (bNm 5) (seqS (appS 4 (bin modV (callB intC (consA (rdP 3) nilA)) (rdP 1)))
  (setS 3 (bin fdivV (rdP 3) (rdP 1)))))
  (frzS 4 (retS (rdS 4)))) skip)
  (seqS (forS (rngI rng1V (consA (rdS 2) nilA)) (bNm 5) (seqS (setS 6 (bin modV (callB intC (consA (bin mulV (bin addV (bin addV (rdP 3) (bin mulV (kM (.int 7)) (rdP 5))) (kM (.int 1))) (kM (.int 48271))) nilA)) (kM (.int 2147483647))))
  (seqS (setS 6 (bin modV (callB intC (consA (bin addV (bin mulV (rdP 6) (kM (.int 69621))) (bin mulV (kM (.int 31)) (rdP 5))) nilA)) (kM (.int 2147483629))))
  (appS 4 (bin modV (callB intC (consA (bin fdivV (rdP 6) (kM (.int 7))) nilA)) (rdP 1))))))
  (frzS 4 (retS (rdS 4))))))))
def f__law_draws : List PV → FOut := defF 3 7 d__law_draws
abbrev n__law_told : List Str := "deed" :: "one" :: "two" :: "three" :: "e" :: []
theorem sc__law_told : FnScope n__law_told ["deed", "one", "two", "three"] (defScope s__law_told) := C8.fnScope_by (by decide +kernel)
def d__law_told : MS :=
  (toldS 4 (retS (iteM (tst (bin eqV (rdP 0) (kM (.int 0)))) (callM 3 f_next_at (consA (rdS 1) (consA (rdS 2) (consA (rdS 3) nilA)))) (callM 1 f_read_tally (consA (rdS 1) nilA)))) [("NoSuchThing", true)] "none")
def f__law_told : List PV → FOut := defF 4 5 d__law_told
abbrev n__law_shown : List Str := "track" :: "row" :: "here" :: "k" :: []
theorem sc__law_shown : FnScope n__law_shown ["track", "row"] (defScope s__law_shown) := C8.fnScope_by (by decide +kernel)
def d__law_shown : MS :=
  (seqS (setS 2 (kM .none))
  (seqS (forS (rngI rng2V (consA (kM (.int 1)) (consA (bin addV (rdP 1) (kM (.int 1))) nilA))) (bNm 3) (ifS (tst (bin eqV (rdP 3) (bin ixV (rdP 0) (kM (.int 0))))) (setS 2 (kM (.int 1))) (ifS (tst (bin gtV (rdP 3) (bin ixV (rdP 0) (kM (.int 0))))) (setS 2 (bin addV (bin modV (rdP 2) (bin ixV (rdP 0) (kM (.int 1)))) (kM (.int 1)))) skip)))
  (retS (rdS 2))))
def f__law_shown : List PV → FOut := defF 2 4 d__law_shown
abbrev n_law : List Str := "script" :: "box" :: "k" :: "tracks" :: "row" :: "track" :: "shown" :: "done" :: "place" :: "able" :: "whole" :: "start" :: "both" :: "marks" :: "last" :: "busy" :: "some" :: "most" :: "lost" :: "every" :: "times" :: "spent" :: "length" :: "ahead" :: "moves" :: "here" :: "move" :: "number" :: "text" :: "values" :: "one" :: "j" :: "places" :: "wrong" :: "value" :: []
theorem sc_law : FnScope n_law ["script"] (defScope s_law) := C8.fnScope_by (by decide +kernel)
def d_law (R : List Int) : MS :=
  (seqS (setS 3 (callB tupleC (consA (lcM (rngI rng1V (consA (bin addV (kM (.int 1)) (nxt R 1 (kM (.int 3)))) nilA)) (bNm 2) yes (tupA (consA (bin addV (kM (.int 1)) (nxt R 1 (kM (.int 9)))) (consA (bin addV (kM (.int 1)) (nxt R 1 (kM (.int 8)))) nilA))) [2]) nilA)))
  (seqS (setS 4 (bin addV (kM (.int 1)) (nxt R 1 (kM (.int 40)))))
  (seqS (setS 6 (lcM (seqI (rdS 3)) (bNm 5) yes (callM 2 f__law_shown (consA (rdS 5) (consA (rdS 4) nilA))) [5]))
  (seqS (ifS (orB (tst (bin isnV (callM 1 f_is_tracks (consA (rdS 3) nilA)) (kM (.bool true)))) (orB (tst (bin neV (callM 2 f_rows_in (consA (rdS 3) (consA (rdS 4) nilA))) (rdP 6))) (tst (bin neV (lcM (seqI (rdS 3)) (bNm 5) yes (callM 2 f_row_in (consA (rdS 5) (consA (rdS 4) nilA))) [5]) (rdP 6))))) (retS (kM (.bool false))) skip)
  (seqS (setS 7 (lcM (seqI (rdS 3)) (bNm 5) yes (callB lenC (consA (lcM (rngI rng2V (consA (kM (.int 1)) (consA (bin addV (rdP 4) (kM (.int 1))) nilA))) (bNm 2) (tst (bin eqV (callM 2 f__law_shown (consA (rdS 5) (consA (rdS 2) nilA))) (bin ixV (rdP 5) (kM (.int 1))))) (rdS 2) [2]) nilA)) [5]))
  (seqS (ifS (tst (bin neV (lcM (seqI (rdS 3)) (bNm 5) yes (callM 2 f_repeats_done (consA (rdS 5) (consA (rdS 4) nilA))) [5]) (rdP 7))) (retS (kM (.bool false))) skip)
  (seqS (setS 5 (bin ixV (rdP 3) (kM (.int 0))))
  (seqS (setS 8 (bin subV (nxt R 1 (bin addV (bin ixV (rdP 5) (kM (.int 1))) (kM (.int 3)))) (kM (.int 1))))
  (seqS (setS 9 (lcM (rngI rng2V (consA (rdS 4) (consA (bin addV (rdP 4) (kM (.int 40))) nilA))) (bNm 2) (tst (bin eqV (callM 2 f__law_shown (consA (rdS 5) (consA (rdS 2) nilA))) (rdP 8))) (rdS 2) [2]))
  (seqS (ifS (tst (bin neV (callM 4 f__law_told (consA (kM (.int 0)) (consA (rdS 5) (consA (rdS 8) (consA (rdS 4) nilA))))) (iteM (tst (chn leV leV (kM (.int 1)) (rdP 8) (bin ixV (rdP 5) (kM (.int 1))))) (bin ixV (rdP 9) (kM (.int 0))) (kM (.str "none"))))) (retS (kM (.bool false))) skip)
  (seqS (setS 10 (bin ixV (lcM (rngI rng2V (consA (kM (.int 1)) (consA (kM (.int 400)) nilA))) (bNm 2) (tru (callB allC (consA (lcM (seqI (rdS 3)) (bNm 30) yes (bin eqV (bin modV (rdP 2) (bin ixV (rdP 30) (kM (.int 1)))) (kM (.int 0))) [30]) nilA))) (rdS 2) [2]) (kM (.int 0))))
  (seqS (ifS (orB (tst (bin neV (callM 1 f_comes_again (consA (rdS 3) nilA)) (rdP 10))) (orB (tst (bin neV (callM 1 f_common (consA (lcM (seqI (rdS 3)) (bNm 30) yes (bin ixV (rdP 30) (kM (.int 1))) [30]) nilA)) (rdP 10))) (tst (bin neV (callM 1 f_common (consA (lstA nilA) nilA)) (kM (.int 1)))))) (retS (kM (.bool false))) skip)
  (seqS (setS 11 (callB maxC (consA (bin addV (lstA (consA (rdS 4) nilA)) (lcM (seqI (rdS 3)) (bNm 30) yes (bin ixV (rdP 30) (kM (.int 0))) [30])) nilA)))
  (seqS (setS 12 (lcM (rngI rng2V (consA (rdS 11) (consA (bin addV (rdP 11) (rdP 10)) nilA))) (bNm 2) (tru (callB allC (consA (lcM (seqI (rdS 3)) (bNm 30) yes (bin eqV (bin modV (bin subV (rdP 2) (bin ixV (rdP 30) (kM (.int 0)))) (bin ixV (rdP 30) (kM (.int 1)))) (kM (.int 0))) [30]) nilA))) (rdS 2) [2]))
  (seqS (ifS (tst (bin neV (callM 2 f_meet_at (consA (rdS 3) (consA (rdS 4) nilA))) (iteM (tst (bin gtV (callB lenC (consA (rdP 12) nilA)) (kM (.int 0)))) (bin ixV (rdP 12) (kM (.int 0))) (kM .none)))) (retS (kM (.bool false))) skip)
  (seqS (setS 13 (lcM (seqI (rdS 3)) (bNm 30) yes (callB tupleC (consA (callB sortSetC (consA (lcM (rngI rng1V (consA (nxt R 1 (kM (.int 3))) nilA)) (bNm 2) yes (bin addV (kM (.int 1)) (nxt R 1 (bin ixV (rdP 30) (kM (.int 1))))) [2]) nilA)) nilA)) [30]))
  (seqS (setS 14 (bin addV (rdP 4) (nxt R 1 (kM (.int 20)))))
  (seqS (setS 15 (lstA nilA))
  (seqS (forS (rngI rng2V (consA (rdS 4) (consA (bin addV (rdP 14) (kM (.int 1))) nilA))) (bNm 2) (seqS (setS 16 (lcM (rngI rng1V (consA (callB lenC (consA (rdP 3) nilA)) nilA)) (bNm 31) (tst (bin inV (callM 2 f__law_shown (consA (bin ixV (rdP 3) (rdP 31)) (consA (rdS 2) nilA))) (bin ixV (rdP 13) (rdP 31)))) (rdS 31) [31]))
  (setS 15 (bin addV (rdP 15) (bin mulV (lstA (consA (tupA (consA (rdS 2) (consA (rdS 16) nilA))) nilA)) (callB intC (consA (bin gtV (callB lenC (consA (rdP 16) nilA)) (kM (.int 0))) nilA)))))))
  (seqS (setS 17 (callB maxC (consA (bin addV (lcM (seqI (rdS 15)) (bTp [(bNm 2), (bNm 16)]) yes (callB lenC (consA (rdP 16) nilA)) [2, 16]) (lstA (consA (kM (.int 0)) nilA))) nilA)))
  (seqS (ifS (orB (tst (bin neV (callM 4 f_busy_rows (consA (rdS 3) (consA (rdS 13) (consA (rdS 4) (consA (rdS 14) nilA))))) (rdP 15))) (tst (bin neV (callM 4 f_busiest (consA (rdS 3) (consA (rdS 13) (consA (rdS 4) (consA (rdS 14) nilA))))) (iteM (tst (bin gtV (callB lenC (consA (rdP 15) nilA)) (kM (.int 0)))) (bin ixV (lcM (seqI (rdS 15)) (bTp [(bNm 2), (bNm 16)]) (tst (bin eqV (callB lenC (consA (rdP 16) nilA)) (rdP 17))) (tupA (consA (rdS 2) (consA (rdS 17) nilA))) [2, 16]) (kM (.int 0))) (kM .none))))) (retS (kM (.bool false))) skip)
  (seqS (setS 18 (lcM (seqI (rdS 6)) (bNm 30) yes (iteM (tst (bin eqV (nxt R 1 (kM (.int 2))) (kM (.int 0)))) (rdS 30) (kM .none)) [30]))
  (seqS (setS 19 (lcM (rngI rng2V (consA (kM (.int 1)) (consA (kM (.int 51)) nilA))) (bNm 2) yes (tupA (consA (rdS 2) (consA (lcM (seqI (rdS 3)) (bNm 30) yes (callM 2 f__law_shown (consA (rdS 30) (consA (rdS 2) nilA))) [30]) nilA))) [2]))
  (seqS (ifS (orB (tst (bin neV (callM 3 f_from_rows (consA (rdS 3) (consA (rdS 6) (consA (kM (.int 50)) nilA)))) (lcM (seqI (rdS 19)) (bTp [(bNm 2), (bNm 32)]) (tst (bin eqV (rdP 32) (rdP 6))) (rdS 2) [2, 32]))) (tst (bin ninV (rdP 4) (callM 3 f_from_rows (consA (rdS 3) (consA (rdS 6) (consA (kM (.int 50)) nilA))))))) (retS (kM (.bool false))) skip)
  (seqS (ifS (tst (bin neV (callM 3 f_may_be_at (consA (rdS 3) (consA (rdS 18) (consA (kM (.int 50)) nilA)))) (lcM (seqI (rdS 19)) (bTp [(bNm 2), (bNm 32)]) (tru (callB allC (consA (lcM (rngI rng1V (consA (callB lenC (consA (rdP 3) nilA)) nilA)) (bNm 31) yes (orV (bin isV (bin ixV (rdP 18) (rdP 31)) (kM .none)) (bin eqV (bin ixV (rdP 18) (rdP 31)) (bin ixV (rdP 32) (rdP 31)))) [31]) nilA))) (rdS 2) [2, 32]))) (retS (kM (.bool false))) skip)
  (seqS (setS 20 (lcM (rngI rng1V (consA (bin addV (kM (.int 1)) (nxt R 1 (kM (.int 4)))) nilA)) (bNm 2) yes (bin addV (kM (.int 1)) (nxt R 1 (kM (.int 9)))) [2]))
  (seqS (setS 21 (lcM (rngI rng2V (consA (rdS 4) (consA (bin addV (rdP 14) (kM (.int 1))) nilA))) (bNm 2) yes (bin ixV (rdP 20) (bin modV (bin subV (rdP 2) (kM (.int 1))) (callB lenC (consA (rdP 20) nilA)))) [2]))
  (seqS (setS 22 (nxt R 1 (kM (.int 60))))
  (seqS (setS 23 (lcM (rngI rng1V (consA (kM (.int 70)) nilA)) (bNm 2) (tst (bin leV (callB sumC (consA (lcM (rngI rng1V (consA (rdS 2) nilA)) (bNm 31) yes (bin ixV (rdP 20) (bin modV (bin subV (bin addV (rdP 4) (rdP 31)) (kM (.int 1))) (callB lenC (consA (rdP 20) nilA)))) [31]) nilA)) (rdP 22))) (rdS 2) [2]))
  (seqS (ifS (orB (tst (bin neV (callM 3 f_time_left (consA (rdS 4) (consA (rdS 14) (consA (rdS 20) nilA)))) (callB sumC (consA (rdP 21) nilA)))) (tst (bin neV (callM 3 f_done_by (consA (rdS 4) (consA (rdS 20) (consA (rdS 22) nilA)))) (bin subV (bin addV (rdP 4) (callB maxC (consA (rdP 23) nilA))) (kM (.int 1)))))) (retS (kM (.bool false))) skip)
  (seqS (setS 24 (lcM (rngI rng1V (consA (nxt R 1 (kM (.int 12))) nilA)) (bNm 2) yes (bin ixV (lstA (consA (kM (.str "+")) (consA (kM (.str "-")) (consA (kM (.str "0")) nilA)))) (bin fdivV (nxt R 1 (kM (.int 7))) (kM (.int 3)))) [2]))
  (seqS (setS 25 (kM (.int 0)))
  (seqS (forS (seqI (rdS 24)) (bNm 26) (setS 25 (iteM (tst (bin eqV (rdP 26) (kM (.str "+")))) (bin addV (rdP 25) (kM (.int 1))) (iteM (tst (bin eqV (rdP 26) (kM (.str "-")))) (callB maxC (consA (kM (.int 0)) (consA (bin subV (rdP 25) (kM (.int 1))) nilA))) (kM (.int 0))))))
  (seqS (ifS (tst (bin neV (callM 1 f_ticks (consA (rdS 24) nilA)) (rdP 25))) (retS (kM (.bool false))) skip)
  (seqS (setS 27 (nxt R 1 (kM (.int 24))))
  (seqS (setS 28 (mth joinV (kM (.str " ")) (bin addV (bin mulV (lstA (consA (kM (.str "||||/")) nilA)) (bin fdivV (rdP 27) (kM (.int 5)))) (bin mulV (lstA (consA (bin mulV (kM (.str "|")) (bin modV (rdP 27) (kM (.int 5)))) nilA)) (callB intC (consA (bin gtV (bin modV (rdP 27) (kM (.int 5))) (kM (.int 0))) nilA))))))
  (seqS (ifS (orB (tst (bin neV (callM 1 f_tally (consA (rdS 27) nilA)) (rdP 28))) (orB (tst (bin neV (callM 4 f__law_told (consA (kM (.int 1)) (consA (rdS 28) (consA (kM .none) (consA (kM .none) nilA))))) (rdP 27))) (tst (bin neV (callM 1 f_tally (consA (kM (.int 0)) nilA)) (kM (.str "")))))) (retS (kM (.bool false))) skip)
  (seqS (ifS (tru (callB anyC (consA (lcM (seqI (lstA (consA (kM (.str "|||||")) (consA (kM (.str "| ||||/")) (consA (kM (.str "x")) (consA (kM (.str "||||/ ")) (consA (kM (.str "||  |")) nilA))))))) (bNm 33) yes (bin neV (callM 4 f__law_told (consA (kM (.int 1)) (consA (rdS 33) (consA (kM .none) (consA (kM .none) nilA))))) (kM (.str "none"))) [33]) nilA))) (retS (kM (.bool false))) skip)
  (seqS (setS 29 (lstA (consA (tupA (consA (tupA (consA (kM (.int 1)) (consA (kM (.int 4)) nilA))) nilA)) (consA (tupA nilA) (consA (tupA (consA (tupA (consA (kM (.int 0)) (consA (kM (.int 4)) nilA))) nilA)) (consA (tupA (consA (tupA (consA (kM (.int 1)) (consA (kM (.int 0)) nilA))) nilA)) (consA (tupA (consA (tupA (consA (kM (.int 1)) (consA (kM (.int 1001)) nilA))) nilA)) (consA (lstA (consA (tupA (consA (kM (.int 1)) (consA (kM (.int 4)) nilA))) nilA)) (consA (tupA (consA (tupA (consA (kM (.bool true)) (consA (kM (.int 4)) nilA))) nilA)) (consA (bin mulV (tupA (consA (tupA (consA (kM (.int 1)) (consA (kM (.int 4)) nilA))) nilA)) (kM (.int 9))) (consA (kM .none) nilA)))))))))))
  (retS (bin eqV (lcM (seqI (rdS 29)) (bNm 34) yes (callM 1 f_is_tracks (consA (rdS 34) nilA)) [34]) (bin addV (lstA (consA (kM (.bool true)) nilA)) (bin mulV (lstA (consA (kM (.bool false)) nilA)) (kM (.int 8)))))))))))))))))))))))))))))))))))))))))))))
structure Top (K : PySem.W.Frag) (mg : Str → Option Value) (base : Heap) (T : List Addr) : Prop where
  z_all : mg "all" = none
  z_any : mg "any" = none
  z_bool : mg "bool" = none
  z_enumerate : mg "enumerate" = none
  z_int : mg "int" = none
  z_isinstance : mg "isinstance" = none
  z_len : mg "len" = none
  z_list : mg "list" = none
  z_max : mg "max" = none
  z_range : mg "range" = none
  z_set : mg "set" = none
  z_sorted : mg "sorted" = none
  z_sum : mg "sum" = none
  z_tuple : mg "tuple" = none
  z_zip : mg "zip" = none
  t__law_next : TopD K mg "_law_next" s__law_next
  t__law_box : TopD K mg "_law_box" s__law_box
  t_is_tracks : TopD K mg "is_tracks" s_is_tracks
  tb_is_tracks : GxR.TabB base mg (He.codeOf K ("is_tracks", none)) (He.tabOf K (He.codeOf K ("is_tracks", none)))
  tm_is_tracks : He.tabOf K (He.codeOf K ("is_tracks", none)) ∈ T
  t_row_in : TopD K mg "row_in" s_row_in
  t_rows_in : TopD K mg "rows_in" s_rows_in
  t_repeats_done : TopD K mg "repeats_done" s_repeats_done
  t_next_at : TopD K mg "next_at" s_next_at
  t_common : TopD K mg "common" s_common
  t_meet_at : TopD K mg "meet_at" s_meet_at
  tb_meet_at : GxR.TabB base mg (He.codeOf K ("meet_at", none)) (He.tabOf K (He.codeOf K ("meet_at", none)))
  tm_meet_at : He.tabOf K (He.codeOf K ("meet_at", none)) ∈ T
  t_comes_again : TopD K mg "comes_again" s_comes_again
  t_busy_rows : TopD K mg "busy_rows" s_busy_rows
  t_busiest : TopD K mg "busiest" s_busiest
  t_from_rows : TopD K mg "from_rows" s_from_rows
  t_may_be_at : TopD K mg "may_be_at" s_may_be_at
  tb_may_be_at : GxR.TabB base mg (He.codeOf K ("may_be_at", none)) (He.tabOf K (He.codeOf K ("may_be_at", none)))
  tm_may_be_at : He.tabOf K (He.codeOf K ("may_be_at", none)) ∈ T
  t_time_left : TopD K mg "time_left" s_time_left
  t_done_by : TopD K mg "done_by" s_done_by
  t_ticks : TopD K mg "ticks" s_ticks
  t_tally : TopD K mg "tally" s_tally
  t_read_tally : TopD K mg "read_tally" s_read_tally
  t__law_draws : TopD K mg "_law_draws" s__law_draws
  t__law_told : TopD K mg "_law_told" s__law_told
  t__law_shown : TopD K mg "_law_shown" s__law_shown
  t_law : TopD K mg "law" s_law
  x_KnittoldError : PySem.W.excIn K (He.ga K "KnittoldError") He.veBase "ValueError.__new__" = true ∧ PySem.W.keepIn K (.ref (He.ga K "KnittoldError")) = true ∧ PySem.W.subIn K (.ref (He.ga K "KnittoldError")) (.type "BaseException") = some true ∧ PySem.W.typeIn K (.ref (He.ga K "KnittoldError")) = some (.type "type")
  g_KnittoldError : mg "KnittoldError" = some (.ref (He.ga K "KnittoldError"))
  e_KnittoldError : ExcC K (He.ga K "KnittoldError")
  x_NoSuchThing : PySem.W.excIn K (He.ga K "NoSuchThing") He.veBase "ValueError.__new__" = true ∧ PySem.W.keepIn K (.ref (He.ga K "NoSuchThing")) = true ∧ PySem.W.subIn K (.ref (He.ga K "NoSuchThing")) (.type "BaseException") = some true ∧ PySem.W.typeIn K (.ref (He.ga K "NoSuchThing")) = some (.type "type")
  g_NoSuchThing : mg "NoSuchThing" = some (.ref (He.ga K "NoSuchThing"))
  e_NoSuchThing : ExcC K (He.ga K "NoSuchThing")
  m_NoSuchThing_NoSuchThing : PySem.W.exmOne K (.ref (He.ga K "NoSuchThing")) (.ref (He.ga K "NoSuchThing")) = some true
  k_NoSuchThing_KnittoldError : PySem.W.kitOne K (.ref (He.ga K "NoSuchThing")) (.ref (He.ga K "KnittoldError")) = some true
section
variable {P : Program} {w : World} {K : PySem.W.Frag} {mg : Str → Option Value} {base : Heap} {T : List Addr}
theorem fn_next (E : Top K mg base T) : FN P w K mg base 1 := by
  obtain ⟨fdd, F⟩ := E.t__law_next.ex
  refine ⟨_, fdd, ["box", "modulus"], F.ok sc__law_next (fun vs H Q E h => ?_) (fun cdv A outer s H vs Q EX hr h => ⟨t_next K, ?_, pure_next h⟩), E.t__law_next.hg, F.kp, FunD.bindsN F fun _ _ _ _ _ _ us hl => match us, hl with | [_, _], _ => rfl⟩
  · obtain ⟨B, r, n, R, m, rfl, _⟩ := h
    rfl
  · exact pss_cons (ps_set (i := 2) sc__law_next.nd rfl (.inl rfl) (pe_dget (hu1 hr) (pv 0) pe_str (fun _ _ => rfl)))
      (pss_cons (ps_dput (hu1 hr) (pv 0) pe_str (pe_op op_add (pv 2) pe_int) rfl)
      (pss_cons (ps_set (i := 3) sc__law_next.nd rfl (.inl rfl) (pe_ix ix_seq (pe_dget (hu1 hr) (pv 0) pe_str (fun _ _ => rfl)) (pe_op op_modN (pv 2) (pe_callB call_len rfl E.z_len boot_len (pa_cons (pe_dget (hu1 hr) (pv 0) pe_str (fun _ _ => rfl)) pa_nil))) (fun _ _ => rfl)))
      (pss_one (ps_ret (pe_op op_modN (pe_callTy call_int1 rfl E.z_int (by decide +kernel) (pa_cons (pe_op op_add (pv 3) (pe_op op_mul pe_int (pe_op op_fdivN (pv 2) (pe_callB call_len rfl E.z_len boot_len (pa_cons (pe_dget (hu1 hr) (pv 0) pe_str (fun _ _ => rfl)) pa_nil))))) pa_nil)) (pv 1))))))
theorem fd_is_tracks (E : Top K mg base T) : FD P w K mg base T 2 "is_tracks" 1 f_is_tracks :=
  fd_top E.t_is_tracks sc_is_tracks (fun fdd F => FunD.bindsN F fun _ _ _ _ _ _ us hl => match us, hl with | [_], _ => rfl) fun cdv A outer s H F0 EX hcv hr => by
    have mo : Mo (cxOf (L2.CX P w) P w K mg base n_is_tracks "is_tracks" (defScope s_is_tracks) (He.fAd K ("is_tracks", none)) cdv A outer s H EX) ⟨K, mg, T, F0, H, fun cls d _ H => EX cls d H, none⟩ 1 := ⟨rfl, rfl, hr, takes_cx⟩
    have hp := owns_cx (P := P) (w := w) (K := K) (mg := mg) (base := base) (N := n_is_tracks) (q := "is_tracks") (sc := defScope s_is_tracks) (f := He.fAd K ("is_tracks", none)) (cd := cdv) (A := A) (outer := outer) (s := s) (H := H) (E := EX)
    exact (dss_cons (ds_if (PW.pt (dw_or (dt_not (dt_truth (fp (de_isi rfl kit_tuple (gl_by (by kernel_rfl)) E.z_isinstance (gl_by (by kernel_rfl)) E.z_tuple (by decide +kernel) (dp_nm 0 rfl (vis_by (by kernel_rfl))))) rfl (by intro _; rfl))) (dw_or1 (dt_not (dt_chain op_le op_le rule_le rule_le (fp de_int) (fp (de_callB cr_len rule_len (gl_by (by kernel_rfl)) E.z_len (by decide +kernel) (dp_cons (dp_nm 0 rfl (vis_by (by kernel_rfl))) dp_nil))) (fp de_int)))))) (dss_one (ds_ret de_bl)) dss_nil)
  (dss_cons (ds_for rfl hp rfl (di_seq rfl (de_sh 0 rfl (vis_by (by kernel_rfl)))) (pg_name sc_is_tracks.nd rfl (loc_by (by kernel_rfl))) (dt_nm 1) (dss_cons (ds_if (PW.pt (dw_or (dt_not (dt_truth (fp (de_isi rfl kit_tuple (gl_by (by kernel_rfl)) E.z_isinstance (gl_by (by kernel_rfl)) E.z_tuple (by decide +kernel) (dp_nm 1 rfl (vis_by (by kernel_rfl))))) rfl (by intro _; rfl))) (dw_or1 (dt_cmp (op_neD hr.units) rule_ne (fp (de_callB cr_len rule_len (gl_by (by kernel_rfl)) E.z_len (by decide +kernel) (dp_cons (dp_nm 1 rfl (vis_by (by kernel_rfl))) dp_nil))) (fp de_int) (nomark _))))) (dss_one (ds_ret de_bl)) dss_nil)
  (dss_one (ds_if (dt_not (dt_truth (fp (de_all (own := [("one", 2)]) mo.hK hr (gl_by (by kernel_rfl)) E.z_all (by decide +kernel) E.tb_is_tracks E.tm_is_tracks hcv sc_is_tracks.nd (di_seq rfl (de_sh 1 rfl (vis_by (by kernel_rfl)))) ⟨genOk_by (N := n_is_tracks) (sc := (defScope s_is_tracks)) (own := [("one", 2)]) (by decide +kernel), ⟨_, _, by decide, fun _ _ _ _ _ _ => (pg_name sc_is_tracks.nd rfl (loc_by (by kernel_rfl))), (dt_nm 2)⟩, fun _ _ _ _ _ _ hr1 => (de_and (de_isi rfl kit_int (gl_by (by kernel_rfl)) E.z_isinstance (gl_by (by kernel_rfl)) E.z_int (by decide +kernel) (dp_nm 2 rfl (vis_by (by kernel_rfl)))) (de_and (de_not (de_isi rfl kit_bool (gl_by (by kernel_rfl)) E.z_isinstance (gl_by (by kernel_rfl)) E.z_bool (by decide +kernel) (dp_nm 2 rfl (vis_by (by kernel_rfl))))) (de_one (de_chain op_le op_le rule_le rule_le (fp de_int) (dp_nm 2 rfl (vis_by (by kernel_rfl))) (fp de_int)))))⟩)) rfl (by intro _; rfl))) (dss_one (ds_ret de_bl)) dss_nil))))
  (dss_one (ds_ret de_bl))))
theorem fd_row_in (E : Top K mg base T) : FD P w K mg base T 1 "row_in" 2 f_row_in :=
  fd_top E.t_row_in sc_row_in (fun fdd F => FunD.bindsN F fun _ _ _ _ _ _ us hl => match us, hl with | [_, _], _ => rfl) fun cdv A outer s H F0 EX hcv hr => by
    have mo : Mo (cxOf (L2.CX P w) P w K mg base n_row_in "row_in" (defScope s_row_in) (He.fAd K ("row_in", none)) cdv A outer s H EX) ⟨K, mg, T, F0, H, fun cls d _ H => EX cls d H, none⟩ 0 := ⟨rfl, rfl, hr, takes_cx⟩
    have hp := owns_cx (P := P) (w := w) (K := K) (mg := mg) (base := base) (N := n_row_in) (q := "row_in") (sc := defScope s_row_in) (f := He.fAd K ("row_in", none)) (cd := cdv) (A := A) (outer := outer) (s := s) (H := H) (E := EX)
    exact (dss_cons (ds_unp (is := [2, 3]) rfl rfl (de_sh 0 rfl (vis_by (by kernel_rfl))) (dgs_cons sc_row_in.nd rfl (loc_by (by kernel_rfl)) (dgs_cons sc_row_in.nd rfl (loc_by (by kernel_rfl)) dgs_nil)))
  (dss_one (ds_ret (de_ifF (dt_cmp op_lt rule_lt (dp_nm 1 rfl (vis_by (by kernel_rfl))) (dp_nm 2 rfl (vis_by (by kernel_rfl))) (nomark _)) de_non (de_op op_addV rule_addV (fp (de_op op_modN rule_mod (fp (de_op op_subV rule_sub (dp_nm 1 rfl (vis_by (by kernel_rfl))) (dp_nm 2 rfl (vis_by (by kernel_rfl))))) (dp_nm 3 rfl (vis_by (by kernel_rfl))))) (fp de_int))))))
theorem fd_rows_in (E : Top K mg base T) : FD P w K mg base T 2 "rows_in" 2 f_rows_in :=
  fd_top E.t_rows_in sc_rows_in (fun fdd F => FunD.bindsN F fun _ _ _ _ _ _ us hl => match us, hl with | [_, _], _ => rfl) fun cdv A outer s H F0 EX hcv hr => by
    have mo : Mo (cxOf (L2.CX P w) P w K mg base n_rows_in "rows_in" (defScope s_rows_in) (He.fAd K ("rows_in", none)) cdv A outer s H EX) ⟨K, mg, T, F0, H, fun cls d _ H => EX cls d H, none⟩ 1 := ⟨rfl, rfl, hr, takes_cx⟩
    have hp := owns_cx (P := P) (w := w) (K := K) (mg := mg) (base := base) (N := n_rows_in) (q := "rows_in") (sc := defScope s_rows_in) (f := He.fAd K ("rows_in", none)) (cd := cdv) (A := A) (outer := outer) (s := s) (H := H) (E := EX)
    exact (dss_one (ds_ret (of (do_lc (own := [("track", 2)]) rfl rfl sc_rows_in.nd (di_seq rfl (de_sh 0 rfl (vis_by (by kernel_rfl)))) ⟨blkOk_by (N := n_rows_in) (sc := (defScope s_rows_in)) (own := [("track", 2)]) (by decide +kernel), ⟨_, _, by decide, fun _ _ _ _ _ => (pg_name sc_rows_in.nd rfl (loc_by (by kernel_rfl))), (dt_nm 2)⟩, fun _ _ _ _ _ => dts_nil, fun _ _ _ _ _ => (de_call mo.q (fd_row_in E) (by decide) (gl_by (by kernel_rfl)) (da_cons (de_sh 2 rfl (vis_by (by kernel_rfl))) (da_cons (de_sh 1 rfl (vis_by (by kernel_rfl))) da_nil)))⟩))))
theorem fd_repeats_done (E : Top K mg base T) : FD P w K mg base T 1 "repeats_done" 2 f_repeats_done :=
  fd_top E.t_repeats_done sc_repeats_done (fun fdd F => FunD.bindsN F fun _ _ _ _ _ _ us hl => match us, hl with | [_, _], _ => rfl) fun cdv A outer s H F0 EX hcv hr => by
    have mo : Mo (cxOf (L2.CX P w) P w K mg base n_repeats_done "repeats_done" (defScope s_repeats_done) (He.fAd K ("repeats_done", none)) cdv A outer s H EX) ⟨K, mg, T, F0, H, fun cls d _ H => EX cls d H, none⟩ 0 := ⟨rfl, rfl, hr, takes_cx⟩
    have hp := owns_cx (P := P) (w := w) (K := K) (mg := mg) (base := base) (N := n_repeats_done) (q := "repeats_done") (sc := defScope s_repeats_done) (f := He.fAd K ("repeats_done", none)) (cd := cdv) (A := A) (outer := outer) (s := s) (H := H) (E := EX)
    exact (dss_cons (ds_unp (is := [2, 3]) rfl rfl (de_sh 0 rfl (vis_by (by kernel_rfl))) (dgs_cons sc_repeats_done.nd rfl (loc_by (by kernel_rfl)) (dgs_cons sc_repeats_done.nd rfl (loc_by (by kernel_rfl)) dgs_nil)))
  (dss_one (ds_ret (de_ifF (dt_cmp op_lt rule_lt (dp_nm 1 rfl (vis_by (by kernel_rfl))) (dp_nm 2 rfl (vis_by (by kernel_rfl))) (nomark _)) de_int (de_op op_fdivN rule_fdiv (fp (de_op op_addV rule_addV (fp (de_op op_subV rule_sub (dp_nm 1 rfl (vis_by (by kernel_rfl))) (dp_nm 2 rfl (vis_by (by kernel_rfl))))) (fp de_int))) (dp_nm 3 rfl (vis_by (by kernel_rfl))))))))
theorem fd_next_at (E : Top K mg base T) : FD P w K mg base T 1 "next_at" 3 f_next_at :=
  fd_top E.t_next_at sc_next_at (fun fdd F => FunD.bindsN F fun _ _ _ _ _ _ us hl => match us, hl with | [_, _, _], _ => rfl) fun cdv A outer s H F0 EX hcv hr => by
    have mo : Mo (cxOf (L2.CX P w) P w K mg base n_next_at "next_at" (defScope s_next_at) (He.fAd K ("next_at", none)) cdv A outer s H EX) ⟨K, mg, T, F0, H, fun cls d _ H => EX cls d H, none⟩ 0 := ⟨rfl, rfl, hr, takes_cx⟩
    have hp := owns_cx (P := P) (w := w) (K := K) (mg := mg) (base := base) (N := n_next_at) (q := "next_at") (sc := defScope s_next_at) (f := He.fAd K ("next_at", none)) (cd := cdv) (A := A) (outer := outer) (s := s) (H := H) (E := EX)
    exact (dss_cons (ds_unp (is := [3, 4]) rfl rfl (de_sh 0 rfl (vis_by (by kernel_rfl))) (dgs_cons sc_next_at.nd rfl (loc_by (by kernel_rfl)) (dgs_cons sc_next_at.nd rfl (loc_by (by kernel_rfl)) dgs_nil)))
  (dss_cons (ds_if (dt_not (dt_chain op_le op_le rule_le rule_le (fp de_int) (dp_nm 1 rfl (vis_by (by kernel_rfl))) (dp_nm 4 rfl (vis_by (by kernel_rfl))))) (dss_one (ds_raise rfl mo.tk rfl PySem.F.excBase_ValueError E.x_NoSuchThing.1 E.g_NoSuchThing E.x_NoSuchThing.2.1 (raises_own E.x_NoSuchThing.2.2.1 E.x_NoSuchThing.2.2.2) (gl_by (by kernel_rfl)))) dss_nil)
  (dss_cons (ds_set 5 sc_next_at.nd rfl (loc_by (by kernel_rfl)) (de_callB (cr_maxC rfl) rule_max (gl_by (by kernel_rfl)) E.z_max (by decide +kernel) (dp_cons (dp_nm 2 rfl (vis_by (by kernel_rfl))) (dp_cons (dp_nm 3 rfl (vis_by (by kernel_rfl))) dp_nil))))
  (dss_one (ds_ret (de_op op_addV rule_addV (dp_nm 5 rfl (vis_by (by kernel_rfl))) (fp (de_op op_modN rule_mod (fp (de_op op_subV rule_sub (fp (de_op op_subV rule_sub (dp_nm 1 rfl (vis_by (by kernel_rfl))) (fp de_int))) (fp (de_op op_subV rule_sub (dp_nm 5 rfl (vis_by (by kernel_rfl))) (dp_nm 3 rfl (vis_by (by kernel_rfl))))))) (dp_nm 4 rfl (vis_by (by kernel_rfl)))))))))))
theorem fd_common (E : Top K mg base T) : FD P w K mg base T 1 "common" 1 f_common :=
  fd_top E.t_common sc_common (fun fdd F => FunD.bindsN F fun _ _ _ _ _ _ us hl => match us, hl with | [_], _ => rfl) fun cdv A outer s H F0 EX hcv hr => by
    have mo : Mo (cxOf (L2.CX P w) P w K mg base n_common "common" (defScope s_common) (He.fAd K ("common", none)) cdv A outer s H EX) ⟨K, mg, T, F0, H, fun cls d _ H => EX cls d H, none⟩ 0 := ⟨rfl, rfl, hr, takes_cx⟩
    have hp := owns_cx (P := P) (w := w) (K := K) (mg := mg) (base := base) (N := n_common) (q := "common") (sc := defScope s_common) (f := He.fAd K ("common", none)) (cd := cdv) (A := A) (outer := outer) (s := s) (H := H) (E := EX)
    exact (dss_cons (ds_set 1 sc_common.nd rfl (loc_by (by kernel_rfl)) de_int)
  (dss_cons (ds_for rfl hp rfl (di_seq rfl (de_sh 0 rfl (vis_by (by kernel_rfl)))) (pg_name sc_common.nd rfl (loc_by (by kernel_rfl))) (dt_nm 2) (dss_cons (ds_par rfl sc_common.nd rfl rfl (by decide) rfl rfl (da_cons (de_sh 1 rfl (vis_by (by kernel_rfl))) (da_cons (de_sh 2 rfl (vis_by (by kernel_rfl))) da_nil)))
  (dss_cons (ds_while hp (dt_truth (dp_nm 4 rfl (vis_by (by kernel_rfl))) rfl (by intro _; rfl)) (dss_one (ds_par rfl sc_common.nd rfl rfl (by decide) rfl rfl (da_cons (de_sh 4 rfl (vis_by (by kernel_rfl))) (da_cons (de_op op_modN rule_mod (dp_nm 3 rfl (vis_by (by kernel_rfl))) (dp_nm 4 rfl (vis_by (by kernel_rfl)))) da_nil)))))
  (dss_one (ds_set 1 sc_common.nd rfl (loc_by (by kernel_rfl)) (de_op op_fdivN rule_fdiv (fp (de_op op_mulV rule_mul (dp_nm 1 rfl (vis_by (by kernel_rfl))) (dp_nm 2 rfl (vis_by (by kernel_rfl))))) (dp_nm 3 rfl (vis_by (by kernel_rfl)))))))))
  (dss_one (ds_ret (de_sh 1 rfl (vis_by (by kernel_rfl)))))))
theorem fd_meet_at (E : Top K mg base T) : FD P w K mg base T 3 "meet_at" 2 f_meet_at :=
  fd_top E.t_meet_at sc_meet_at (fun fdd F => FunD.bindsN F fun _ _ _ _ _ _ us hl => match us, hl with | [_, _], _ => rfl) fun cdv A outer s H F0 EX hcv hr => by
    have mo : Mo (cxOf (L2.CX P w) P w K mg base n_meet_at "meet_at" (defScope s_meet_at) (He.fAd K ("meet_at", none)) cdv A outer s H EX) ⟨K, mg, T, F0, H, fun cls d _ H => EX cls d H, none⟩ 2 := ⟨rfl, rfl, hr, takes_cx⟩
    have hp := owns_cx (P := P) (w := w) (K := K) (mg := mg) (base := base) (N := n_meet_at) (q := "meet_at") (sc := defScope s_meet_at) (f := He.fAd K ("meet_at", none)) (cd := cdv) (A := A) (outer := outer) (s := s) (H := H) (E := EX)
    exact (dss_cons (ds_set 2 sc_meet_at.nd rfl (loc_by (by kernel_rfl)) (de_call mo (fd_common E) (by decide) (gl_by (by kernel_rfl)) (da_cons (of (do_lc (own := [("_", 5), ("many", 6)]) rfl rfl sc_meet_at.nd (di_seq rfl (de_sh 0 rfl (vis_by (by kernel_rfl)))) ⟨blkOk_by (N := n_meet_at) (sc := (defScope s_meet_at)) (own := [("_", 5), ("many", 6)]) (by decide +kernel), ⟨_, _, by decide, fun _ _ _ _ _ => (pg_tup rfl (pgs_cons (pg_name sc_meet_at.nd rfl (loc_by (by kernel_rfl))) (pgs_cons (pg_name sc_meet_at.nd rfl (loc_by (by kernel_rfl))) pgs_nil))), (dt_tp rfl (dtl_cons (dt_nm 5) (dtl_cons (dt_nm 6) dtl_nil)))⟩, fun _ _ _ _ _ => dts_nil, fun _ _ _ _ _ => (de_sh 6 rfl (vis_by (by kernel_rfl)))⟩)) da_nil)))
  (dss_cons (ds_set 3 sc_meet_at.nd rfl (loc_by (by kernel_rfl)) (de_callB (cr_maxC rfl) rule_max (gl_by (by kernel_rfl)) E.z_max (by decide +kernel) (dp_cons (fp (de_op op_addV rule_addV (op (dt_lstO (da_cons (de_sh 1 rfl (vis_by (by kernel_rfl))) da_nil))) (op (do_lc (own := [("first", 7), ("_", 5)]) rfl rfl sc_meet_at.nd (di_seq rfl (de_sh 0 rfl (vis_by (by kernel_rfl)))) ⟨blkOk_by (N := n_meet_at) (sc := (defScope s_meet_at)) (own := [("first", 7), ("_", 5)]) (by decide +kernel), ⟨_, _, by decide, fun _ _ _ _ _ => (pg_tup rfl (pgs_cons (pg_name sc_meet_at.nd rfl (loc_by (by kernel_rfl))) (pgs_cons (pg_name sc_meet_at.nd rfl (loc_by (by kernel_rfl))) pgs_nil))), (dt_tp rfl (dtl_cons (dt_nm 7) (dtl_cons (dt_nm 5) dtl_nil)))⟩, fun _ _ _ _ _ => dts_nil, fun _ _ _ _ _ => (de_sh 7 rfl (vis_by (by kernel_rfl)))⟩)))) dp_nil)))
  (dss_cons (ds_for rfl hp rfl (di_rng1 (gl_by (by kernel_rfl)) E.z_range (da_cons (de_sh 2 rfl (vis_by (by kernel_rfl))) da_nil)) (pg_name sc_meet_at.nd rfl (loc_by (by kernel_rfl))) (dt_nm 4) (dss_one (ds_if (dt_truth (fp (de_all (own := [("track", 8)]) mo.hK hr (gl_by (by kernel_rfl)) E.z_all (by decide +kernel) E.tb_meet_at E.tm_meet_at hcv sc_meet_at.nd (di_seq rfl (de_sh 0 rfl (vis_by (by kernel_rfl)))) ⟨genOk_by (N := n_meet_at) (sc := (defScope s_meet_at)) (own := [("track", 8)]) (by decide +kernel), ⟨_, _, by decide, fun _ _ _ _ _ _ => (pg_name sc_meet_at.nd rfl (loc_by (by kernel_rfl))), (dt_nm 8)⟩, fun _ _ _ _ _ _ hr1 => (de_cmp (op_eqD hr1.units) rule_eq (fp (de_call (mo.gn hr1) (fd_row_in E) (by decide) (gl_by (by kernel_rfl)) (da_cons (de_sh 8 rfl (vis_by (by kernel_rfl))) (da_cons (de_op op_addV rule_addV (dp_nm 3 rfl (vis_by (by kernel_rfl))) (dp_nm 4 rfl (vis_by (by kernel_rfl)))) da_nil)))) (fp de_int) (nomark _))⟩)) rfl (by intro _; rfl)) (dss_one (ds_ret (de_op op_addV rule_addV (dp_nm 3 rfl (vis_by (by kernel_rfl))) (dp_nm 4 rfl (vis_by (by kernel_rfl)))))) dss_nil)))
  (dss_one (ds_ret de_non)))))
theorem fd_comes_again (E : Top K mg base T) : FD P w K mg base T 2 "comes_again" 1 f_comes_again :=
  fd_top E.t_comes_again sc_comes_again (fun fdd F => FunD.bindsN F fun _ _ _ _ _ _ us hl => match us, hl with | [_], _ => rfl) fun cdv A outer s H F0 EX hcv hr => by
    have mo : Mo (cxOf (L2.CX P w) P w K mg base n_comes_again "comes_again" (defScope s_comes_again) (He.fAd K ("comes_again", none)) cdv A outer s H EX) ⟨K, mg, T, F0, H, fun cls d _ H => EX cls d H, none⟩ 1 := ⟨rfl, rfl, hr, takes_cx⟩
    have hp := owns_cx (P := P) (w := w) (K := K) (mg := mg) (base := base) (N := n_comes_again) (q := "comes_again") (sc := defScope s_comes_again) (f := He.fAd K ("comes_again", none)) (cd := cdv) (A := A) (outer := outer) (s := s) (H := H) (E := EX)
    exact (dss_one (ds_ret (de_call mo (fd_common E) (by decide) (gl_by (by kernel_rfl)) (da_cons (of (do_lc (own := [("_", 1), ("many", 2)]) rfl rfl sc_comes_again.nd (di_seq rfl (de_sh 0 rfl (vis_by (by kernel_rfl)))) ⟨blkOk_by (N := n_comes_again) (sc := (defScope s_comes_again)) (own := [("_", 1), ("many", 2)]) (by decide +kernel), ⟨_, _, by decide, fun _ _ _ _ _ => (pg_tup rfl (pgs_cons (pg_name sc_comes_again.nd rfl (loc_by (by kernel_rfl))) (pgs_cons (pg_name sc_comes_again.nd rfl (loc_by (by kernel_rfl))) pgs_nil))), (dt_tp rfl (dtl_cons (dt_nm 1) (dtl_cons (dt_nm 2) dtl_nil)))⟩, fun _ _ _ _ _ => dts_nil, fun _ _ _ _ _ => (de_sh 2 rfl (vis_by (by kernel_rfl)))⟩)) da_nil))))
theorem fd_busy_rows (E : Top K mg base T) : FD P w K mg base T 2 "busy_rows" 4 f_busy_rows :=
  fd_top E.t_busy_rows sc_busy_rows (fun fdd F => FunD.bindsN F fun _ _ _ _ _ _ us hl => match us, hl with | [_, _, _, _], _ => rfl) fun cdv A outer s H F0 EX hcv hr => by
    have mo : Mo (cxOf (L2.CX P w) P w K mg base n_busy_rows "busy_rows" (defScope s_busy_rows) (He.fAd K ("busy_rows", none)) cdv A outer s H EX) ⟨K, mg, T, F0, H, fun cls d _ H => EX cls d H, none⟩ 1 := ⟨rfl, rfl, hr, takes_cx⟩
    have hp := owns_cx (P := P) (w := w) (K := K) (mg := mg) (base := base) (N := n_busy_rows) (q := "busy_rows") (sc := defScope s_busy_rows) (f := He.fAd K ("busy_rows", none)) (cd := cdv) (A := A) (outer := outer) (s := s) (H := H) (E := EX)
    exact (dss_cons (ds_own 4 sc_busy_rows.nd rfl (loc_by (by kernel_rfl)) (dt_lstO da_nil))
  (dss_cons (ds_for rfl hp rfl (di_rng2 (gl_by (by kernel_rfl)) E.z_range (da_cons (de_sh 2 rfl (vis_by (by kernel_rfl))) (da_cons (de_op op_addV rule_addV (dp_nm 3 rfl (vis_by (by kernel_rfl))) (fp de_int)) da_nil))) (pg_name sc_busy_rows.nd rfl (loc_by (by kernel_rfl))) (dt_nm 5) (dss_cons (ds_setLc (own := [("number", 7), ("track", 8)]) rfl rfl sc_busy_rows.nd rfl rfl (sw_true rfl rfl rfl (by decide +kernel)) (di_enuJ rfl (gl_by (by kernel_rfl)) E.z_enumerate (de_sh 0 rfl (vis_by (by kernel_rfl)))) ⟨blkOk_by (N := n_busy_rows) (sc := (defScope s_busy_rows)) (own := [("number", 7), ("track", 8)]) (by decide +kernel), ⟨_, _, by decide, fun _ _ _ _ _ => (pg_tup rfl (pgs_cons (pg_name sc_busy_rows.nd rfl (loc_by (by kernel_rfl))) (pgs_cons (pg_name sc_busy_rows.nd rfl (loc_by (by kernel_rfl))) pgs_nil))), (dt_tp rfl (dtl_cons (dt_nm 7) (dtl_cons (dt_nm 8) dtl_nil)))⟩, fun _ _ _ _ _ => (dts_one (dt_cmp (op_inV (hu65 hr)) rule_in (fp (de_call mo.q (fd_row_in E) (by decide) (gl_by (by kernel_rfl)) (da_cons (de_sh 8 rfl (vis_by (by kernel_rfl))) (da_cons (de_sh 5 rfl (vis_by (by kernel_rfl))) da_nil)))) (fp (de_ix rfl (dp_nm 1 rfl (vis_by (by kernel_rfl))) (dp_nm 7 rfl (vis_by (by kernel_rfl))) (fun _ _ => rfl))) (by rfl))), fun _ _ _ _ _ => (de_sh 7 rfl (vis_by (by kernel_rfl)))⟩)
  (dss_one (ds_if (dt_truth (dp_nm 6 rfl (vis_by (by kernel_rfl))) rfl (by intro _; rfl)) (dss_one (ds_app 4 rfl (vis_by (by kernel_rfl)) (dt_tup (da_cons (de_sh 5 rfl (vis_by (by kernel_rfl))) (da_cons (de_sh 6 rfl (vis_by (by kernel_rfl))) da_nil))))) dss_nil))))
  (dss_frz (i := 4) (dss_one (ds_ret (de_sh 4 rfl (vis_by (by kernel_rfl))))))))
theorem fd_busiest (E : Top K mg base T) : FD P w K mg base T 3 "busiest" 4 f_busiest :=
  fd_top E.t_busiest sc_busiest (fun fdd F => FunD.bindsN F fun _ _ _ _ _ _ us hl => match us, hl with | [_, _, _, _], _ => rfl) fun cdv A outer s H F0 EX hcv hr => by
    have mo : Mo (cxOf (L2.CX P w) P w K mg base n_busiest "busiest" (defScope s_busiest) (He.fAd K ("busiest", none)) cdv A outer s H EX) ⟨K, mg, T, F0, H, fun cls d _ H => EX cls d H, none⟩ 2 := ⟨rfl, rfl, hr, takes_cx⟩
    have hp := owns_cx (P := P) (w := w) (K := K) (mg := mg) (base := base) (N := n_busiest) (q := "busiest") (sc := defScope s_busiest) (f := He.fAd K ("busiest", none)) (cd := cdv) (A := A) (outer := outer) (s := s) (H := H) (E := EX)
    exact (dss_cons (ds_set 4 sc_busiest.nd rfl (loc_by (by kernel_rfl)) (de_call mo (fd_busy_rows E) (by decide) (gl_by (by kernel_rfl)) (da_cons (de_sh 0 rfl (vis_by (by kernel_rfl))) (da_cons (de_sh 1 rfl (vis_by (by kernel_rfl))) (da_cons (de_sh 2 rfl (vis_by (by kernel_rfl))) (da_cons (de_sh 3 rfl (vis_by (by kernel_rfl))) da_nil))))))
  (dss_cons (ds_if (dt_not (dt_truth (dp_nm 4 rfl (vis_by (by kernel_rfl))) rfl (by intro _; rfl))) (dss_one (ds_ret de_non)) dss_nil)
  (dss_cons (ds_set 5 sc_busiest.nd rfl (loc_by (by kernel_rfl)) (de_callB (cr_maxC rfl) rule_max (gl_by (by kernel_rfl)) E.z_max (by decide +kernel) (dp_cons (op (do_lc (own := [("_", 6), ("some", 7)]) rfl rfl sc_busiest.nd (di_seq rfl (de_sh 4 rfl (vis_by (by kernel_rfl)))) ⟨blkOk_by (N := n_busiest) (sc := (defScope s_busiest)) (own := [("_", 6), ("some", 7)]) (by decide +kernel), ⟨_, _, by decide, fun _ _ _ _ _ => (pg_tup rfl (pgs_cons (pg_name sc_busiest.nd rfl (loc_by (by kernel_rfl))) (pgs_cons (pg_name sc_busiest.nd rfl (loc_by (by kernel_rfl))) pgs_nil))), (dt_tp rfl (dtl_cons (dt_nm 6) (dtl_cons (dt_nm 7) dtl_nil)))⟩, fun _ _ _ _ _ => dts_nil, fun _ _ _ _ _ => (de_callB cr_len rule_len (gl_by (by kernel_rfl)) E.z_len (by decide +kernel) (dp_cons (dp_nm 7 rfl (vis_by (by kernel_rfl))) dp_nil))⟩)) dp_nil)))
  (dss_one (ds_ret (dt_tup (da_cons (de_ix rfl (op (do_lc (own := [("row", 8), ("some", 7)]) rfl rfl sc_busiest.nd (di_seq rfl (de_sh 4 rfl (vis_by (by kernel_rfl)))) ⟨blkOk_by (N := n_busiest) (sc := (defScope s_busiest)) (own := [("row", 8), ("some", 7)]) (by decide +kernel), ⟨_, _, by decide, fun _ _ _ _ _ => (pg_tup rfl (pgs_cons (pg_name sc_busiest.nd rfl (loc_by (by kernel_rfl))) (pgs_cons (pg_name sc_busiest.nd rfl (loc_by (by kernel_rfl))) pgs_nil))), (dt_tp rfl (dtl_cons (dt_nm 8) (dtl_cons (dt_nm 7) dtl_nil)))⟩, fun _ _ _ _ _ => (dts_one (dt_cmp (op_eqD hr.units) rule_eq (fp (de_callB cr_len rule_len (gl_by (by kernel_rfl)) E.z_len (by decide +kernel) (dp_cons (dp_nm 7 rfl (vis_by (by kernel_rfl))) dp_nil))) (dp_nm 5 rfl (vis_by (by kernel_rfl))) (nomark _))), fun _ _ _ _ _ => (de_sh 8 rfl (vis_by (by kernel_rfl)))⟩)) (fp de_int) (fun _ _ => rfl)) (da_cons (de_sh 5 rfl (vis_by (by kernel_rfl))) da_nil))))))))
theorem fd_from_rows (E : Top K mg base T) : FD P w K mg base T 3 "from_rows" 3 f_from_rows :=
  fd_top E.t_from_rows sc_from_rows (fun fdd F => FunD.bindsN F fun _ _ _ _ _ _ us hl => match us, hl with | [_, _, _], _ => rfl) fun cdv A outer s H F0 EX hcv hr => by
    have mo : Mo (cxOf (L2.CX P w) P w K mg base n_from_rows "from_rows" (defScope s_from_rows) (He.fAd K ("from_rows", none)) cdv A outer s H EX) ⟨K, mg, T, F0, H, fun cls d _ H => EX cls d H, none⟩ 2 := ⟨rfl, rfl, hr, takes_cx⟩
    have hp := owns_cx (P := P) (w := w) (K := K) (mg := mg) (base := base) (N := n_from_rows) (q := "from_rows") (sc := defScope s_from_rows) (f := He.fAd K ("from_rows", none)) (cd := cdv) (A := A) (outer := outer) (s := s) (H := H) (E := EX)
    exact (dss_one (ds_ret (of (do_lc (own := [("row", 3)]) rfl rfl sc_from_rows.nd (di_rng2 (gl_by (by kernel_rfl)) E.z_range (da_cons de_int (da_cons (de_op op_addV rule_addV (dp_nm 2 rfl (vis_by (by kernel_rfl))) (fp de_int)) da_nil))) ⟨blkOk_by (N := n_from_rows) (sc := (defScope s_from_rows)) (own := [("row", 3)]) (by decide +kernel), ⟨_, _, by decide, fun _ _ _ _ _ => (pg_name sc_from_rows.nd rfl (loc_by (by kernel_rfl))), (dt_nm 3)⟩, fun _ _ _ _ _ => (dts_one (dt_cmp (op_eqD hr.units) rule_eq (fp (de_call mo.q (fd_rows_in E) (by decide) (gl_by (by kernel_rfl)) (da_cons (de_sh 0 rfl (vis_by (by kernel_rfl))) (da_cons (de_sh 3 rfl (vis_by (by kernel_rfl))) da_nil)))) (op (de_callTy call_list_of rule_listC (gl_by (by kernel_rfl)) E.z_list (by decide +kernel) (dp_cons (dp_nm 1 rfl (vis_by (by kernel_rfl))) dp_nil))) (nomark _))), fun _ _ _ _ _ => (de_sh 3 rfl (vis_by (by kernel_rfl)))⟩))))
theorem fd_may_be_at (E : Top K mg base T) : FD P w K mg base T 3 "may_be_at" 3 f_may_be_at :=
  fd_top E.t_may_be_at sc_may_be_at (fun fdd F => FunD.bindsN F fun _ _ _ _ _ _ us hl => match us, hl with | [_, _, _], _ => rfl) fun cdv A outer s H F0 EX hcv hr => by
    have mo : Mo (cxOf (L2.CX P w) P w K mg base n_may_be_at "may_be_at" (defScope s_may_be_at) (He.fAd K ("may_be_at", none)) cdv A outer s H EX) ⟨K, mg, T, F0, H, fun cls d _ H => EX cls d H, none⟩ 2 := ⟨rfl, rfl, hr, takes_cx⟩
    have hp := owns_cx (P := P) (w := w) (K := K) (mg := mg) (base := base) (N := n_may_be_at) (q := "may_be_at") (sc := defScope s_may_be_at) (f := He.fAd K ("may_be_at", none)) (cd := cdv) (A := A) (outer := outer) (s := s) (H := H) (E := EX)
    exact (dss_cons (ds_own 3 sc_may_be_at.nd rfl (loc_by (by kernel_rfl)) (dt_lstO da_nil))
  (dss_cons (ds_for rfl hp rfl (di_rng2 (gl_by (by kernel_rfl)) E.z_range (da_cons de_int (da_cons (de_op op_addV rule_addV (dp_nm 2 rfl (vis_by (by kernel_rfl))) (fp de_int)) da_nil))) (pg_name sc_may_be_at.nd rfl (loc_by (by kernel_rfl))) (dt_nm 4) (dss_cons (ds_set 5 sc_may_be_at.nd rfl (loc_by (by kernel_rfl)) (de_call mo (fd_rows_in E) (by decide) (gl_by (by kernel_rfl)) (da_cons (de_sh 0 rfl (vis_by (by kernel_rfl))) (da_cons (de_sh 4 rfl (vis_by (by kernel_rfl))) da_nil))))
  (dss_one (ds_if (dt_truth (fp (de_all (own := [("place", 6), ("here", 7)]) mo.hK hr (gl_by (by kernel_rfl)) E.z_all (by decide +kernel) E.tb_may_be_at E.tm_may_be_at hcv sc_may_be_at.nd (di_zip rfl (gl_by (by kernel_rfl)) E.z_zip (de_sh 1 rfl (vis_by (by kernel_rfl))) (de_sh 5 rfl (vis_by (by kernel_rfl)))) ⟨genOk_by (N := n_may_be_at) (sc := (defScope s_may_be_at)) (own := [("place", 6), ("here", 7)]) (by decide +kernel), ⟨_, _, by decide, fun _ _ _ _ _ _ => (pg_tup rfl (pgs_cons (pg_name sc_may_be_at.nd rfl (loc_by (by kernel_rfl))) (pgs_cons (pg_name sc_may_be_at.nd rfl (loc_by (by kernel_rfl))) pgs_nil))), (dt_tp rfl (dtl_cons (dt_nm 6) (dtl_cons (dt_nm 7) dtl_nil)))⟩, fun _ _ _ _ _ _ hr1 => (de_or (de_cmp op_isV rule_is (dp_nm 6 rfl (vis_by (by kernel_rfl))) (fp de_non) (nomark _)) (de_one (de_cmp (op_eqD hr1.units) rule_eq (dp_nm 6 rfl (vis_by (by kernel_rfl))) (dp_nm 7 rfl (vis_by (by kernel_rfl))) (nomark _))))⟩)) rfl (by intro _; rfl)) (dss_one (ds_app 3 rfl (vis_by (by kernel_rfl)) (de_sh 4 rfl (vis_by (by kernel_rfl))))) dss_nil))))
  (dss_frz (i := 3) (dss_one (ds_ret (de_sh 3 rfl (vis_by (by kernel_rfl))))))))
theorem fd_time_left (E : Top K mg base T) : FD P w K mg base T 1 "time_left" 3 f_time_left :=
  fd_top E.t_time_left sc_time_left (fun fdd F => FunD.bindsN F fun _ _ _ _ _ _ us hl => match us, hl with | [_, _, _], _ => rfl) fun cdv A outer s H F0 EX hcv hr => by
    have mo : Mo (cxOf (L2.CX P w) P w K mg base n_time_left "time_left" (defScope s_time_left) (He.fAd K ("time_left", none)) cdv A outer s H EX) ⟨K, mg, T, F0, H, fun cls d _ H => EX cls d H, none⟩ 0 := ⟨rfl, rfl, hr, takes_cx⟩
    have hp := owns_cx (P := P) (w := w) (K := K) (mg := mg) (base := base) (N := n_time_left) (q := "time_left") (sc := defScope s_time_left) (f := He.fAd K ("time_left", none)) (cd := cdv) (A := A) (outer := outer) (s := s) (H := H) (E := EX)
    exact (dss_one (ds_ret (de_callB (cr_sum rfl) rule_sum (gl_by (by kernel_rfl)) E.z_sum (by decide +kernel) (dp_cons (op (do_lc (own := [("one", 3)]) rfl rfl sc_time_left.nd (di_rng2 (gl_by (by kernel_rfl)) E.z_range (da_cons (de_sh 0 rfl (vis_by (by kernel_rfl))) (da_cons (de_op op_addV rule_addV (dp_nm 1 rfl (vis_by (by kernel_rfl))) (fp de_int)) da_nil))) ⟨blkOk_by (N := n_time_left) (sc := (defScope s_time_left)) (own := [("one", 3)]) (by decide +kernel), ⟨_, _, by decide, fun _ _ _ _ _ => (pg_name sc_time_left.nd rfl (loc_by (by kernel_rfl))), (dt_nm 3)⟩, fun _ _ _ _ _ => dts_nil, fun _ _ _ _ _ => (de_ix rfl (dp_nm 2 rfl (vis_by (by kernel_rfl))) (fp (de_op op_modN rule_mod (fp (de_op op_subV rule_sub (dp_nm 3 rfl (vis_by (by kernel_rfl))) (fp de_int))) (fp (de_callB cr_len rule_len (gl_by (by kernel_rfl)) E.z_len (by decide +kernel) (dp_cons (dp_nm 2 rfl (vis_by (by kernel_rfl))) dp_nil))))) (fun _ _ => rfl))⟩)) dp_nil))))
theorem fd_done_by (E : Top K mg base T) : FD P w K mg base T 1 "done_by" 3 f_done_by :=
  fd_top E.t_done_by sc_done_by (fun fdd F => FunD.bindsN F fun _ _ _ _ _ _ us hl => match us, hl with | [_, _, _], _ => rfl) fun cdv A outer s H F0 EX hcv hr => by
    have mo : Mo (cxOf (L2.CX P w) P w K mg base n_done_by "done_by" (defScope s_done_by) (He.fAd K ("done_by", none)) cdv A outer s H EX) ⟨K, mg, T, F0, H, fun cls d _ H => EX cls d H, none⟩ 0 := ⟨rfl, rfl, hr, takes_cx⟩
    have hp := owns_cx (P := P) (w := w) (K := K) (mg := mg) (base := base) (N := n_done_by) (q := "done_by") (sc := defScope s_done_by) (f := He.fAd K ("done_by", none)) (cd := cdv) (A := A) (outer := outer) (s := s) (H := H) (E := EX)
    exact (dss_cons (ds_set 3 sc_done_by.nd rfl (loc_by (by kernel_rfl)) (de_sh 0 rfl (vis_by (by kernel_rfl))))
  (dss_cons (ds_set 4 sc_done_by.nd rfl (loc_by (by kernel_rfl)) (de_sh 2 rfl (vis_by (by kernel_rfl))))
  (dss_cons (ds_while hp (dt_cmp op_le rule_le (fp (de_ix rfl (dp_nm 1 rfl (vis_by (by kernel_rfl))) (fp (de_op op_modN rule_mod (fp (de_op op_subV rule_sub (dp_nm 3 rfl (vis_by (by kernel_rfl))) (fp de_int))) (fp (de_callB cr_len rule_len (gl_by (by kernel_rfl)) E.z_len (by decide +kernel) (dp_cons (dp_nm 1 rfl (vis_by (by kernel_rfl))) dp_nil))))) (fun _ _ => rfl))) (dp_nm 4 rfl (vis_by (by kernel_rfl))) (nomark _)) (dss_cons (ds_aug 4 sc_done_by.nd rfl (loc_by (by kernel_rfl)) iop_sub rule_sub (fp (de_ix rfl (dp_nm 1 rfl (vis_by (by kernel_rfl))) (fp (de_op op_modN rule_mod (fp (de_op op_subV rule_sub (dp_nm 3 rfl (vis_by (by kernel_rfl))) (fp de_int))) (fp (de_callB cr_len rule_len (gl_by (by kernel_rfl)) E.z_len (by decide +kernel) (dp_cons (dp_nm 1 rfl (vis_by (by kernel_rfl))) dp_nil))))) (fun _ _ => rfl))))
  (dss_one (ds_aug 3 sc_done_by.nd rfl (loc_by (by kernel_rfl)) iop_addV rule_addW (fp de_int)))))
  (dss_one (ds_ret (de_op op_subV rule_sub (dp_nm 3 rfl (vis_by (by kernel_rfl))) (fp de_int)))))))
theorem fd_ticks (E : Top K mg base T) : FD P w K mg base T 1 "ticks" 1 f_ticks :=
  fd_top E.t_ticks sc_ticks (fun fdd F => FunD.bindsN F fun _ _ _ _ _ _ us hl => match us, hl with | [_], _ => rfl) fun cdv A outer s H F0 EX hcv hr => by
    have mo : Mo (cxOf (L2.CX P w) P w K mg base n_ticks "ticks" (defScope s_ticks) (He.fAd K ("ticks", none)) cdv A outer s H EX) ⟨K, mg, T, F0, H, fun cls d _ H => EX cls d H, none⟩ 0 := ⟨rfl, rfl, hr, takes_cx⟩
    have hp := owns_cx (P := P) (w := w) (K := K) (mg := mg) (base := base) (N := n_ticks) (q := "ticks") (sc := defScope s_ticks) (f := He.fAd K ("ticks", none)) (cd := cdv) (A := A) (outer := outer) (s := s) (H := H) (E := EX)
    exact (dss_cons (ds_set 1 sc_ticks.nd rfl (loc_by (by kernel_rfl)) de_int)
  (dss_cons (ds_for rfl hp rfl (di_seq rfl (de_sh 0 rfl (vis_by (by kernel_rfl)))) (pg_name sc_ticks.nd rfl (loc_by (by kernel_rfl))) (dt_nm 2) (dss_one (ds_if (dt_cmp (op_eqD hr.units) rule_eq (dp_nm 2 rfl (vis_by (by kernel_rfl))) (fp de_str) (nomark _)) (dss_one (ds_aug 1 sc_ticks.nd rfl (loc_by (by kernel_rfl)) iop_addV rule_addW (fp de_int))) (dss_one (ds_if (dt_cmp (op_eqD hr.units) rule_eq (dp_nm 2 rfl (vis_by (by kernel_rfl))) (fp de_str) (nomark _)) (dss_one (ds_set 1 sc_ticks.nd rfl (loc_by (by kernel_rfl)) (de_callB (cr_maxC rfl) rule_max (gl_by (by kernel_rfl)) E.z_max (by decide +kernel) (dp_cons (fp de_int) (dp_cons (fp (de_op op_subV rule_sub (dp_nm 1 rfl (vis_by (by kernel_rfl))) (fp de_int))) dp_nil))))) (dss_one (ds_set 1 sc_ticks.nd rfl (loc_by (by kernel_rfl)) de_int)))))))
  (dss_one (ds_ret (de_sh 1 rfl (vis_by (by kernel_rfl)))))))
theorem fd_tally (E : Top K mg base T) : FD P w K mg base T 1 "tally" 1 f_tally :=
  fd_top E.t_tally sc_tally (fun fdd F => FunD.bindsN F fun _ _ _ _ _ _ us hl => match us, hl with | [_], _ => rfl) fun cdv A outer s H F0 EX hcv hr => by
    have mo : Mo (cxOf (L2.CX P w) P w K mg base n_tally "tally" (defScope s_tally) (He.fAd K ("tally", none)) cdv A outer s H EX) ⟨K, mg, T, F0, H, fun cls d _ H => EX cls d H, none⟩ 0 := ⟨rfl, rfl, hr, takes_cx⟩
    have hp := owns_cx (P := P) (w := w) (K := K) (mg := mg) (base := base) (N := n_tally) (q := "tally") (sc := defScope s_tally) (f := He.fAd K ("tally", none)) (cd := cdv) (A := A) (outer := outer) (s := s) (H := H) (E := EX)
    exact (dss_cons (ds_set 1 sc_tally.nd rfl (loc_by (by kernel_rfl)) (de_op op_mulV rule_mul (op (dt_lstO (da_cons de_str da_nil))) (fp (de_op op_fdivN rule_fdiv (dp_nm 0 rfl (vis_by (by kernel_rfl))) (fp de_int)))))
  (dss_one (ds_ret (de_join rfl de_str (fp (de_op op_addV rule_addV (dp_nm 1 rfl (vis_by (by kernel_rfl))) (fp (de_op op_mulV rule_mul (op (dt_lstO (da_cons (de_op op_mulV rule_mul (fp de_str) (fp (de_op op_modN rule_mod (dp_nm 0 rfl (vis_by (by kernel_rfl))) (fp de_int)))) da_nil))) (fp (de_callTy call_int1 rule_int1 (gl_by (by kernel_rfl)) E.z_int (by decide +kernel) (dp_cons (fp (de_cmp op_gt rule_gt (fp (de_op op_modN rule_mod (dp_nm 0 rfl (vis_by (by kernel_rfl))) (fp de_int))) (fp de_int) (nomark _))) dp_nil)))))))))))
theorem fd_read_tally (E : Top K mg base T) : FD P w K mg base T 1 "read_tally" 1 f_read_tally :=
  fd_top E.t_read_tally sc_read_tally (fun fdd F => FunD.bindsN F fun _ _ _ _ _ _ us hl => match us, hl with | [_], _ => rfl) fun cdv A outer s H F0 EX hcv hr => by
    have mo : Mo (cxOf (L2.CX P w) P w K mg base n_read_tally "read_tally" (defScope s_read_tally) (He.fAd K ("read_tally", none)) cdv A outer s H EX) ⟨K, mg, T, F0, H, fun cls d _ H => EX cls d H, none⟩ 0 := ⟨rfl, rfl, hr, takes_cx⟩
    have hp := owns_cx (P := P) (w := w) (K := K) (mg := mg) (base := base) (N := n_read_tally) (q := "read_tally") (sc := defScope s_read_tally) (f := He.fAd K ("read_tally", none)) (cd := cdv) (A := A) (outer := outer) (s := s) (H := H) (E := EX)
    exact (dss_cons (ds_if (dt_not (dt_truth (dp_nm 0 rfl (vis_by (by kernel_rfl))) rfl (by intro _; rfl))) (dss_one (ds_ret de_int)) dss_nil)
  (dss_cons (ds_set 1 sc_read_tally.nd rfl (loc_by (by kernel_rfl)) (of (de_split (de_sh 0 rfl (vis_by (by kernel_rfl))) (fp de_str))))
  (dss_cons (ds_set 2 sc_read_tally.nd rfl (loc_by (by kernel_rfl)) de_int)
  (dss_cons (ds_for rfl hp rfl (di_enuJ rfl (gl_by (by kernel_rfl)) E.z_enumerate (de_sh 1 rfl (vis_by (by kernel_rfl)))) (pg_tup rfl (pgs_cons (pg_name sc_read_tally.nd rfl (loc_by (by kernel_rfl))) (pgs_cons (pg_name sc_read_tally.nd rfl (loc_by (by kernel_rfl))) pgs_nil))) (dt_tp rfl (dtl_cons (dt_nm 3) (dtl_cons (dt_nm 4) dtl_nil))) (dss_one (ds_if (dt_cmp (op_eqD hr.units) rule_eq (dp_nm 4 rfl (vis_by (by kernel_rfl))) (fp de_str) (nomark _)) (dss_one (ds_aug 2 sc_read_tally.nd rfl (loc_by (by kernel_rfl)) iop_addV rule_addW (fp de_int))) (dss_one (ds_if (PW.pt (dw_and (dt_cmp (op_eqD hr.units) rule_eq (dp_nm 3 rfl (vis_by (by kernel_rfl))) (fp (de_op op_subV rule_sub (fp (de_callB cr_len rule_len (gl_by (by kernel_rfl)) E.z_len (by decide +kernel) (dp_cons (dp_nm 1 rfl (vis_by (by kernel_rfl))) dp_nil))) (fp de_int))) (nomark _)) (dw_and1 (dt_cmp (op_inV (hu65 hr)) rule_in (dp_nm 4 rfl (vis_by (by kernel_rfl))) (fp (dt_tup (da_cons de_str (da_cons de_str (da_cons de_str (da_cons de_str da_nil)))))) (by rfl))))) (dss_one (ds_aug 2 sc_read_tally.nd rfl (loc_by (by kernel_rfl)) iop_addV rule_addW (fp (de_callB cr_len rule_len (gl_by (by kernel_rfl)) E.z_len (by decide +kernel) (dp_cons (dp_nm 4 rfl (vis_by (by kernel_rfl))) dp_nil))))) (dss_one (ds_raise rfl mo.tk rfl PySem.F.excBase_ValueError E.x_NoSuchThing.1 E.g_NoSuchThing E.x_NoSuchThing.2.1 (raises_own E.x_NoSuchThing.2.2.1 E.x_NoSuchThing.2.2.2) (gl_by (by kernel_rfl)))))))))
  (dss_one (ds_ret (de_sh 2 rfl (vis_by (by kernel_rfl)))))))))
theorem fd__law_draws (E : Top K mg base T) : FD P w K mg base T 1 "_law_draws" 3 f__law_draws :=
  fd_top E.t__law_draws sc__law_draws (fun fdd F => FunD.bindsN F fun _ _ _ _ _ _ us hl => match us, hl with | [_, _, _], _ => rfl) fun cdv A outer s H F0 EX hcv hr => by
    have mo : Mo (cxOf (L2.CX P w) P w K mg base n__law_draws "_law_draws" (defScope s__law_draws) (He.fAd K ("_law_draws", none)) cdv A outer s H EX) ⟨K, mg, T, F0, H, fun cls d _ H => EX cls d H, none⟩ 0 := ⟨rfl, rfl, hr, takes_cx⟩
    have hp := owns_cx (P := P) (w := w) (K := K) (mg := mg) (base := base) (N := n__law_draws) (q := "_law_draws") (sc := defScope s__law_draws) (f := He.fAd K ("_law_draws", none)) (cd := cdv) (A := A) (outer := outer) (s := s) (H := H) (E := EX)
    exact (dss_cons (ds_set 3 sc__law_draws.nd rfl (loc_by (by kernel_rfl)) (de_sh 0 rfl (vis_by (by kernel_rfl))))
  (dss_cons (ds_if (dt_cmp op_lt rule_lt (dp_nm 3 rfl (vis_by (by kernel_rfl))) (fp de_int) (nomark _)) (dss_one (ds_set 3 sc__law_draws.nd rfl (loc_by (by kernel_rfl)) (de_op op_subV rule_sub (fp (de_op op_subV rule_sub (fp de_int) (fp de_int))) (dp_nm 3 rfl (vis_by (by kernel_rfl)))))) dss_nil)
  (dss_cons (ds_own 4 sc__law_draws.nd rfl (loc_by (by kernel_rfl)) (dt_lstO da_nil))
  (dss_cons (ds_if (dt_cmp op_ge rule_ge (dp_nm 3 rfl (vis_by (by kernel_rfl))) (fp (de_op op_pow rule_pow (fp de_int) (fp de_int))) (nomark _)) (dss_cons (ds_for rfl hp rfl (di_rng1 (gl_by (by kernel_rfl)) E.z_range (da_cons (de_sh 2 rfl (vis_by (by kernel_rfl))) da_nil)) (pg_name sc__law_draws.nd rfl (loc_by (by kernel_rfl))) (dt_nm 5) (dss_cons (ds_app 4 rfl (vis_by (by kernel_rfl)) (de_op op_modN rule_mod (fp (de_callTy call_int1 rule_int1 (gl_by (by kernel_rfl)) E.z_int (by decide +kernel) (dp_cons (dp_nm 3 rfl (vis_by (by kernel_rfl))) dp_nil))) (dp_nm 1 rfl (vis_by (by kernel_rfl)))))
  (dss_one (ds_set 3 sc__law_draws.nd rfl (loc_by (by kernel_rfl)) (de_op op_fdivN rule_fdiv (dp_nm 3 rfl (vis_by (by kernel_rfl))) (dp_nm 1 rfl (vis_by (by kernel_rfl))))))))
  (dss_frz (i := 4) (dss_one (ds_ret (de_sh 4 rfl (vis_by (by kernel_rfl))))))) dss_nil)
  (dss_cons (ds_for rfl hp rfl (di_rng1 (gl_by (by kernel_rfl)) E.z_range (da_cons (de_sh 2 rfl (vis_by (by kernel_rfl))) da_nil)) (pg_name sc__law_draws.nd rfl (loc_by (by kernel_rfl))) (dt_nm 5) (dss_cons (ds_set 6 sc__law_draws.nd rfl (loc_by (by kernel_rfl)) (de_op op_modN rule_mod (fp (de_callTy call_int1 rule_int1 (gl_by (by kernel_rfl)) E.z_int (by decide +kernel) (dp_cons (fp (de_op op_mulV rule_mul (fp (de_op op_addV rule_addV (fp (de_op op_addV rule_addV (dp_nm 3 rfl (vis_by (by kernel_rfl))) (fp (de_op op_mulV rule_mul (fp de_int) (dp_nm 5 rfl (vis_by (by kernel_rfl))))))) (fp de_int))) (fp de_int))) dp_nil))) (fp de_int)))
  (dss_cons (ds_set 6 sc__law_draws.nd rfl (loc_by (by kernel_rfl)) (de_op op_modN rule_mod (fp (de_callTy call_int1 rule_int1 (gl_by (by kernel_rfl)) E.z_int (by decide +kernel) (dp_cons (fp (de_op op_addV rule_addV (fp (de_op op_mulV rule_mul (dp_nm 6 rfl (vis_by (by kernel_rfl))) (fp de_int))) (fp (de_op op_mulV rule_mul (fp de_int) (dp_nm 5 rfl (vis_by (by kernel_rfl))))))) dp_nil))) (fp de_int)))
  (dss_one (ds_app 4 rfl (vis_by (by kernel_rfl)) (de_op op_modN rule_mod (fp (de_callTy call_int1 rule_int1 (gl_by (by kernel_rfl)) E.z_int (by decide +kernel) (dp_cons (fp (de_op op_fdivN rule_fdiv (dp_nm 6 rfl (vis_by (by kernel_rfl))) (fp de_int))) dp_nil))) (dp_nm 1 rfl (vis_by (by kernel_rfl)))))))))
  (dss_frz (i := 4) (dss_one (ds_ret (de_sh 4 rfl (vis_by (by kernel_rfl)))))))))))
theorem fd__law_told (E : Top K mg base T) : FD P w K mg base T 2 "_law_told" 4 f__law_told :=
  fd_top E.t__law_told sc__law_told (fun fdd F => FunD.bindsN F fun _ _ _ _ _ _ us hl => match us, hl with | [_, _, _, _], _ => rfl) fun cdv A outer s H F0 EX hcv hr => by
    have mo : Mo (cxOf (L2.CX P w) P w K mg base n__law_told "_law_told" (defScope s__law_told) (He.fAd K ("_law_told", none)) cdv A outer s H EX) ⟨K, mg, T, F0, H, fun cls d _ H => EX cls d H, none⟩ 1 := ⟨rfl, rfl, hr, takes_cx⟩
    have hp := owns_cx (P := P) (w := w) (K := K) (mg := mg) (base := base) (N := n__law_told) (q := "_law_told") (sc := defScope s__law_told) (f := He.fAd K ("_law_told", none)) (cd := cdv) (A := A) (outer := outer) (s := s) (H := H) (E := EX)
    exact (dss_one (ds_told1 (i := 4) mo rfl rfl sc__law_told.nd rfl (by kernel_rfl) (gl_by (by kernel_rfl)) E.g_NoSuchThing (gl_by (by kernel_rfl)) E.g_KnittoldError (gl_by (by kernel_rfl)) E.z_isinstance (by decide +kernel) (mt_cons E.g_NoSuchThing E.m_NoSuchThing_NoSuchThing (fun _ => ⟨E.e_NoSuchThing, E.k_NoSuchThing_KnittoldError⟩) mt_nil) (fun W pn xe tk1 hp => (dss_one (ds_ret (de_ifF (dt_cmp (op_eqD hr.units) rule_eq (dp_nm 0 rfl (vis_by (by kernel_rfl))) (fp de_int) (nomark _)) (de_call (mo.tr tk1) (fd_next_at E) (by decide) (gl_by (by kernel_rfl)) (da_cons (de_sh 1 rfl (vis_by (by kernel_rfl))) (da_cons (de_sh 2 rfl (vis_by (by kernel_rfl))) (da_cons (de_sh 3 rfl (vis_by (by kernel_rfl))) da_nil)))) (de_call (mo.tr tk1) (fd_read_tally E) (by decide) (gl_by (by kernel_rfl)) (da_cons (de_sh 1 rfl (vis_by (by kernel_rfl))) da_nil))))))))
theorem fd__law_shown (E : Top K mg base T) : FD P w K mg base T 1 "_law_shown" 2 f__law_shown :=
  fd_top E.t__law_shown sc__law_shown (fun fdd F => FunD.bindsN F fun _ _ _ _ _ _ us hl => match us, hl with | [_, _], _ => rfl) fun cdv A outer s H F0 EX hcv hr => by
    have mo : Mo (cxOf (L2.CX P w) P w K mg base n__law_shown "_law_shown" (defScope s__law_shown) (He.fAd K ("_law_shown", none)) cdv A outer s H EX) ⟨K, mg, T, F0, H, fun cls d _ H => EX cls d H, none⟩ 0 := ⟨rfl, rfl, hr, takes_cx⟩
    have hp := owns_cx (P := P) (w := w) (K := K) (mg := mg) (base := base) (N := n__law_shown) (q := "_law_shown") (sc := defScope s__law_shown) (f := He.fAd K ("_law_shown", none)) (cd := cdv) (A := A) (outer := outer) (s := s) (H := H) (E := EX)
    exact (dss_cons (ds_set 2 sc__law_shown.nd rfl (loc_by (by kernel_rfl)) de_non)
  (dss_cons (ds_for rfl hp rfl (di_rng2 (gl_by (by kernel_rfl)) E.z_range (da_cons de_int (da_cons (de_op op_addV rule_addV (dp_nm 1 rfl (vis_by (by kernel_rfl))) (fp de_int)) da_nil))) (pg_name sc__law_shown.nd rfl (loc_by (by kernel_rfl))) (dt_nm 3) (dss_one (ds_if (dt_cmp (op_eqD hr.units) rule_eq (dp_nm 3 rfl (vis_by (by kernel_rfl))) (fp (de_ix rfl (dp_nm 0 rfl (vis_by (by kernel_rfl))) (fp de_int) (fun _ _ => rfl))) (nomark _)) (dss_one (ds_set 2 sc__law_shown.nd rfl (loc_by (by kernel_rfl)) de_int)) (dss_one (ds_if (dt_cmp op_gt rule_gt (dp_nm 3 rfl (vis_by (by kernel_rfl))) (fp (de_ix rfl (dp_nm 0 rfl (vis_by (by kernel_rfl))) (fp de_int) (fun _ _ => rfl))) (nomark _)) (dss_one (ds_set 2 sc__law_shown.nd rfl (loc_by (by kernel_rfl)) (de_op op_addV rule_addV (fp (de_op op_modN rule_mod (dp_nm 2 rfl (vis_by (by kernel_rfl))) (fp (de_ix rfl (dp_nm 0 rfl (vis_by (by kernel_rfl))) (fp de_int) (fun _ _ => rfl))))) (fp de_int)))) dss_nil)))))
  (dss_one (ds_ret (de_sh 2 rfl (vis_by (by kernel_rfl)))))))
theorem fb_box (E : Top K mg base T) (hd : DrawsOk f__law_draws) : FB P w K mg base T 2 := by
  obtain ⟨fdd, F⟩ := E.t__law_box.ex
  obtain ⟨a, fd2, ps2, FD2, h1, h2, h3⟩ := (fd__law_draws (P := P) (w := w) E).ex
  refine ⟨_, fdd, ["script"], F.ok sc__law_box (fun vs H Q E h => ?_) (fun cdv A outer s H vs Q EX hr h => ⟨t_box K (SpD K mg T f__law_draws 3) (WE fun cls d _ H => EX cls d H), ?_, pure_box hd h⟩), E.t__law_box.hg, F.kp, FunD.bindsN F fun _ _ _ _ _ _ us hl => match us, hl with | [_], _ => rfl⟩
  · obtain ⟨a, ns, rfl, _⟩ := h
    rfl
  · exact pss_cons (ps_set (i := 1) sc__law_box.nd rfl (.inl rfl) (pe_lst pa_nil))
      (pss_cons (ps_for owns_cx rfl (pi_list (pv 0)) (pg_name (i := 2) sc__law_box.nd rfl (.inl rfl)) (pss_one (ps_set (i := 1) sc__law_box.nd rfl (.inl rfl) (pe_op op_cat (pv 1) (pe_callS FD2 (hr.mono (by decide)) rfl h1 h2 h3 (fun σ => passAt takes_cx σ) (pa_cons (pv 2) (pa_cons pe_int (pa_cons pe_int pa_nil))))))))
      (pss_cons (ps_if (pt_cmpR op_eq (pe_callB call_len rfl E.z_len boot_len (pa_cons (pv 1) pa_nil)) pe_int (nomark _)) (pss_one (ps_set (i := 1) sc__law_box.nd rfl (.inl rfl) (pe_lst (pa_cons pe_int (pa_cons pe_int (pa_cons pe_int (pa_cons pe_int (pa_cons pe_int (pa_cons pe_int (pa_cons pe_int pa_nil)))))))))) pss_nil)
      (pss_one (ps_ret (pe_disp (pps_cons pe_str (pv 1) (pps_cons pe_str pe_int pps_nil)) rfl rfl (by decide) (by decide))))))
theorem fn_law (E : Top K mg base T) (hd : DrawsOk f__law_draws) (pure : ∀ R, RGood R → ∃ m, d_law R (lawE 33) 0 = .ret (.bool true) m) {fdd : FuncData} (F : FunD K "law" "law" (defArgs s_law) (defBody s_law) (defScope s_law) [] [] (He.fAd K ("law", none)) fdd) : FnOk P w K mg base (L2.CX P w) 4 (He.fAd K ("law", none)) fdd ["script"] (SpL K T) :=
  law_top (d := d_law) (n := 33) F sc_law rfl pure fun cdv A outer s H EX hcv hr => by
    obtain ⟨a, fd2, ps2, FB2, h1, h2, h3⟩ := (fb_box (P := P) (w := w) E hd).ex
    refine pss_cons (ps_set (i := 1) sc_law.nd rfl (loc_by (by kernel_rfl)) (pe_callS FB2 (hr.mono (by decide)) (gl_by (by kernel_rfl)) h1 h2 h3 (fun σ => passAt takes_cx σ) (pa_cons (pe_var (i := 0) rfl (vis_by (by kernel_rfl))) pa_nil))) (pss_ex fun R B H0 F0 hR => ?_)
    have mo : Mo (cxOf (L2.CX P w) P w K mg base n_law "law" (defScope s_law) (He.fAd K ("law", none)) cdv A outer s H EX) ⟨K, mg, T, F0, H0, fun cls d _ H => EX cls d H, some (B, R)⟩ 3 := ⟨rfl, rfl, hr, takes_cx⟩
    have hp := owns_cx (P := P) (w := w) (K := K) (mg := mg) (base := base) (N := n_law) (q := "law") (sc := defScope s_law) (f := He.fAd K ("law", none)) (cd := cdv) (A := A) (outer := outer) (s := s) (H := H) (E := EX)
    exact (dss_cons (ds_set 3 sc_law.nd rfl (loc_by (by kernel_rfl)) (de_callTy call_tuple_of rule_tupleC (gl_by (by kernel_rfl)) E.z_tuple (by decide +kernel) (dp_cons (op (do_lc (own := [("k", 2)]) rfl rfl sc_law.nd (di_rng1 (gl_by (by kernel_rfl)) E.z_range (da_cons (de_op op_addV rule_addV (fp de_int) (fp (de_next (i := 1) mo (fn_next E) (by decide) ⟨_, rfl⟩ hR (gl_by (by kernel_rfl)) rfl (vis_by (by kernel_rfl)) de_int))) da_nil)) ⟨blkOk_by (N := n_law) (sc := (defScope s_law)) (own := [("k", 2)]) (by decide +kernel), ⟨_, _, by decide, fun _ _ _ _ _ => (pg_name sc_law.nd rfl (loc_by (by kernel_rfl))), (dt_nm 2)⟩, fun _ _ _ _ _ => dts_nil, fun _ _ _ _ _ => (dt_tup (da_cons (de_op op_addV rule_addV (fp de_int) (fp (de_next (i := 1) mo.q (fn_next E) (by decide) ⟨_, rfl⟩ hR (gl_by (by kernel_rfl)) rfl (vis_by (by kernel_rfl)) de_int))) (da_cons (de_op op_addV rule_addV (fp de_int) (fp (de_next (i := 1) mo.q (fn_next E) (by decide) ⟨_, rfl⟩ hR (gl_by (by kernel_rfl)) rfl (vis_by (by kernel_rfl)) de_int))) da_nil)))⟩)) dp_nil)))
  (dss_cons (ds_set 4 sc_law.nd rfl (loc_by (by kernel_rfl)) (de_op op_addV rule_addV (fp de_int) (fp (de_next (i := 1) mo (fn_next E) (by decide) ⟨_, rfl⟩ hR (gl_by (by kernel_rfl)) rfl (vis_by (by kernel_rfl)) de_int))))
  (dss_cons (ds_set 6 sc_law.nd rfl (loc_by (by kernel_rfl)) (of (do_lc (own := [("track", 5)]) rfl rfl sc_law.nd (di_seq rfl (de_sh 3 rfl (vis_by (by kernel_rfl)))) ⟨blkOk_by (N := n_law) (sc := (defScope s_law)) (own := [("track", 5)]) (by decide +kernel), ⟨_, _, by decide, fun _ _ _ _ _ => (pg_name sc_law.nd rfl (loc_by (by kernel_rfl))), (dt_nm 5)⟩, fun _ _ _ _ _ => dts_nil, fun _ _ _ _ _ => (de_call mo.q (fd__law_shown E) (by decide) (gl_by (by kernel_rfl)) (da_cons (de_sh 5 rfl (vis_by (by kernel_rfl))) (da_cons (de_sh 4 rfl (vis_by (by kernel_rfl))) da_nil)))⟩)))
  (dss_cons (ds_if (PW.pt (dw_or (dt_cmp op_isnV rule_isn (fp (de_call mo (fd_is_tracks E) (by decide) (gl_by (by kernel_rfl)) (da_cons (de_sh 3 rfl (vis_by (by kernel_rfl))) da_nil))) (fp de_bl) (nomark _)) (dw_or (dt_cmp (op_neD hr.units) rule_ne (fp (de_call mo (fd_rows_in E) (by decide) (gl_by (by kernel_rfl)) (da_cons (de_sh 3 rfl (vis_by (by kernel_rfl))) (da_cons (de_sh 4 rfl (vis_by (by kernel_rfl))) da_nil)))) (dp_nm 6 rfl (vis_by (by kernel_rfl))) (nomark _)) (dw_or1 (dt_cmp (op_neD hr.units) rule_ne (op (do_lc (own := [("track", 5)]) rfl rfl sc_law.nd (di_seq rfl (de_sh 3 rfl (vis_by (by kernel_rfl)))) ⟨blkOk_by (N := n_law) (sc := (defScope s_law)) (own := [("track", 5)]) (by decide +kernel), ⟨_, _, by decide, fun _ _ _ _ _ => (pg_name sc_law.nd rfl (loc_by (by kernel_rfl))), (dt_nm 5)⟩, fun _ _ _ _ _ => dts_nil, fun _ _ _ _ _ => (de_call mo.q (fd_row_in E) (by decide) (gl_by (by kernel_rfl)) (da_cons (de_sh 5 rfl (vis_by (by kernel_rfl))) (da_cons (de_sh 4 rfl (vis_by (by kernel_rfl))) da_nil)))⟩)) (dp_nm 6 rfl (vis_by (by kernel_rfl))) (nomark _)))))) (dss_one (ds_ret de_bl)) dss_nil)
  (dss_cons (ds_setLc (own := [("track", 5)]) rfl rfl sc_law.nd rfl rfl (sw_true rfl rfl rfl (by decide +kernel)) (di_seq rfl (de_sh 3 rfl (vis_by (by kernel_rfl)))) ⟨blkOk_by (N := n_law) (sc := (defScope s_law)) (own := [("track", 5)]) (by decide +kernel), ⟨_, _, by decide, fun _ _ _ _ _ => (pg_name sc_law.nd rfl (loc_by (by kernel_rfl))), (dt_nm 5)⟩, fun _ _ _ _ _ => dts_nil, fun _ _ _ _ _ => (de_callB cr_len rule_len (gl_by (by kernel_rfl)) E.z_len (by decide +kernel) (dp_cons (op (do_lc (own := [("k", 2)]) rfl rfl sc_law.nd (di_rng2 (gl_by (by kernel_rfl)) E.z_range (da_cons de_int (da_cons (de_op op_addV rule_addV (dp_nm 4 rfl (vis_by (by kernel_rfl))) (fp de_int)) da_nil))) ⟨blkOk_by (N := n_law) (sc := (relS _ (defScope s_law))) (own := [("k", 2)]) (by decide +kernel), ⟨_, _, by decide, fun _ _ _ _ _ => (pg_name sc_law.nd rfl (loc_by (by kernel_rfl))), (dt_nm 2)⟩, fun _ _ _ _ _ => (dts_one (dt_cmp (op_eqD hr.units) rule_eq (fp (de_call mo.q.q (fd__law_shown E) (by decide) (gl_by (by kernel_rfl)) (da_cons (de_sh 5 rfl (vis_by (by kernel_rfl))) (da_cons (de_sh 2 rfl (vis_by (by kernel_rfl))) da_nil)))) (fp (de_ix rfl (dp_nm 5 rfl (vis_by (by kernel_rfl))) (fp de_int) (fun _ _ => rfl))) (nomark _))), fun _ _ _ _ _ => (de_sh 2 rfl (vis_by (by kernel_rfl)))⟩)) dp_nil))⟩)
  (dss_cons (ds_if (dt_cmp (op_neD hr.units) rule_ne (op (do_lc (own := [("track", 5)]) rfl rfl sc_law.nd (di_seq rfl (de_sh 3 rfl (vis_by (by kernel_rfl)))) ⟨blkOk_by (N := n_law) (sc := (defScope s_law)) (own := [("track", 5)]) (by decide +kernel), ⟨_, _, by decide, fun _ _ _ _ _ => (pg_name sc_law.nd rfl (loc_by (by kernel_rfl))), (dt_nm 5)⟩, fun _ _ _ _ _ => dts_nil, fun _ _ _ _ _ => (de_call mo.q (fd_repeats_done E) (by decide) (gl_by (by kernel_rfl)) (da_cons (de_sh 5 rfl (vis_by (by kernel_rfl))) (da_cons (de_sh 4 rfl (vis_by (by kernel_rfl))) da_nil)))⟩)) (dp_nm 7 rfl (vis_by (by kernel_rfl))) (nomark _)) (dss_one (ds_ret de_bl)) dss_nil)
  (dss_cons (ds_set 5 sc_law.nd rfl (loc_by (by kernel_rfl)) (de_ix rfl (dp_nm 3 rfl (vis_by (by kernel_rfl))) (fp de_int) (fun _ _ => rfl)))
  (dss_cons (ds_set 8 sc_law.nd rfl (loc_by (by kernel_rfl)) (de_op op_subV rule_sub (fp (de_next (i := 1) mo (fn_next E) (by decide) ⟨_, rfl⟩ hR (gl_by (by kernel_rfl)) rfl (vis_by (by kernel_rfl)) (de_op op_addV rule_addV (fp (de_ix rfl (dp_nm 5 rfl (vis_by (by kernel_rfl))) (fp de_int) (fun _ _ => rfl))) (fp de_int)))) (fp de_int)))
  (dss_cons (ds_setLc (own := [("k", 2)]) rfl rfl sc_law.nd rfl rfl (sw_true rfl rfl rfl (by decide +kernel)) (di_rng2 (gl_by (by kernel_rfl)) E.z_range (da_cons (de_sh 4 rfl (vis_by (by kernel_rfl))) (da_cons (de_op op_addV rule_addV (dp_nm 4 rfl (vis_by (by kernel_rfl))) (fp de_int)) da_nil))) ⟨blkOk_by (N := n_law) (sc := (defScope s_law)) (own := [("k", 2)]) (by decide +kernel), ⟨_, _, by decide, fun _ _ _ _ _ => (pg_name sc_law.nd rfl (loc_by (by kernel_rfl))), (dt_nm 2)⟩, fun _ _ _ _ _ => (dts_one (dt_cmp (op_eqD hr.units) rule_eq (fp (de_call mo.q (fd__law_shown E) (by decide) (gl_by (by kernel_rfl)) (da_cons (de_sh 5 rfl (vis_by (by kernel_rfl))) (da_cons (de_sh 2 rfl (vis_by (by kernel_rfl))) da_nil)))) (dp_nm 8 rfl (vis_by (by kernel_rfl))) (nomark _))), fun _ _ _ _ _ => (de_sh 2 rfl (vis_by (by kernel_rfl)))⟩)
  (dss_cons (ds_if (dt_cmp (op_neD hr.units) rule_ne (fp (de_call mo (fd__law_told E) (by decide) (gl_by (by kernel_rfl)) (da_cons de_int (da_cons (de_sh 5 rfl (vis_by (by kernel_rfl))) (da_cons (de_sh 8 rfl (vis_by (by kernel_rfl))) (da_cons (de_sh 4 rfl (vis_by (by kernel_rfl))) da_nil)))))) (fp (de_ifF (dt_chain op_le op_le rule_le rule_le (fp de_int) (dp_nm 8 rfl (vis_by (by kernel_rfl))) (fp (de_ix rfl (dp_nm 5 rfl (vis_by (by kernel_rfl))) (fp de_int) (fun _ _ => rfl)))) (de_ix rfl (dp_nm 9 rfl (vis_by (by kernel_rfl))) (fp de_int) (fun _ _ => rfl)) de_str)) (nomark _)) (dss_one (ds_ret de_bl)) dss_nil)
  (dss_cons (ds_set 10 sc_law.nd rfl (loc_by (by kernel_rfl)) (de_ix rfl (op (do_lc (own := [("k", 2)]) rfl rfl sc_law.nd (di_rng2 (gl_by (by kernel_rfl)) E.z_range (da_cons de_int (da_cons de_int da_nil))) ⟨blkOk_by (N := n_law) (sc := (defScope s_law)) (own := [("k", 2)]) (by decide +kernel), ⟨_, _, by decide, fun _ _ _ _ _ => (pg_name sc_law.nd rfl (loc_by (by kernel_rfl))), (dt_nm 2)⟩, fun _ _ _ _ _ => (dts_one (dt_truth (fp (de_callB (cr_all rfl) rule_all (gl_by (by kernel_rfl)) E.z_all (by decide +kernel) (dp_cons (op (do_lc (own := [("one", 30)]) rfl rfl sc_law.nd (di_seq rfl (de_sh 3 rfl (vis_by (by kernel_rfl)))) ⟨blkOk_by (N := n_law) (sc := (relS _ (defScope s_law))) (own := [("one", 30)]) (by decide +kernel), ⟨_, _, by decide, fun _ _ _ _ _ => (pg_name sc_law.nd rfl (loc_by (by kernel_rfl))), (dt_nm 30)⟩, fun _ _ _ _ _ => dts_nil, fun _ _ _ _ _ => (de_cmp (op_eqD hr.units) rule_eq (fp (de_op op_modN rule_mod (dp_nm 2 rfl (vis_by (by kernel_rfl))) (fp (de_ix rfl (dp_nm 30 rfl (vis_by (by kernel_rfl))) (fp de_int) (fun _ _ => rfl))))) (fp de_int) (nomark _))⟩)) dp_nil))) rfl (by intro _; rfl))), fun _ _ _ _ _ => (de_sh 2 rfl (vis_by (by kernel_rfl)))⟩)) (fp de_int) (fun _ _ => rfl)))
  (dss_cons (ds_if (PW.pt (dw_or (dt_cmp (op_neD hr.units) rule_ne (fp (de_call mo (fd_comes_again E) (by decide) (gl_by (by kernel_rfl)) (da_cons (de_sh 3 rfl (vis_by (by kernel_rfl))) da_nil))) (dp_nm 10 rfl (vis_by (by kernel_rfl))) (nomark _)) (dw_or (dt_cmp (op_neD hr.units) rule_ne (fp (de_call mo (fd_common E) (by decide) (gl_by (by kernel_rfl)) (da_cons (of (do_lc (own := [("one", 30)]) rfl rfl sc_law.nd (di_seq rfl (de_sh 3 rfl (vis_by (by kernel_rfl)))) ⟨blkOk_by (N := n_law) (sc := (defScope s_law)) (own := [("one", 30)]) (by decide +kernel), ⟨_, _, by decide, fun _ _ _ _ _ => (pg_name sc_law.nd rfl (loc_by (by kernel_rfl))), (dt_nm 30)⟩, fun _ _ _ _ _ => dts_nil, fun _ _ _ _ _ => (de_ix rfl (dp_nm 30 rfl (vis_by (by kernel_rfl))) (fp de_int) (fun _ _ => rfl))⟩)) da_nil))) (dp_nm 10 rfl (vis_by (by kernel_rfl))) (nomark _)) (dw_or1 (dt_cmp (op_neD hr.units) rule_ne (fp (de_call mo (fd_common E) (by decide) (gl_by (by kernel_rfl)) (da_cons (of (dt_lstO da_nil)) da_nil))) (fp de_int) (nomark _)))))) (dss_one (ds_ret de_bl)) dss_nil)
  (dss_cons (ds_set 11 sc_law.nd rfl (loc_by (by kernel_rfl)) (de_callB (cr_maxC rfl) rule_max (gl_by (by kernel_rfl)) E.z_max (by decide +kernel) (dp_cons (fp (de_op op_addV rule_addV (op (dt_lstO (da_cons (de_sh 4 rfl (vis_by (by kernel_rfl))) da_nil))) (op (do_lc (own := [("one", 30)]) rfl rfl sc_law.nd (di_seq rfl (de_sh 3 rfl (vis_by (by kernel_rfl)))) ⟨blkOk_by (N := n_law) (sc := (defScope s_law)) (own := [("one", 30)]) (by decide +kernel), ⟨_, _, by decide, fun _ _ _ _ _ => (pg_name sc_law.nd rfl (loc_by (by kernel_rfl))), (dt_nm 30)⟩, fun _ _ _ _ _ => dts_nil, fun _ _ _ _ _ => (de_ix rfl (dp_nm 30 rfl (vis_by (by kernel_rfl))) (fp de_int) (fun _ _ => rfl))⟩)))) dp_nil)))
  (dss_cons (ds_setLc (own := [("k", 2)]) rfl rfl sc_law.nd rfl rfl (sw_true rfl rfl rfl (by decide +kernel)) (di_rng2 (gl_by (by kernel_rfl)) E.z_range (da_cons (de_sh 11 rfl (vis_by (by kernel_rfl))) (da_cons (de_op op_addV rule_addV (dp_nm 11 rfl (vis_by (by kernel_rfl))) (dp_nm 10 rfl (vis_by (by kernel_rfl)))) da_nil))) ⟨blkOk_by (N := n_law) (sc := (defScope s_law)) (own := [("k", 2)]) (by decide +kernel), ⟨_, _, by decide, fun _ _ _ _ _ => (pg_name sc_law.nd rfl (loc_by (by kernel_rfl))), (dt_nm 2)⟩, fun _ _ _ _ _ => (dts_one (dt_truth (fp (de_callB (cr_all rfl) rule_all (gl_by (by kernel_rfl)) E.z_all (by decide +kernel) (dp_cons (op (do_lc (own := [("one", 30)]) rfl rfl sc_law.nd (di_seq rfl (de_sh 3 rfl (vis_by (by kernel_rfl)))) ⟨blkOk_by (N := n_law) (sc := (relS _ (defScope s_law))) (own := [("one", 30)]) (by decide +kernel), ⟨_, _, by decide, fun _ _ _ _ _ => (pg_name sc_law.nd rfl (loc_by (by kernel_rfl))), (dt_nm 30)⟩, fun _ _ _ _ _ => dts_nil, fun _ _ _ _ _ => (de_cmp (op_eqD hr.units) rule_eq (fp (de_op op_modN rule_mod (fp (de_op op_subV rule_sub (dp_nm 2 rfl (vis_by (by kernel_rfl))) (fp (de_ix rfl (dp_nm 30 rfl (vis_by (by kernel_rfl))) (fp de_int) (fun _ _ => rfl))))) (fp (de_ix rfl (dp_nm 30 rfl (vis_by (by kernel_rfl))) (fp de_int) (fun _ _ => rfl))))) (fp de_int) (nomark _))⟩)) dp_nil))) rfl (by intro _; rfl))), fun _ _ _ _ _ => (de_sh 2 rfl (vis_by (by kernel_rfl)))⟩)
  (dss_cons (ds_if (dt_cmp (op_neD hr.units) rule_ne (fp (de_call mo (fd_meet_at E) (by decide) (gl_by (by kernel_rfl)) (da_cons (de_sh 3 rfl (vis_by (by kernel_rfl))) (da_cons (de_sh 4 rfl (vis_by (by kernel_rfl))) da_nil)))) (fp (de_ifF (dt_cmp op_gt rule_gt (fp (de_callB cr_len rule_len (gl_by (by kernel_rfl)) E.z_len (by decide +kernel) (dp_cons (dp_nm 12 rfl (vis_by (by kernel_rfl))) dp_nil))) (fp de_int) (nomark _)) (de_ix rfl (dp_nm 12 rfl (vis_by (by kernel_rfl))) (fp de_int) (fun _ _ => rfl)) de_non)) (nomark _)) (dss_one (ds_ret de_bl)) dss_nil)
  (dss_cons (ds_set 13 sc_law.nd rfl (loc_by (by kernel_rfl)) (of (do_lc (own := [("one", 30)]) rfl rfl sc_law.nd (di_seq rfl (de_sh 3 rfl (vis_by (by kernel_rfl)))) ⟨blkOk_by (N := n_law) (sc := (defScope s_law)) (own := [("one", 30)]) (by decide +kernel), ⟨_, _, by decide, fun _ _ _ _ _ => (pg_name sc_law.nd rfl (loc_by (by kernel_rfl))), (dt_nm 30)⟩, fun _ _ _ _ _ => dts_nil, fun _ _ _ _ _ => (de_callTy call_tuple_of rule_tupleC (gl_by (by kernel_rfl)) E.z_tuple (by decide +kernel) (dp_cons (op (de_sortset rfl (gl_by (by kernel_rfl)) E.z_sorted (by decide +kernel) (gl_by (by kernel_rfl)) E.z_set (op (do_lc (own := [("k", 2)]) rfl rfl sc_law.nd (di_rng1 (gl_by (by kernel_rfl)) E.z_range (da_cons (de_next (i := 1) mo.q (fn_next E) (by decide) ⟨_, rfl⟩ hR (gl_by (by kernel_rfl)) rfl (vis_by (by kernel_rfl)) de_int) da_nil)) ⟨blkOk_by (N := n_law) (sc := (relS _ (defScope s_law))) (own := [("k", 2)]) (by decide +kernel), ⟨_, _, by decide, fun _ _ _ _ _ => (pg_name sc_law.nd rfl (loc_by (by kernel_rfl))), (dt_nm 2)⟩, fun _ _ _ _ _ => dts_nil, fun _ _ _ _ _ => (de_op op_addV rule_addV (fp de_int) (fp (de_next (i := 1) mo.q.q (fn_next E) (by decide) ⟨_, rfl⟩ hR (gl_by (by kernel_rfl)) rfl (vis_by (by kernel_rfl)) (de_ix rfl (dp_nm 30 rfl (vis_by (by kernel_rfl))) (fp de_int) (fun _ _ => rfl)))))⟩)))) dp_nil))⟩)))
  (dss_cons (ds_set 14 sc_law.nd rfl (loc_by (by kernel_rfl)) (de_op op_addV rule_addV (dp_nm 4 rfl (vis_by (by kernel_rfl))) (fp (de_next (i := 1) mo (fn_next E) (by decide) ⟨_, rfl⟩ hR (gl_by (by kernel_rfl)) rfl (vis_by (by kernel_rfl)) de_int))))
  (dss_cons (ds_set 15 sc_law.nd rfl (loc_by (by kernel_rfl)) (of (dt_lstO da_nil)))
  (dss_cons (ds_for rfl hp rfl (di_rng2 (gl_by (by kernel_rfl)) E.z_range (da_cons (de_sh 4 rfl (vis_by (by kernel_rfl))) (da_cons (de_op op_addV rule_addV (dp_nm 14 rfl (vis_by (by kernel_rfl))) (fp de_int)) da_nil))) (pg_name sc_law.nd rfl (loc_by (by kernel_rfl))) (dt_nm 2) (dss_cons (ds_setLc (own := [("j", 31)]) rfl rfl sc_law.nd rfl rfl (sw_true rfl rfl rfl (by decide +kernel)) (di_rng1 (gl_by (by kernel_rfl)) E.z_range (da_cons (de_callB cr_len rule_len (gl_by (by kernel_rfl)) E.z_len (by decide +kernel) (dp_cons (dp_nm 3 rfl (vis_by (by kernel_rfl))) dp_nil)) da_nil)) ⟨blkOk_by (N := n_law) (sc := (defScope s_law)) (own := [("j", 31)]) (by decide +kernel), ⟨_, _, by decide, fun _ _ _ _ _ => (pg_name sc_law.nd rfl (loc_by (by kernel_rfl))), (dt_nm 31)⟩, fun _ _ _ _ _ => (dts_one (dt_cmp (op_inV (hu65 hr)) rule_in (fp (de_call mo.q (fd__law_shown E) (by decide) (gl_by (by kernel_rfl)) (da_cons (de_ix rfl (dp_nm 3 rfl (vis_by (by kernel_rfl))) (dp_nm 31 rfl (vis_by (by kernel_rfl))) (fun _ _ => rfl)) (da_cons (de_sh 2 rfl (vis_by (by kernel_rfl))) da_nil)))) (fp (de_ix rfl (dp_nm 13 rfl (vis_by (by kernel_rfl))) (dp_nm 31 rfl (vis_by (by kernel_rfl))) (fun _ _ => rfl))) (by rfl))), fun _ _ _ _ _ => (de_sh 31 rfl (vis_by (by kernel_rfl)))⟩)
  (dss_one (ds_set 15 sc_law.nd rfl (loc_by (by kernel_rfl)) (de_op op_addV rule_addV (dp_nm 15 rfl (vis_by (by kernel_rfl))) (fp (de_op op_mulV rule_mul (op (dt_lstO (da_cons (dt_tup (da_cons (de_sh 2 rfl (vis_by (by kernel_rfl))) (da_cons (de_sh 16 rfl (vis_by (by kernel_rfl))) da_nil))) da_nil))) (fp (de_callTy call_int1 rule_int1 (gl_by (by kernel_rfl)) E.z_int (by decide +kernel) (dp_cons (fp (de_cmp op_gt rule_gt (fp (de_callB cr_len rule_len (gl_by (by kernel_rfl)) E.z_len (by decide +kernel) (dp_cons (dp_nm 16 rfl (vis_by (by kernel_rfl))) dp_nil))) (fp de_int) (nomark _))) dp_nil))))))))))
  (dss_cons (ds_set 17 sc_law.nd rfl (loc_by (by kernel_rfl)) (de_callB (cr_maxC rfl) rule_max (gl_by (by kernel_rfl)) E.z_max (by decide +kernel) (dp_cons (fp (de_op op_addV rule_addV (op (do_lc (own := [("k", 2), ("some", 16)]) rfl rfl sc_law.nd (di_seq rfl (de_sh 15 rfl (vis_by (by kernel_rfl)))) ⟨blkOk_by (N := n_law) (sc := (defScope s_law)) (own := [("k", 2), ("some", 16)]) (by decide +kernel), ⟨_, _, by decide, fun _ _ _ _ _ => (pg_tup rfl (pgs_cons (pg_name sc_law.nd rfl (loc_by (by kernel_rfl))) (pgs_cons (pg_name sc_law.nd rfl (loc_by (by kernel_rfl))) pgs_nil))), (dt_tp rfl (dtl_cons (dt_nm 2) (dtl_cons (dt_nm 16) dtl_nil)))⟩, fun _ _ _ _ _ => dts_nil, fun _ _ _ _ _ => (de_callB cr_len rule_len (gl_by (by kernel_rfl)) E.z_len (by decide +kernel) (dp_cons (dp_nm 16 rfl (vis_by (by kernel_rfl))) dp_nil))⟩)) (op (dt_lstO (da_cons de_int da_nil))))) dp_nil)))
  (dss_cons (ds_if (PW.pt (dw_or (dt_cmp (op_neD hr.units) rule_ne (fp (de_call mo (fd_busy_rows E) (by decide) (gl_by (by kernel_rfl)) (da_cons (de_sh 3 rfl (vis_by (by kernel_rfl))) (da_cons (de_sh 13 rfl (vis_by (by kernel_rfl))) (da_cons (de_sh 4 rfl (vis_by (by kernel_rfl))) (da_cons (de_sh 14 rfl (vis_by (by kernel_rfl))) da_nil)))))) (dp_nm 15 rfl (vis_by (by kernel_rfl))) (nomark _)) (dw_or1 (dt_cmp (op_neD hr.units) rule_ne (fp (de_call mo (fd_busiest E) (by decide) (gl_by (by kernel_rfl)) (da_cons (de_sh 3 rfl (vis_by (by kernel_rfl))) (da_cons (de_sh 13 rfl (vis_by (by kernel_rfl))) (da_cons (de_sh 4 rfl (vis_by (by kernel_rfl))) (da_cons (de_sh 14 rfl (vis_by (by kernel_rfl))) da_nil)))))) (fp (de_ifF (dt_cmp op_gt rule_gt (fp (de_callB cr_len rule_len (gl_by (by kernel_rfl)) E.z_len (by decide +kernel) (dp_cons (dp_nm 15 rfl (vis_by (by kernel_rfl))) dp_nil))) (fp de_int) (nomark _)) (de_ix rfl (op (do_lc (own := [("k", 2), ("some", 16)]) rfl rfl sc_law.nd (di_seq rfl (de_sh 15 rfl (vis_by (by kernel_rfl)))) ⟨blkOk_by (N := n_law) (sc := (defScope s_law)) (own := [("k", 2), ("some", 16)]) (by decide +kernel), ⟨_, _, by decide, fun _ _ _ _ _ => (pg_tup rfl (pgs_cons (pg_name sc_law.nd rfl (loc_by (by kernel_rfl))) (pgs_cons (pg_name sc_law.nd rfl (loc_by (by kernel_rfl))) pgs_nil))), (dt_tp rfl (dtl_cons (dt_nm 2) (dtl_cons (dt_nm 16) dtl_nil)))⟩, fun _ _ _ _ _ => (dts_one (dt_cmp (op_eqD hr.units) rule_eq (fp (de_callB cr_len rule_len (gl_by (by kernel_rfl)) E.z_len (by decide +kernel) (dp_cons (dp_nm 16 rfl (vis_by (by kernel_rfl))) dp_nil))) (dp_nm 17 rfl (vis_by (by kernel_rfl))) (nomark _))), fun _ _ _ _ _ => (dt_tup (da_cons (de_sh 2 rfl (vis_by (by kernel_rfl))) (da_cons (de_sh 17 rfl (vis_by (by kernel_rfl))) da_nil)))⟩)) (fp de_int) (fun _ _ => rfl)) de_non)) (nomark _))))) (dss_one (ds_ret de_bl)) dss_nil)
  (dss_cons (ds_set 18 sc_law.nd rfl (loc_by (by kernel_rfl)) (of (do_lc (own := [("one", 30)]) rfl rfl sc_law.nd (di_seq rfl (de_sh 6 rfl (vis_by (by kernel_rfl)))) ⟨blkOk_by (N := n_law) (sc := (defScope s_law)) (own := [("one", 30)]) (by decide +kernel), ⟨_, _, by decide, fun _ _ _ _ _ => (pg_name sc_law.nd rfl (loc_by (by kernel_rfl))), (dt_nm 30)⟩, fun _ _ _ _ _ => dts_nil, fun _ _ _ _ _ => (de_ifF (dt_cmp (op_eqD hr.units) rule_eq (fp (de_next (i := 1) mo.q (fn_next E) (by decide) ⟨_, rfl⟩ hR (gl_by (by kernel_rfl)) rfl (vis_by (by kernel_rfl)) de_int)) (fp de_int) (nomark _)) (de_sh 30 rfl (vis_by (by kernel_rfl))) de_non)⟩)))
  (dss_cons (ds_setLc (own := [("k", 2)]) rfl rfl sc_law.nd rfl rfl (sw_true rfl rfl rfl (by decide +kernel)) (di_rng2 (gl_by (by kernel_rfl)) E.z_range (da_cons de_int (da_cons de_int da_nil))) ⟨blkOk_by (N := n_law) (sc := (defScope s_law)) (own := [("k", 2)]) (by decide +kernel), ⟨_, _, by decide, fun _ _ _ _ _ => (pg_name sc_law.nd rfl (loc_by (by kernel_rfl))), (dt_nm 2)⟩, fun _ _ _ _ _ => dts_nil, fun _ _ _ _ _ => (dt_tup (da_cons (de_sh 2 rfl (vis_by (by kernel_rfl))) (da_cons (of (do_lc (own := [("one", 30)]) rfl rfl sc_law.nd (di_seq rfl (de_sh 3 rfl (vis_by (by kernel_rfl)))) ⟨blkOk_by (N := n_law) (sc := (relS _ (defScope s_law))) (own := [("one", 30)]) (by decide +kernel), ⟨_, _, by decide, fun _ _ _ _ _ => (pg_name sc_law.nd rfl (loc_by (by kernel_rfl))), (dt_nm 30)⟩, fun _ _ _ _ _ => dts_nil, fun _ _ _ _ _ => (de_call mo.q.q (fd__law_shown E) (by decide) (gl_by (by kernel_rfl)) (da_cons (de_sh 30 rfl (vis_by (by kernel_rfl))) (da_cons (de_sh 2 rfl (vis_by (by kernel_rfl))) da_nil)))⟩)) da_nil)))⟩)
  (dss_cons (ds_if (PW.pt (dw_or (dt_cmp (op_neD hr.units) rule_ne (fp (de_call mo (fd_from_rows E) (by decide) (gl_by (by kernel_rfl)) (da_cons (de_sh 3 rfl (vis_by (by kernel_rfl))) (da_cons (de_sh 6 rfl (vis_by (by kernel_rfl))) (da_cons de_int da_nil))))) (op (do_lc (own := [("k", 2), ("places", 32)]) rfl rfl sc_law.nd (di_seq rfl (de_sh 19 rfl (vis_by (by kernel_rfl)))) ⟨blkOk_by (N := n_law) (sc := (defScope s_law)) (own := [("k", 2), ("places", 32)]) (by decide +kernel), ⟨_, _, by decide, fun _ _ _ _ _ => (pg_tup rfl (pgs_cons (pg_name sc_law.nd rfl (loc_by (by kernel_rfl))) (pgs_cons (pg_name sc_law.nd rfl (loc_by (by kernel_rfl))) pgs_nil))), (dt_tp rfl (dtl_cons (dt_nm 2) (dtl_cons (dt_nm 32) dtl_nil)))⟩, fun _ _ _ _ _ => (dts_one (dt_cmp (op_eqD hr.units) rule_eq (dp_nm 32 rfl (vis_by (by kernel_rfl))) (dp_nm 6 rfl (vis_by (by kernel_rfl))) (nomark _))), fun _ _ _ _ _ => (de_sh 2 rfl (vis_by (by kernel_rfl)))⟩)) (nomark _)) (dw_or1 (dt_cmp (op_ninV (hu65 hr)) rule_nin (dp_nm 4 rfl (vis_by (by kernel_rfl))) (fp (de_call mo (fd_from_rows E) (by decide) (gl_by (by kernel_rfl)) (da_cons (de_sh 3 rfl (vis_by (by kernel_rfl))) (da_cons (de_sh 6 rfl (vis_by (by kernel_rfl))) (da_cons de_int da_nil))))) (by rfl))))) (dss_one (ds_ret de_bl)) dss_nil)
  (dss_cons (ds_if (dt_cmp (op_neD hr.units) rule_ne (fp (de_call mo (fd_may_be_at E) (by decide) (gl_by (by kernel_rfl)) (da_cons (de_sh 3 rfl (vis_by (by kernel_rfl))) (da_cons (de_sh 18 rfl (vis_by (by kernel_rfl))) (da_cons de_int da_nil))))) (op (do_lc (own := [("k", 2), ("places", 32)]) rfl rfl sc_law.nd (di_seq rfl (de_sh 19 rfl (vis_by (by kernel_rfl)))) ⟨blkOk_by (N := n_law) (sc := (defScope s_law)) (own := [("k", 2), ("places", 32)]) (by decide +kernel), ⟨_, _, by decide, fun _ _ _ _ _ => (pg_tup rfl (pgs_cons (pg_name sc_law.nd rfl (loc_by (by kernel_rfl))) (pgs_cons (pg_name sc_law.nd rfl (loc_by (by kernel_rfl))) pgs_nil))), (dt_tp rfl (dtl_cons (dt_nm 2) (dtl_cons (dt_nm 32) dtl_nil)))⟩, fun _ _ _ _ _ => (dts_one (dt_truth (fp (de_callB (cr_all rfl) rule_all (gl_by (by kernel_rfl)) E.z_all (by decide +kernel) (dp_cons (op (do_lc (own := [("j", 31)]) rfl rfl sc_law.nd (di_rng1 (gl_by (by kernel_rfl)) E.z_range (da_cons (de_callB cr_len rule_len (gl_by (by kernel_rfl)) E.z_len (by decide +kernel) (dp_cons (dp_nm 3 rfl (vis_by (by kernel_rfl))) dp_nil)) da_nil)) ⟨blkOk_by (N := n_law) (sc := (relS _ (defScope s_law))) (own := [("j", 31)]) (by decide +kernel), ⟨_, _, by decide, fun _ _ _ _ _ => (pg_name sc_law.nd rfl (loc_by (by kernel_rfl))), (dt_nm 31)⟩, fun _ _ _ _ _ => dts_nil, fun _ _ _ _ _ => (de_or (de_cmp op_isV rule_is (fp (de_ix rfl (dp_nm 18 rfl (vis_by (by kernel_rfl))) (dp_nm 31 rfl (vis_by (by kernel_rfl))) (fun _ _ => rfl))) (fp de_non) (nomark _)) (de_one (de_cmp (op_eqD hr.units) rule_eq (fp (de_ix rfl (dp_nm 18 rfl (vis_by (by kernel_rfl))) (dp_nm 31 rfl (vis_by (by kernel_rfl))) (fun _ _ => rfl))) (fp (de_ix rfl (dp_nm 32 rfl (vis_by (by kernel_rfl))) (dp_nm 31 rfl (vis_by (by kernel_rfl))) (fun _ _ => rfl))) (nomark _))))⟩)) dp_nil))) rfl (by intro _; rfl))), fun _ _ _ _ _ => (de_sh 2 rfl (vis_by (by kernel_rfl)))⟩)) (nomark _)) (dss_one (ds_ret de_bl)) dss_nil)
  (dss_cons (ds_set 20 sc_law.nd rfl (loc_by (by kernel_rfl)) (of (do_lc (own := [("k", 2)]) rfl rfl sc_law.nd (di_rng1 (gl_by (by kernel_rfl)) E.z_range (da_cons (de_op op_addV rule_addV (fp de_int) (fp (de_next (i := 1) mo (fn_next E) (by decide) ⟨_, rfl⟩ hR (gl_by (by kernel_rfl)) rfl (vis_by (by kernel_rfl)) de_int))) da_nil)) ⟨blkOk_by (N := n_law) (sc := (defScope s_law)) (own := [("k", 2)]) (by decide +kernel), ⟨_, _, by decide, fun _ _ _ _ _ => (pg_name sc_law.nd rfl (loc_by (by kernel_rfl))), (dt_nm 2)⟩, fun _ _ _ _ _ => dts_nil, fun _ _ _ _ _ => (de_op op_addV rule_addV (fp de_int) (fp (de_next (i := 1) mo.q (fn_next E) (by decide) ⟨_, rfl⟩ hR (gl_by (by kernel_rfl)) rfl (vis_by (by kernel_rfl)) de_int)))⟩)))
  (dss_cons (ds_setLc (own := [("k", 2)]) rfl rfl sc_law.nd rfl rfl (sw_true rfl rfl rfl (by decide +kernel)) (di_rng2 (gl_by (by kernel_rfl)) E.z_range (da_cons (de_sh 4 rfl (vis_by (by kernel_rfl))) (da_cons (de_op op_addV rule_addV (dp_nm 14 rfl (vis_by (by kernel_rfl))) (fp de_int)) da_nil))) ⟨blkOk_by (N := n_law) (sc := (defScope s_law)) (own := [("k", 2)]) (by decide +kernel), ⟨_, _, by decide, fun _ _ _ _ _ => (pg_name sc_law.nd rfl (loc_by (by kernel_rfl))), (dt_nm 2)⟩, fun _ _ _ _ _ => dts_nil, fun _ _ _ _ _ => (de_ix rfl (dp_nm 20 rfl (vis_by (by kernel_rfl))) (fp (de_op op_modN rule_mod (fp (de_op op_subV rule_sub (dp_nm 2 rfl (vis_by (by kernel_rfl))) (fp de_int))) (fp (de_callB cr_len rule_len (gl_by (by kernel_rfl)) E.z_len (by decide +kernel) (dp_cons (dp_nm 20 rfl (vis_by (by kernel_rfl))) dp_nil))))) (fun _ _ => rfl))⟩)
  (dss_cons (ds_set 22 sc_law.nd rfl (loc_by (by kernel_rfl)) (de_next (i := 1) mo (fn_next E) (by decide) ⟨_, rfl⟩ hR (gl_by (by kernel_rfl)) rfl (vis_by (by kernel_rfl)) de_int))
  (dss_cons (ds_setLc (own := [("k", 2)]) rfl rfl sc_law.nd rfl rfl (sw_true rfl rfl rfl (by decide +kernel)) (di_rng1 (gl_by (by kernel_rfl)) E.z_range (da_cons de_int da_nil)) ⟨blkOk_by (N := n_law) (sc := (defScope s_law)) (own := [("k", 2)]) (by decide +kernel), ⟨_, _, by decide, fun _ _ _ _ _ => (pg_name sc_law.nd rfl (loc_by (by kernel_rfl))), (dt_nm 2)⟩, fun _ _ _ _ _ => (dts_one (dt_cmp op_le rule_le (fp (de_callB (cr_sum rfl) rule_sum (gl_by (by kernel_rfl)) E.z_sum (by decide +kernel) (dp_cons (op (do_lc (own := [("j", 31)]) rfl rfl sc_law.nd (di_rng1 (gl_by (by kernel_rfl)) E.z_range (da_cons (de_sh 2 rfl (vis_by (by kernel_rfl))) da_nil)) ⟨blkOk_by (N := n_law) (sc := (relS _ (defScope s_law))) (own := [("j", 31)]) (by decide +kernel), ⟨_, _, by decide, fun _ _ _ _ _ => (pg_name sc_law.nd rfl (loc_by (by kernel_rfl))), (dt_nm 31)⟩, fun _ _ _ _ _ => dts_nil, fun _ _ _ _ _ => (de_ix rfl (dp_nm 20 rfl (vis_by (by kernel_rfl))) (fp (de_op op_modN rule_mod (fp (de_op op_subV rule_sub (fp (de_op op_addV rule_addV (dp_nm 4 rfl (vis_by (by kernel_rfl))) (dp_nm 31 rfl (vis_by (by kernel_rfl))))) (fp de_int))) (fp (de_callB cr_len rule_len (gl_by (by kernel_rfl)) E.z_len (by decide +kernel) (dp_cons (dp_nm 20 rfl (vis_by (by kernel_rfl))) dp_nil))))) (fun _ _ => rfl))⟩)) dp_nil))) (dp_nm 22 rfl (vis_by (by kernel_rfl))) (nomark _))), fun _ _ _ _ _ => (de_sh 2 rfl (vis_by (by kernel_rfl)))⟩)
  (dss_cons (ds_if (PW.pt (dw_or (dt_cmp (op_neD hr.units) rule_ne (fp (de_call mo (fd_time_left E) (by decide) (gl_by (by kernel_rfl)) (da_cons (de_sh 4 rfl (vis_by (by kernel_rfl))) (da_cons (de_sh 14 rfl (vis_by (by kernel_rfl))) (da_cons (de_sh 20 rfl (vis_by (by kernel_rfl))) da_nil))))) (fp (de_callB (cr_sum rfl) rule_sum (gl_by (by kernel_rfl)) E.z_sum (by decide +kernel) (dp_cons (dp_nm 21 rfl (vis_by (by kernel_rfl))) dp_nil))) (nomark _)) (dw_or1 (dt_cmp (op_neD hr.units) rule_ne (fp (de_call mo (fd_done_by E) (by decide) (gl_by (by kernel_rfl)) (da_cons (de_sh 4 rfl (vis_by (by kernel_rfl))) (da_cons (de_sh 20 rfl (vis_by (by kernel_rfl))) (da_cons (de_sh 22 rfl (vis_by (by kernel_rfl))) da_nil))))) (fp (de_op op_subV rule_sub (fp (de_op op_addV rule_addV (dp_nm 4 rfl (vis_by (by kernel_rfl))) (fp (de_callB (cr_maxC rfl) rule_max (gl_by (by kernel_rfl)) E.z_max (by decide +kernel) (dp_cons (dp_nm 23 rfl (vis_by (by kernel_rfl))) dp_nil))))) (fp de_int))) (nomark _))))) (dss_one (ds_ret de_bl)) dss_nil)
  (dss_cons (ds_setLc (own := [("k", 2)]) rfl rfl sc_law.nd rfl rfl (sw_true rfl rfl rfl (by decide +kernel)) (di_rng1 (gl_by (by kernel_rfl)) E.z_range (da_cons (de_next (i := 1) mo (fn_next E) (by decide) ⟨_, rfl⟩ hR (gl_by (by kernel_rfl)) rfl (vis_by (by kernel_rfl)) de_int) da_nil)) ⟨blkOk_by (N := n_law) (sc := (defScope s_law)) (own := [("k", 2)]) (by decide +kernel), ⟨_, _, by decide, fun _ _ _ _ _ => (pg_name sc_law.nd rfl (loc_by (by kernel_rfl))), (dt_nm 2)⟩, fun _ _ _ _ _ => dts_nil, fun _ _ _ _ _ => (de_ix rfl (op (dt_lstO (da_cons de_str (da_cons de_str (da_cons de_str da_nil))))) (fp (de_op op_fdivN rule_fdiv (fp (de_next (i := 1) mo.q (fn_next E) (by decide) ⟨_, rfl⟩ hR (gl_by (by kernel_rfl)) rfl (vis_by (by kernel_rfl)) de_int)) (fp de_int))) (fun _ _ => rfl))⟩)
  (dss_cons (ds_set 25 sc_law.nd rfl (loc_by (by kernel_rfl)) de_int)
  (dss_cons (ds_for rfl hp rfl (di_seq rfl (de_sh 24 rfl (vis_by (by kernel_rfl)))) (pg_name sc_law.nd rfl (loc_by (by kernel_rfl))) (dt_nm 26) (dss_one (ds_set 25 sc_law.nd rfl (loc_by (by kernel_rfl)) (de_ifF (dt_cmp (op_eqD hr.units) rule_eq (dp_nm 26 rfl (vis_by (by kernel_rfl))) (fp de_str) (nomark _)) (de_op op_addV rule_addV (dp_nm 25 rfl (vis_by (by kernel_rfl))) (fp de_int)) (de_ifF (dt_cmp (op_eqD hr.units) rule_eq (dp_nm 26 rfl (vis_by (by kernel_rfl))) (fp de_str) (nomark _)) (de_callB (cr_maxC rfl) rule_max (gl_by (by kernel_rfl)) E.z_max (by decide +kernel) (dp_cons (fp de_int) (dp_cons (fp (de_op op_subV rule_sub (dp_nm 25 rfl (vis_by (by kernel_rfl))) (fp de_int))) dp_nil))) de_int)))))
  (dss_cons (ds_if (dt_cmp (op_neD hr.units) rule_ne (fp (de_call mo (fd_ticks E) (by decide) (gl_by (by kernel_rfl)) (da_cons (de_sh 24 rfl (vis_by (by kernel_rfl))) da_nil))) (dp_nm 25 rfl (vis_by (by kernel_rfl))) (nomark _)) (dss_one (ds_ret de_bl)) dss_nil)
  (dss_cons (ds_set 27 sc_law.nd rfl (loc_by (by kernel_rfl)) (de_next (i := 1) mo (fn_next E) (by decide) ⟨_, rfl⟩ hR (gl_by (by kernel_rfl)) rfl (vis_by (by kernel_rfl)) de_int))
  (dss_cons (ds_set 28 sc_law.nd rfl (loc_by (by kernel_rfl)) (de_join rfl de_str (fp (de_op op_addV rule_addV (fp (de_op op_mulV rule_mul (op (dt_lstO (da_cons de_str da_nil))) (fp (de_op op_fdivN rule_fdiv (dp_nm 27 rfl (vis_by (by kernel_rfl))) (fp de_int))))) (fp (de_op op_mulV rule_mul (op (dt_lstO (da_cons (de_op op_mulV rule_mul (fp de_str) (fp (de_op op_modN rule_mod (dp_nm 27 rfl (vis_by (by kernel_rfl))) (fp de_int)))) da_nil))) (fp (de_callTy call_int1 rule_int1 (gl_by (by kernel_rfl)) E.z_int (by decide +kernel) (dp_cons (fp (de_cmp op_gt rule_gt (fp (de_op op_modN rule_mod (dp_nm 27 rfl (vis_by (by kernel_rfl))) (fp de_int))) (fp de_int) (nomark _))) dp_nil)))))))))
  (dss_cons (ds_if (PW.pt (dw_or (dt_cmp (op_neD hr.units) rule_ne (fp (de_call mo (fd_tally E) (by decide) (gl_by (by kernel_rfl)) (da_cons (de_sh 27 rfl (vis_by (by kernel_rfl))) da_nil))) (dp_nm 28 rfl (vis_by (by kernel_rfl))) (nomark _)) (dw_or (dt_cmp (op_neD hr.units) rule_ne (fp (de_call mo (fd__law_told E) (by decide) (gl_by (by kernel_rfl)) (da_cons de_int (da_cons (de_sh 28 rfl (vis_by (by kernel_rfl))) (da_cons de_non (da_cons de_non da_nil)))))) (dp_nm 27 rfl (vis_by (by kernel_rfl))) (nomark _)) (dw_or1 (dt_cmp (op_neD hr.units) rule_ne (fp (de_call mo (fd_tally E) (by decide) (gl_by (by kernel_rfl)) (da_cons de_int da_nil))) (fp de_str) (nomark _)))))) (dss_one (ds_ret de_bl)) dss_nil)
  (dss_cons (ds_if (dt_truth (fp (de_callB (cr_any rfl) rule_any (gl_by (by kernel_rfl)) E.z_any (by decide +kernel) (dp_cons (op (do_lc (own := [("wrong", 33)]) rfl rfl sc_law.nd (di_seq rfl (of (dt_lstO (da_cons de_str (da_cons de_str (da_cons de_str (da_cons de_str (da_cons de_str da_nil)))))))) ⟨blkOk_by (N := n_law) (sc := (defScope s_law)) (own := [("wrong", 33)]) (by decide +kernel), ⟨_, _, by decide, fun _ _ _ _ _ => (pg_name sc_law.nd rfl (loc_by (by kernel_rfl))), (dt_nm 33)⟩, fun _ _ _ _ _ => dts_nil, fun _ _ _ _ _ => (de_cmp (op_neD hr.units) rule_ne (fp (de_call mo.q (fd__law_told E) (by decide) (gl_by (by kernel_rfl)) (da_cons de_int (da_cons (de_sh 33 rfl (vis_by (by kernel_rfl))) (da_cons de_non (da_cons de_non da_nil)))))) (fp de_str) (nomark _))⟩)) dp_nil))) rfl (by intro _; rfl)) (dss_one (ds_ret de_bl)) dss_nil)
  (dss_cons (ds_set 29 sc_law.nd rfl (loc_by (by kernel_rfl)) (of (dt_lstO (da_cons (dt_tup (da_cons (dt_tup (da_cons de_int (da_cons de_int da_nil))) da_nil)) (da_cons (dt_tup da_nil) (da_cons (dt_tup (da_cons (dt_tup (da_cons de_int (da_cons de_int da_nil))) da_nil)) (da_cons (dt_tup (da_cons (dt_tup (da_cons de_int (da_cons de_int da_nil))) da_nil)) (da_cons (dt_tup (da_cons (dt_tup (da_cons de_int (da_cons de_int da_nil))) da_nil)) (da_cons (of (dt_lstO (da_cons (dt_tup (da_cons de_int (da_cons de_int da_nil))) da_nil))) (da_cons (dt_tup (da_cons (dt_tup (da_cons de_bl (da_cons de_int da_nil))) da_nil)) (da_cons (de_op op_mulV rule_mul (fp (dt_tup (da_cons (dt_tup (da_cons de_int (da_cons de_int da_nil))) da_nil))) (fp de_int)) (da_cons de_non da_nil))))))))))))
  (dss_one (ds_ret (de_cmp (op_eqD hr.units) rule_eq (op (do_lc (own := [("value", 34)]) rfl rfl sc_law.nd (di_seq rfl (de_sh 29 rfl (vis_by (by kernel_rfl)))) ⟨blkOk_by (N := n_law) (sc := (defScope s_law)) (own := [("value", 34)]) (by decide +kernel), ⟨_, _, by decide, fun _ _ _ _ _ => (pg_name sc_law.nd rfl (loc_by (by kernel_rfl))), (dt_nm 34)⟩, fun _ _ _ _ _ => dts_nil, fun _ _ _ _ _ => (de_call mo.q (fd_is_tracks E) (by decide) (gl_by (by kernel_rfl)) (da_cons (de_sh 34 rfl (vis_by (by kernel_rfl))) da_nil))⟩)) (fp (de_op op_addV rule_addV (op (dt_lstO (da_cons de_bl da_nil))) (fp (de_op op_mulV rule_mul (op (dt_lstO (da_cons de_bl da_nil))) (fp de_int))))) (nomark _)))))))))))))))))))))))))))))))))))))))))))
end
def fa_ : List He.Fa := He.Fa.free "all" :: He.Fa.free "any" :: He.Fa.free "bool" :: He.Fa.free "enumerate" :: He.Fa.free "int" :: He.Fa.free "isinstance" :: He.Fa.free "len" :: He.Fa.free "list" :: He.Fa.free "max" :: He.Fa.free "range" :: He.Fa.free "set" :: He.Fa.free "sorted" :: He.Fa.free "sum" :: He.Fa.free "tuple" :: He.Fa.free "zip" :: He.Fa.glo "_law_next" :: He.Fa.glo "_law_box" :: He.Fa.glo "is_tracks" :: He.Fa.glo "row_in" :: He.Fa.glo "rows_in" :: He.Fa.glo "repeats_done" :: He.Fa.glo "next_at" :: He.Fa.glo "common" :: He.Fa.glo "meet_at" :: He.Fa.glo "comes_again" :: He.Fa.glo "busy_rows" :: He.Fa.glo "busiest" :: He.Fa.glo "from_rows" :: He.Fa.glo "may_be_at" :: He.Fa.glo "time_left" :: He.Fa.glo "done_by" :: He.Fa.glo "ticks" :: He.Fa.glo "tally" :: He.Fa.glo "read_tally" :: He.Fa.glo "_law_draws" :: He.Fa.glo "_law_told" :: He.Fa.glo "_law_shown" :: He.Fa.glo "law" :: He.Fa.exc "KnittoldError" :: He.Fa.exc "NoSuchThing" :: He.Fa.glo "KnittoldError" :: He.Fa.glo "NoSuchThing" :: He.Fa.exm "NoSuchThing" "NoSuchThing" true :: ([] : List He.Fa)
def fn_ : List He.DefD := eD "_law_next" s__law_next :: eD "_law_box" s__law_box :: eD "is_tracks" s_is_tracks :: eD "row_in" s_row_in :: eD "rows_in" s_rows_in :: eD "repeats_done" s_repeats_done :: eD "next_at" s_next_at :: eD "common" s_common :: eD "meet_at" s_meet_at :: eD "comes_again" s_comes_again :: eD "busy_rows" s_busy_rows :: eD "busiest" s_busiest :: eD "from_rows" s_from_rows :: eD "may_be_at" s_may_be_at :: eD "time_left" s_time_left :: eD "done_by" s_done_by :: eD "ticks" s_ticks :: eD "tally" s_tally :: eD "read_tally" s_read_tally :: eD "_law_draws" s__law_draws :: eD "_law_told" s__law_told :: eD "_law_shown" s__law_shown :: eD "law" s_law :: ([] : List He.DefD)
def tf_ : List He.Defn := ("is_tracks", none) :: ("meet_at", none) :: ("may_be_at", none) :: ([] : List He.Defn)
def exs_ (K : PySem.W.Frag) : List Bool := excB K (He.ga K "KnittoldError") :: excB K (He.ga K "NoSuchThing") :: kitB1 K (He.ga K "NoSuchThing") (He.ga K "KnittoldError") :: ([] : List Bool)
def ex_ (K : PySem.W.Frag) : Bool := (exs_ K).all id
theorem top_of {K : PySem.W.Frag} {h base : Heap} {mg : Str → Option Value} {w : World} (X : K.In h) (G : h.Ns mainGlobals mg) (cx : He.SaysX fa_ fn_ [] tf_ ex_ w h K) (hT : ∀ p ∈ tf_.map (He.cT K), GxR.TabB base mg p.1 p.2) : Top K mg base ((tf_.map (He.cT K)).map (·.2)) :=
  have c := He.SaysT.d cx.t
  have he := cx.more
  { z_all := He.free_ok X G (c.fact 0 rfl)
    z_any := He.free_ok X G (c.fact 1 rfl)
    z_bool := He.free_ok X G (c.fact 2 rfl)
    z_enumerate := He.free_ok X G (c.fact 3 rfl)
    z_int := He.free_ok X G (c.fact 4 rfl)
    z_isinstance := He.free_ok X G (c.fact 5 rfl)
    z_len := He.free_ok X G (c.fact 6 rfl)
    z_list := He.free_ok X G (c.fact 7 rfl)
    z_max := He.free_ok X G (c.fact 8 rfl)
    z_range := He.free_ok X G (c.fact 9 rfl)
    z_set := He.free_ok X G (c.fact 10 rfl)
    z_sorted := He.free_ok X G (c.fact 11 rfl)
    z_sum := He.free_ok X G (c.fact 12 rfl)
    z_tuple := He.free_ok X G (c.fact 13 rfl)
    z_zip := He.free_ok X G (c.fact 14 rfl)
    t__law_next := topD_of X G c 0 15 rfl rfl
    t__law_box := topD_of X G c 1 16 rfl rfl
    t_is_tracks := topD_of X G c 2 17 rfl rfl
    t_row_in := topD_of X G c 3 18 rfl rfl
    t_rows_in := topD_of X G c 4 19 rfl rfl
    t_repeats_done := topD_of X G c 5 20 rfl rfl
    t_next_at := topD_of X G c 6 21 rfl rfl
    t_common := topD_of X G c 7 22 rfl rfl
    t_meet_at := topD_of X G c 8 23 rfl rfl
    t_comes_again := topD_of X G c 9 24 rfl rfl
    t_busy_rows := topD_of X G c 10 25 rfl rfl
    t_busiest := topD_of X G c 11 26 rfl rfl
    t_from_rows := topD_of X G c 12 27 rfl rfl
    t_may_be_at := topD_of X G c 13 28 rfl rfl
    t_time_left := topD_of X G c 14 29 rfl rfl
    t_done_by := topD_of X G c 15 30 rfl rfl
    t_ticks := topD_of X G c 16 31 rfl rfl
    t_tally := topD_of X G c 17 32 rfl rfl
    t_read_tally := topD_of X G c 18 33 rfl rfl
    t__law_draws := topD_of X G c 19 34 rfl rfl
    t__law_told := topD_of X G c 20 35 rfl rfl
    t__law_shown := topD_of X G c 21 36 rfl rfl
    t_law := topD_of X G c 22 37 rfl rfl
    tb_is_tracks := hT (He.cT K ("is_tracks", none)) (List.mem_map.mpr ⟨_, List.mem_of_getElem? (i := 0) rfl, rfl⟩)
    tm_is_tracks := List.mem_map.mpr ⟨He.cT K ("is_tracks", none), List.mem_map.mpr ⟨_, List.mem_of_getElem? (i := 0) rfl, rfl⟩, rfl⟩
    tb_meet_at := hT (He.cT K ("meet_at", none)) (List.mem_map.mpr ⟨_, List.mem_of_getElem? (i := 1) rfl, rfl⟩)
    tm_meet_at := List.mem_map.mpr ⟨He.cT K ("meet_at", none), List.mem_map.mpr ⟨_, List.mem_of_getElem? (i := 1) rfl, rfl⟩, rfl⟩
    tb_may_be_at := hT (He.cT K ("may_be_at", none)) (List.mem_map.mpr ⟨_, List.mem_of_getElem? (i := 2) rfl, rfl⟩)
    tm_may_be_at := List.mem_map.mpr ⟨He.cT K ("may_be_at", none), List.mem_map.mpr ⟨_, List.mem_of_getElem? (i := 2) rfl, rfl⟩, rfl⟩
    x_KnittoldError := He.exc_ok (c.fact 38 rfl)
    g_KnittoldError := He.glo_ok X G (c.fact 40 rfl)
    e_KnittoldError := excB_ok (all_at he 0 rfl)
    x_NoSuchThing := He.exc_ok (c.fact 39 rfl)
    g_NoSuchThing := He.glo_ok X G (c.fact 41 rfl)
    e_NoSuchThing := excB_ok (all_at he 1 rfl)
    m_NoSuchThing_NoSuchThing := He.exm_ok (c.fact 42 rfl)
    k_NoSuchThing_KnittoldError := of_decide_eq_true (all_at he 2 rfl) }
abbrev R_ : PySem.W.OpenRow := PySem.W.OpenLaw.row PySem.Challenge.rw_knittold_k18_counters_of_rows
noncomputable abbrev hk_ : PySem.W.Hook := He.hookX 5 fa_ fn_ [] tf_ ex_
noncomputable def ob_ (s : PySem.W.SharedT) : He.AlX := He.obsX 5 fa_ fn_ [] tf_ ex_ (HandSHeadRun.getT s)
theorem ob_eq_ (s : PySem.W.SharedT) : ob_ s = hk_.obs s.abs := He.obsX_eq (HandSHeadRun.getT_eq s)
def loose_ : List PySem.Str := "KnittoldError" :: "NoSuchThing" :: "is_tracks" :: "row_in" :: "rows_in" :: "repeats_done" :: "next_at" :: "meet_at" :: "common" :: "comes_again" :: "busy_rows" :: "busiest" :: "from_rows" :: "may_be_at" :: "time_left" :: "done_by" :: "ticks" :: "tally" :: "read_tally" :: "_law_draws" :: "_law_box" :: "_law_next" :: "_law_told" :: "_law_shown" :: ([] : List PySem.Str)
theorem run_ (w : World) : HandSHeadRun.RunEq R_ (PySem.W.view R_.prog [27]) hk_ ob_ 6000 loose_ w := by
  intro os
  kernel_rfl
theorem at_law (hd : DrawsOk f__law_draws) (pure : ∀ R, RGood R → ∃ m, d_law R (lawE 33) 0 = .ret (.bool true) m) {w : World} {mg : Str → Option Value} {fa : Addr} {h : Heap} (Y : hk_.says w h) (G : h.Ns mainGlobals mg) (hmg : mg ("law" : PySem.Str) = some (.ref fa)) :
    ∃ K : PySem.W.Frag, K.In h ∧ LamX.LawAtS PySem.Challenge.rw_knittold_k18_counters_of_rows w K (L2.CX (PySem.Challenge.rw_knittold_k18_counters_of_rows).prog w) 4 63 "script" mg fa h := by
  obtain ⟨K, X, cx⟩ := Y
  have c := He.SaysT.d cx.t
  refine ⟨K, X, lawAt_of (st := s_law) (by decide) X cx (topD_of X G c (fn_.length - 1) 37 rfl rfl) hmg (fun fdd F s u => (FunD.bindsA (ps := ["script"]) F fun _ _ _ _ _ _ us hl => match us, hl with | [_], _ => rfl) s [u] rfl) fun base fdd hT F => fn_law (top_of X G cx hT) hd pure F⟩
end K18
set_option Elab.async false
set_option linter.all false
set_option maxRecDepth 100000
set_option maxHeartbeats 4000000
namespace K18
open PySem DL
theorem draws_ok : DrawsOk f__law_draws := by
  intro c
  have key : ∀ N : Int, ∃ l : List Int, l.length = 6 ∧ runS ((seqS (ownS 4 (lstA nilA))
  (seqS (ifS (tst (bin geV (rdP 3) (bin powV (kM (.int 10)) (kM (.int 18))))) (seqS (forS (rngI rng1V (consA (rdS 2) nilA)) (bNm 5) (seqS (appS 4 (bin modV (callB intC (consA (rdP 3) nilA)) (rdP 1)))
  (setS 3 (bin fdivV (rdP 3) (rdP 1)))))
  (frzS 4 (retS (rdS 4)))) skip)
  (seqS (forS (rngI rng1V (consA (rdS 2) nilA)) (bNm 5) (seqS (setS 6 (bin modV (callB intC (consA (bin mulV (bin addV (bin addV (rdP 3) (bin mulV (kM (.int 7)) (rdP 5))) (kM (.int 1))) (kM (.int 48271))) nilA)) (kM (.int 2147483647))))
  (seqS (setS 6 (bin modV (callB intC (consA (bin addV (bin mulV (rdP 6) (kM (.int 69621))) (bin mulV (kM (.int 31)) (rdP 5))) nilA)) (kM (.int 2147483629))))
  (appS 4 (bin modV (callB intC (consA (bin fdivV (rdP 6) (kM (.int 7))) nilA)) (rdP 1))))))
  (frzS 4 (retS (rdS 4)))))) [some (.sh (.int c)), some (.sh (.int 1000003)), some (.sh (.int 6)), some (.sh (.int N)), none, none, none] 0) = .ok (.list (l.map .int)) := by
    intro N
    have hp : powV (.int 10) (.int 18) = some (.int (10 ^ 18)) := rfl
    have hr : rng1V [.int 6] = some ((List.range 6).map fun (k : Nat) => .int (k : Int)) := rfl
    have z : (24 : Nat) < sizeLine := by rw [sizeLine_eq]; decide
    by_cases hN : (1000000000000000000 : Int) ≤ N
    · obtain ⟨ρ', e1, l, num, k, mx, hl, rfl⟩ := forL_ix (b := bNm 5) (body := seqS (appS 4 (bin modV (callB intC (consA (rdP 3) nilA)) (rdP 1))) (setS 3 (bin fdivV (rdP 3) (rdP 1)))) (fun (k : Nat) => .int (k : Int))
        (fun j ρ => ∃ (l : List Int) (num : Int) (k mx : Option SV), l.length = j ∧ ρ = [some (.sh (.int c)), some (.sh (.int 1000003)), some (.sh (.int 6)), some (.sh (.int num)), some (.ow (.list (l.map .int))), k, mx]) 0 (List.range 6) 0 (fun i x ρ hx ⟨l, num, k, mx, hl, e⟩ => by
          subst e
          have hi : i < 6 := by
            have := (List.getElem?_eq_some_iff.mp hx).1
            simpa using this
          refine ⟨_, _, rfl, .inl ?_, l ++ [num.fmod 1000003], num.fdiv 1000003, some (.sh (.int (x : Int))), mx, ?_, rfl⟩
          · rw [e_seqS, e_app (ds := l.map .int) (p := .int (num.fmod 1000003)) (n1 := 0) _ _ rfl (by simp [rdP, v_mod]) (by rw [List.length_map]; omega)]
            simp [rdP, v_fdiv]
          · rw [List.length_append, hl]
            rfl) [some (.sh (.int c)), some (.sh (.int 1000003)), some (.sh (.int 6)), some (.sh (.int N)), some (.ow (.list [])), none, none] ⟨[], N, none, none, rfl, rfl⟩
      refine ⟨l, by simpa using hl, ?_⟩
      simp [rdS, rdP, hp, hN, hr, e1, frzS]
    · obtain ⟨ρ', e1, l, k, mx, hl, rfl⟩ := forL_ix (b := bNm 5) (body := seqS (setS 6 (bin modV (callB intC (consA (bin mulV (bin addV (bin addV (rdP 3) (bin mulV (kM (.int 7)) (rdP 5))) (kM (.int 1))) (kM (.int 48271))) nilA)) (kM (.int 2147483647))))
  (seqS (setS 6 (bin modV (callB intC (consA (bin addV (bin mulV (rdP 6) (kM (.int 69621))) (bin mulV (kM (.int 31)) (rdP 5))) nilA)) (kM (.int 2147483629))))
  (appS 4 (bin modV (callB intC (consA (bin fdivV (rdP 6) (kM (.int 7))) nilA)) (rdP 1))))) (fun (k : Nat) => .int (k : Int))
        (fun j ρ => ∃ (l : List Int) (k mx : Option SV), l.length = j ∧ ρ = [some (.sh (.int c)), some (.sh (.int 1000003)), some (.sh (.int 6)), some (.sh (.int N)), some (.ow (.list (l.map .int))), k, mx]) 0 (List.range 6) 0 (fun i x ρ hx ⟨l, k, mx, hl, e⟩ => by
          subst e
          have hi : i < 6 := by
            have := (List.getElem?_eq_some_iff.mp hx).1
            simpa using this
          refine ⟨_, _, rfl, .inl ?_, l ++ [((((N + 7 * (x : Int) + 1) * 48271).fmod 2147483647 * 69621 + 31 * (x : Int)).fmod 2147483629).fdiv 7 |>.fmod 1000003], some (.sh (.int (x : Int))), some (.sh (.int ((((N + 7 * (x : Int) + 1) * 48271).fmod 2147483647 * 69621 + 31 * (x : Int)).fmod 2147483629))), ?_, rfl⟩
          · rw [e_seqS]
            simp [rdP, v_mod, v_fdiv, v_mul, appS, hl]
            omega
          · rw [List.length_append, hl]
            rfl) [some (.sh (.int c)), some (.sh (.int 1000003)), some (.sh (.int 6)), some (.sh (.int N)), some (.ow (.list [])), none, none] ⟨[], none, none, rfl, rfl⟩
      refine ⟨l, by simpa using hl, ?_⟩
      simp [rdS, rdP, hp, hN, hr, e1, frzS]
  unfold f__law_draws defF d__law_draws
  by_cases h : c < 0
  · obtain ⟨l, h1, h2⟩ := key (0 - 1 - c)
    refine ⟨l, h1, ?_⟩
    rw [← h2]
    simp [envOf, rdS, rdP, h]
  · obtain ⟨l, h1, h2⟩ := key c
    refine ⟨l, h1, ?_⟩
    rw [← h2]
    simp [envOf, rdS, rdP, h]
end K18
set_option Elab.async false
set_option linter.all false
set_option maxRecDepth 100000
set_option maxHeartbeats 4000000
namespace K18
open PySem DL
/-! what the defs give -/
abbrev Tr := Int × Int
def encT (t : Tr) : PV := .tuple [.int t.1, .int t.2]
def rowIn (t : Tr) (r : Int) : PV := if r < t.1 then .none else .int ((r - t.1).fmod t.2 + 1)
theorem sp_row_in {t : Tr} {r : Int} (h : t.2 ≠ 0) : f_row_in [encT t, .int r] = .ok (rowIn t r) := by
  unfold f_row_in defF d_row_in encT rowIn
  by_cases c : r < t.1
  · simp [envOf, unpS, setAll, rdS, rdP, c]
  · simp [envOf, unpS, setAll, rdS, rdP, c, v_mod h]
theorem sp_rows_in {ts : List Tr} {r : Int} (h : ∀ t ∈ ts, t.2 ≠ 0) : f_rows_in [.tuple (ts.map encT), .int r] = .ok (.list (ts.map fun t => rowIn t r)) := by
  unfold f_rows_in defF d_rows_in
  have e := lcL_all (b := bNm 2) (elt := callM 2 f_row_in (consA (rdS 2) (consA (rdS 1) nilA))) (ρ0 := [some (.sh (.tuple (ts.map encT))), some (.sh (.int r)), none]) (n := 0) encT (fun t => rowIn t r) ts fun t ht => ⟨_, rfl, by simp [rdS, sp_row_in (h t ht)]⟩
  simp [envOf, wipeE, rdS, seqV, e]
theorem sp_repeats_done {t : Tr} {r : Int} (h : t.2 ≠ 0 ∧ t.2.natAbs < 1073741824) : f_repeats_done [encT t, .int r] = .ok (.int (if r < t.1 then 0 else (r - t.1 + 1).fdiv t.2)) := by
  unfold f_repeats_done defF d_repeats_done encT
  by_cases c : r < t.1
  · simp [envOf, unpS, setAll, rdS, rdP, c]
  · simp [envOf, unpS, setAll, rdS, rdP, c, v_fdiv h]
def nextAt (t : Tr) (p r : Int) : Int := (if t.1 > r then t.1 else r) + (p - 1 - ((if t.1 > r then t.1 else r) - t.1)).fmod t.2
theorem sp_next_at {t : Tr} {p r : Int} (h : t.2 ≠ 0) : f_next_at [encT t, .int p, .int r] = if 1 ≤ p ∧ p ≤ t.2 then .ok (.int (nextAt t p r)) else .exc ⟨"NoSuchThing", none⟩ := by
  unfold f_next_at defF d_next_at encT nextAt
  by_cases c1 : 1 ≤ p
  · by_cases c2 : p ≤ t.2
    · simp [envOf, unpS, setAll, rdS, rdP, chn, c1, c2, v_mod h, maxC]
    · simp [envOf, unpS, setAll, rdS, rdP, chn, c1, c2]
  · simp [envOf, unpS, setAll, rdS, rdP, chn, c1]
end K18
set_option Elab.async false
set_option linter.all false
set_option maxRecDepth 100000
set_option maxHeartbeats 4000000
namespace K18
open PySem DL
/-! common numbers -/
theorem wh_gcd (x0 x1 x2 : Option SV) : ∀ (b a m : Nat), b < m → whL (tru (rdP 4)) (parS [3, 4] (consA (rdS 4) (consA (bin modV (rdP 3) (rdP 4)) nilA))) m [x0, x1, x2, some (.sh (.int (a : Int))), some (.sh (.int (b : Int)))] 0 = .next [x0, x1, x2, some (.sh (.int (Nat.gcd a b : Nat))), some (.sh (.int 0))] 0 := by
  intro b
  induction b using Nat.strongRecOn with
  | ind b ih =>
    intro a m hm
    cases m with
    | zero => omega
    | succ m =>
      unfold whL
      by_cases hb : b = 0
      · subst hb
        simp [rdP, truV]
      · have hb' : (b : Int) ≠ 0 := by omega
        have e : (a : Int).fmod (b : Int) = ((a % b : Nat) : Int) := by rw [Int.fmod_eq_emod_of_nonneg _ (by omega), Int.natCast_emod]
        have hlt : a % b < b := Nat.mod_lt _ (by omega)
        have hg : Nat.gcd a b = Nat.gcd b (a % b) := by rw [Nat.gcd_comm a b, Nat.gcd_rec b a, Nat.gcd_comm]
        have := ih (a % b) hlt b m (by omega)
        rw [hg]
        simp [rdP, rdS, truV, hb', hb, v_mod hb', e, setAll]
        rw [← Int.natCast_emod]
        exact this
def lcms (ns : List Nat) : Nat := ns.foldl Nat.lcm 1
theorem sp_common {ns : List Nat} (h : ∀ n ∈ ns, 0 < n ∧ n < 1000000) : f_common [.list (ns.map fun (n : Nat) => .int (n : Int))] = .ok (.int (lcms ns : Nat)) := by
  unfold f_common defF d_common
  obtain ⟨ρ', e1, x2, x3, x4, rfl⟩ := forL_inv (b := bNm 2) (body := seqS (parS [3, 4] (consA (rdS 1) (consA (rdS 2) nilA))) (seqS (whS FUEL (tru (rdP 4)) (parS [3, 4] (consA (rdS 4) (consA (bin modV (rdP 3) (rdP 4)) nilA)))) (setS 1 (bin fdivV (bin mulV (rdP 1) (rdP 2)) (rdP 3)))))
    (fun (n : Nat) => .int (n : Int)) (fun (s : Nat) ρ => ∃ x2 x3 x4 : Option SV, ρ = [some (.sh (.list (ns.map fun (n : Nat) => .int (n : Int)))), some (.sh (.int (s : Int))), x2, x3, x4]) Nat.lcm 0 ns (fun s ρ x hx ⟨x2, x3, x4, e⟩ => by
      subst e
      obtain ⟨h0, h1⟩ := h x hx
      have hg0 : 0 < Nat.gcd s x := Nat.gcd_pos_of_pos_right _ h0
      have hg1 : Nat.gcd s x ≤ x := Nat.gcd_le_right _ h0
      have hw := wh_gcd (some (.sh (.list (ns.map fun (n : Nat) => .int (n : Int))))) (some (.sh (.int (s : Int)))) (some (.sh (.int (x : Int)))) x s FUEL (show x < FUEL from h1)
      have hm : mulV (.int (s : Int)) (.int (x : Int)) = some (.int ((s : Int) * x)) := v_mul (.inr (by omega))
      have hd : fdivV (.int ((s : Int) * x)) (.int (Nat.gcd s x : Nat)) = some (.int (Nat.lcm s x : Nat)) := by
        rw [v_fdiv ⟨by omega, by omega⟩, Int.fdiv_eq_ediv_of_nonneg _ (by omega)]
        rfl
      refine ⟨_, _, rfl, .inl ?_, some (.sh (.int (x : Int))), some (.sh (.int (Nat.gcd s x : Nat))), some (.sh (.int 0)), rfl⟩
      simp [rdP, rdS, setAll, whS, hw, hm, hd]) 1 [some (.sh (.list (ns.map fun (n : Nat) => .int (n : Int)))), some (.sh (.int 1)), none, none, none] ⟨none, none, none, rfl⟩
  simp [envOf, rdS, seqV, e1, lcms]
end K18
set_option Elab.async false
set_option linter.all false
set_option maxRecDepth 100000
set_option maxHeartbeats 4000000
namespace K18
open PySem DL
/-! tracks as they are drawn -/
structure GT (t : Tr) : Prop where
  a : 1 ≤ t.1
  b : t.1 ≤ 9
  c : 1 ≤ t.2
  d : t.2 ≤ 8
def GTs (ts : List Tr) : Prop := ∀ t ∈ ts, GT t
theorem GT.ne {t : Tr} (h : GT t) : t.2 ≠ 0 := by have := h.c; omega
theorem sh_rowIn (t : Tr) (r : Int) : Sh 0 (rowIn t r) := by
  unfold rowIn
  split
  · exact Sh.none
  · exact Sh.int _
def manys (ts : List Tr) : List Nat := ts.map fun t => t.2.toNat
theorem manys_enc {ts : List Tr} (h : GTs ts) : ts.map (fun t => PyData.int t.2) = (manys ts).map fun (n : Nat) => .int (n : Int) := by
  unfold manys
  rw [List.map_map]
  refine List.map_congr_left fun t ht => ?_
  have := (h t ht).c
  show PyData.int t.2 = .int ((t.2.toNat : Nat) : Int)
  rw [Int.toNat_of_nonneg (by omega)]
theorem manys_ok {ts : List Tr} (h : GTs ts) : ∀ n ∈ manys ts, 0 < n ∧ n < 1000000 := fun n hn => by
  obtain ⟨t, ht, rfl⟩ := List.mem_map.mp hn
  have h1 := (h t ht).c
  have h2 := (h t ht).d
  omega
def whole (ts : List Tr) : Nat := lcms (manys ts)
theorem sp_common_ts {ts : List Tr} (h : GTs ts) : f_common [.list (ts.map fun t => .int t.2)] = .ok (.int (whole ts : Nat)) := by
  rw [manys_enc h, sp_common (manys_ok h)]
  rfl
theorem sp_comes_again {ts : List Tr} (h : GTs ts) : f_comes_again [.tuple (ts.map encT)] = .ok (.int (whole ts : Nat)) := by
  unfold f_comes_again defF d_comes_again
  have e := lcL_all (b := bTp [bNm 1, bNm 2]) (elt := rdS 2) (ρ0 := [some (.sh (.tuple (ts.map encT))), none, none]) (n := 0) encT (fun t => .int t.2) ts fun t ht => ⟨_, rfl, by simp [rdS]⟩
  simp [envOf, wipeE, rdS, seqV, e, sp_common_ts h]
theorem ints_map {α : Type} (f : α → Int) : ∀ xs : List α, intsOf (xs.map fun x => .int (f x)) = some (xs.map f)
  | [] => rfl
  | x :: xs => by
    rw [List.map_cons, intsOf, ints_map f xs]
    rfl
def startOf (ts : List Tr) (row : Int) : Int := maxI row (ts.map (·.1))
theorem max_start (ts : List Tr) (row : Int) : maxC [.list (.int row :: ts.map fun t => .int t.1)] = some (.int (startOf ts row)) := by
  unfold maxC
  simp only [intsOf, ints_map, Option.map_some]
  rfl
def meets (ts : List Tr) (r : Int) : Bool := ts.all fun t => PyData.eqv (rowIn t r) (.int 1)
def meetAt (ts : List Tr) (row : Int) : PV := match (List.range (whole ts)).findSome? fun (k : Nat) => if meets ts (startOf ts row + k) = true then some (PyData.int (startOf ts row + k)) else none with
  | some p => p
  | none => .none
theorem sp_meet_at {ts : List Tr} {row : Int} (h : GTs ts) (hl : ts.length ≤ 1000) (hw : whole ts ≤ 1000) : f_meet_at [.tuple (ts.map encT), .int row] = .ok (meetAt ts row) := by
  unfold f_meet_at defF d_meet_at
  have e1 : lcL (bTp [bNm 5, bNm 6]) yes (rdS 6) [some (.sh (.tuple (ts.map encT))), some (.sh (.int row)), none, none, none, none, none, none, none] (ts.map encT) 0 = .ok (ts.map fun t => .int t.2) 0 := lcL_all encT (fun t => .int t.2) ts fun t ht => ⟨_, rfl, by simp [rdS]⟩
  have e2 : lcL (bTp [bNm 7, bNm 5]) yes (rdS 7) [some (.sh (.tuple (ts.map encT))), some (.sh (.int row)), some (.sh (.int (whole ts : Nat))), none, none, none, none, none, none] (ts.map encT) 0 = .ok (ts.map fun t => .int t.1) 0 := lcL_all encT (fun t => .int t.1) ts fun t ht => ⟨_, rfl, by simp [rdS]⟩
  have e3 : addV (.list [.int row]) (.list (ts.map fun t => .int t.1)) = some (.list (.int row :: ts.map fun t => .int t.1)) := by
    show (if [PyData.int row].length + (ts.map fun t => PyData.int t.1).length ≤ sizeLine then _ else _) = _
    rw [if_pos (by rw [List.length_map, sizeLine_eq]; simp; omega)]
    rfl
  have hr : rng1V [.int (whole ts : Nat)] = some ((List.range (whole ts)).map fun (k : Nat) => .int (k : Int)) := by
    rw [rng1_nat (by omega), Int.toNat_natCast]
  have one : (1 : Nat) ≤ sizeLine := by rw [sizeLine_eq]; decide
  have key := forL_ret (b := bNm 4) (body := ifS (tru (gnM false (seqI (rdS 0)) (bNm 8) (bin eqV (callM 2 f_row_in (consA (rdS 8) (consA (bin addV (rdP 3) (rdP 4)) nilA))) (kM (.int 1))) [8])) (retS (bin addV (rdP 3) (rdP 4))) skip) (fun (k : Nat) => .int (k : Int))
    (fun ρ => ∃ x4 : Option SV, ρ = [some (.sh (.tuple (ts.map encT))), some (.sh (.int row)), some (.sh (.int (whole ts : Nat))), some (.sh (.int (startOf ts row))), x4, none, none, none, none]) (fun (k : Nat) => if meets ts (startOf ts row + k) = true then some (PyData.int (startOf ts row + k)) else none) 0 (List.range (whole ts)) (fun ρ k _ ⟨x4, e⟩ => by
      subst e
      refine ⟨_, rfl, ?_⟩
      have g := gnL_map (c := false) (b := bNm 8) (elt := bin eqV (callM 2 f_row_in (consA (rdS 8) (consA (bin addV (rdP 3) (rdP 4)) nilA))) (kM (.int 1))) (ρ0 := [some (.sh (.tuple (ts.map encT))), some (.sh (.int row)), some (.sh (.int (whole ts : Nat))), some (.sh (.int (startOf ts row))), some (.sh (.int (k : Int))), none, none, none, none]) (n := 0) encT (fun t => PyData.eqv (rowIn t (startOf ts row + k)) (.int 1)) ts fun t ht => ⟨_, rfl, by
        have := v_eq (sh_rowIn t (startOf ts row + k)) (Sh.int (d := 0) 1)
        simp [rdS, rdP, sp_row_in (h t ht).ne, this]⟩
      have g2 : gnL false (bNm 8) (bin eqV (callM 2 f_row_in (consA (rdS 8) (consA (bin addV (rdP 3) (rdP 4)) nilA))) (kM (.int 1))) [some (.sh (.tuple (ts.map encT))), some (.sh (.int row)), some (.sh (.int (whole ts : Nat))), some (.sh (.int (startOf ts row))), some (.sh (.int (k : Int))), none, none, none, none] (ts.map encT) 0 = .ok (meets ts (startOf ts row + k)) 0 := g
      cases hm : meets ts (startOf ts row + k) with
      | true =>
        rw [hm] at g2
        simp [rdS, rdP, seqV, wipeE, g2]
      | false =>
        rw [hm] at g2
        simp only [Bool.false_eq_true, if_false]
        exact ⟨_, .inl (by simp [rdS, rdP, seqV, wipeE, g2]), some (.sh (.int (k : Int))), rfl⟩) [some (.sh (.tuple (ts.map encT))), some (.sh (.int row)), some (.sh (.int (whole ts : Nat))), some (.sh (.int (startOf ts row))), none, none, none, none, none] ⟨none, rfl⟩
  unfold meetAt
  cases hf : (List.range (whole ts)).findSome? fun (k : Nat) => if meets ts (startOf ts row + k) = true then some (PyData.int (startOf ts row + k)) else none with
  | some p =>
    rw [hf] at key
    simp only at key
    simp [envOf, rdS, seqV, wipeE, e1, sp_common_ts h, e2, one, e3, max_start, hr, key]
  | none =>
    rw [hf] at key
    obtain ⟨ρ', k1, k2⟩ := key
    simp [envOf, rdS, seqV, wipeE, e1, sp_common_ts h, e2, one, e3, max_start, hr, k1]
end K18
set_option Elab.async false
set_option linter.all false
set_option maxRecDepth 100000
set_option maxHeartbeats 4000000
namespace K18
open PySem DL
/-! rows one by one -/
theorem ix1 {p q : PV} : ixV (.tuple [p, q]) (.int 0) = some p := rfl
theorem ix2 {p q : PV} : ixV (.tuple [p, q]) (.int 1) = some q := rfl
def shStep (t : Tr) (here : PV) (k : Int) : PV := if k = t.1 then .int 1 else if t.1 < k then (match here with
  | .int h => .int (h.fmod t.2 + 1)
  | _ => .none) else here
theorem sp_shown {t : Tr} {row : Int} (h : GT t) (hr : 0 ≤ row) (hr2 : row ≤ 1000) : f__law_shown [encT t, .int row] = .ok (rowIn t row) := by
  unfold f__law_shown defF d__law_shown
  have ht := h.ne
  obtain ⟨ρ', e1, x3, e2⟩ := forL_ix (b := bNm 3) (body := ifS (tst (bin eqV (rdP 3) (bin ixV (rdP 0) (kM (.int 0))))) (setS 2 (kM (.int 1))) (ifS (tst (bin gtV (rdP 3) (bin ixV (rdP 0) (kM (.int 0))))) (setS 2 (bin addV (bin modV (rdP 2) (bin ixV (rdP 0) (kM (.int 1)))) (kM (.int 1)))) skip))
    (fun (k : Nat) => .int (1 + (k : Int))) (fun j ρ => ∃ x3 : Option SV, ρ = [some (.sh (encT t)), some (.sh (.int row)), some (.sh (rowIn t (j : Int))), x3]) 0 (List.range (row + 1 - 1).toNat) 0 (fun i x ρ hx ⟨x3, e⟩ => by
      subst e
      have hi : x = i := by
        obtain ⟨h1, h2⟩ := List.getElem?_eq_some_iff.mp hx
        rw [List.getElem_range] at h2
        exact h2.symm
      subst hi
      have ej : ((0 + x : Nat) : Int) = (x : Int) := by omega
      have ej2 : ((0 + x + 1 : Nat) : Int) = 1 + (x : Int) := by omega
      rw [ej, ej2]
      have ha := h.a
      have hc := h.c
      by_cases c1 : 1 + (x : Int) = t.1
      · have r2 : rowIn t (1 + (x : Int)) = .int 1 := by
          unfold rowIn
          rw [if_neg (by omega), c1, Int.sub_self, Int.zero_fmod]
          rfl
        rw [r2]
        exact ⟨_, _, rfl, .inl (by simp [rdP, encT, ix1, c1]), some (.sh (.int (1 + (x : Int)))), rfl⟩
      · by_cases c2 : t.1 < 1 + (x : Int)
        · have r1 : rowIn t (x : Int) = .int (((x : Int) - t.1).fmod t.2 + 1) := by
            unfold rowIn
            rw [if_neg (by omega)]
          have r2 : rowIn t (1 + (x : Int)) = .int ((((x : Int) - t.1).fmod t.2 + 1).fmod t.2 + 1) := by
            unfold rowIn
            rw [if_neg (by omega)]
            have : 1 + (x : Int) - t.1 = ((x : Int) - t.1) + 1 := by omega
            rw [this, Int.fmod_eq_emod_of_nonneg _ (by omega), Int.fmod_eq_emod_of_nonneg _ (by omega), Int.fmod_eq_emod_of_nonneg _ (by omega), Int.emod_add_emod]
          rw [r1, r2]
          exact ⟨_, _, rfl, .inl (by simp [rdP, encT, ix1, ix2, c1, c2, v_mod ht]), some (.sh (.int (1 + (x : Int)))), rfl⟩
        · have r : rowIn t (1 + (x : Int)) = rowIn t (x : Int) := by
            unfold rowIn
            rw [if_pos (by omega), if_pos (by omega)]
          rw [r]
          exact ⟨_, _, rfl, .inl (by simp [rdP, encT, ix1, c1, c2]), some (.sh (.int (1 + (x : Int)))), rfl⟩) [some (.sh (encT t)), some (.sh (.int row)), some (.sh .none), none] ⟨none, by
        have := h.a
        unfold rowIn
        rw [if_pos (by show ((0 : Nat) : Int) < t.1; omega)]⟩
  subst e2
  have hn : (((0 + (List.range (row + 1 - 1).toNat).length : Nat)) : Int) = row := by rw [List.length_range]; omega
  rw [hn] at e1
  have hg : rng2V [.int 1, .int (row + 1)] = some ((List.range (row + 1 - 1).toNat).map fun (k : Nat) => .int (1 + (k : Int))) := rng2_nat ⟨by decide, by omega⟩
  simp only [e_seqS, e_setS, e_forS, e_retS, e_rngI, e_consA, e_nilA, e_kM, e_bin, envOf, List.map, List.length, List.replicate, List.cons_append, List.nil_append, rdS, rdP, Out.bind_ok, ofE_ok, then_next, List.set_cons_succ, List.set_cons_zero, List.getElem?_cons_succ, List.getElem?_cons_zero, v_add, opt_some, hg, opA_some, e1, runS_ret]
end K18
set_option Elab.async false
set_option linter.all false
set_option maxRecDepth 100000
set_option maxHeartbeats 4000000
namespace K18
open PySem DL
/-! busy rows -/
def pj (ts : List Tr) (ms : List (List Int)) (r : Int) (j : Nat) : Bool := ((ms.getD j []).map PyData.int).any fun z => PyData.eqv z (rowIn (ts.getD j (1, 1)) r)
def js (ts : List Tr) (ms : List (List Int)) (r : Int) : List Nat := (List.range ts.length).filter (pj ts ms r)
def ent (ts : List Tr) (ms : List (List Int)) (r : Int) : List (Int × List Nat) := if (js ts ms r).isEmpty = true then [] else [(r, js ts ms r)]
def busyT (ts : List Tr) (ms : List (List Int)) (a : Int) (n : Nat) : List (Int × List Nat) := (List.range n).flatMap fun (k : Nat) => ent ts ms (a + k)
def encJ (l : List Nat) : PV := .list (l.map fun (j : Nat) => .int (j : Int))
def encB (q : Int × List Nat) : PV := .tuple [.int q.1, encJ q.2]
def encM (l : List Int) : PV := .tuple (l.map .int)
theorem sh_encM (l : List Int) : Sh 1 (encM l) := Sh.tuple fun x hx => by
  obtain ⟨i, _, rfl⟩ := List.mem_map.mp hx
  exact Sh.int i
theorem sh_encJ (l : List Nat) : Sh 1 (encJ l) := Sh.list fun x hx => by
  obtain ⟨i, _, rfl⟩ := List.mem_map.mp hx
  exact Sh.int _
theorem in_mark {p : PV} (hp : Sh 0 p) (l : List Int) : inV p (encM l) = some (.bool ((l.map PyData.int).any fun z => PyData.eqv z p)) := by
  have h1 := hp.ok (by decide)
  have h2 := (sh_encM l).ok (by decide)
  have e : inV p (encM l) = if SeqAt.shaped p = true ∧ SeqAt.shaped (.tuple (l.map PyData.int)) = true then some (.bool ((l.map PyData.int).any fun z => PyData.eqv z p)) else none := by
    unfold encM inV
    cases p <;> rfl
  rw [e, if_pos ⟨h1, h2⟩]
theorem zi_mem {α : Type} {xs : List α} {q : α × Nat} (h : q ∈ xs.zipIdx) : xs[q.2]? = some q.1 := by
  have := List.mem_zipIdx_iff_getElem?.mp h
  exact this
theorem js_zip (ts : List Tr) (ms : List (List Int)) (r : Int) (P : Tr × Nat → Bool) (hP : ∀ q ∈ ts.zipIdx, P q = pj ts ms r q.2) : ((ts.zipIdx.filter P).map fun q => PyData.int (q.2 : Int)) = (js ts ms r).map fun (j : Nat) => .int (j : Int) := by
  have e1 : ts.zipIdx.filter P = ts.zipIdx.filter (fun q => pj ts ms r q.2) := List.filter_congr hP
  have e2 : js ts ms r = (ts.zipIdx.filter (fun q => pj ts ms r q.2)).map (·.2) := by
    unfold js
    have : List.range ts.length = ts.zipIdx.map (·.2) := by rw [List.zipIdx_map_snd, List.range_eq_range']
    rw [this, List.filter_map]
    rfl
  rw [e1, e2, List.map_map]
  rfl
theorem js_comp {ts : List Tr} {ms : List (List Int)} {r : Int} (h : GTs ts) (hl : ms.length = ts.length) (x2 x3 x4 x6 : Option SV) : lcL (bTp [bNm 7, bNm 8]) (tst (bin inV (callM 2 f_row_in (consA (rdS 8) (consA (rdS 5) nilA))) (bin ixV (rdP 1) (rdP 7)))) (rdS 7) [some (.sh (.tuple (ts.map encT))), some (.sh (.list (ms.map encM))), x2, x3, x4, some (.sh (.int r)), x6, none, none]
    ((ts.map encT).zipIdx.map fun q => .tuple [.int (q.2 : Int), q.1]) 0 = .ok ((js ts ms r).map fun (j : Nat) => .int (j : Int)) 0 := by
  have e0 : ((ts.map encT).zipIdx.map fun q => PyData.tuple [.int (q.2 : Int), q.1]) = ts.zipIdx.map fun q => PyData.tuple [.int (q.2 : Int), encT q.1] := by
    rw [List.zipIdx_map, List.map_map]
    rfl
  rw [e0, lcL_map (fun (q : Tr × Nat) => PyData.tuple [.int (q.2 : Int), encT q.1]) (fun q => pj ts ms r q.2) (fun q => .int (q.2 : Int)) ts.zipIdx fun q hq => ?_]
  · rw [js_zip ts ms r _ fun _ _ => rfl]
  · have e1 := zi_mem hq
    have hlt : q.2 < ts.length := (List.getElem?_eq_some_iff.mp e1).1
    have hm : ms[q.2]? = some ms[q.2] := List.getElem?_eq_getElem (by omega)
    have ht : GT q.1 := h _ (List.mem_of_getElem? e1)
    have ix : ixV (.list (ms.map encM)) (.int (q.2 : Int)) = some (encM ms[q.2]) := by
      show L2.atI (ms.map encM) ((q.2 : Nat) : Int) = _
      exact L2.atI_nat (by rw [List.getElem?_map, hm]; rfl)
    have g1 : ts.getD q.2 (1, 1) = q.1 := by rw [List.getD_eq_getElem?_getD, e1]; rfl
    have g2 : ms.getD q.2 [] = ms[q.2] := by rw [List.getD_eq_getElem?_getD, hm]; rfl
    refine ⟨_, rfl, ?_, fun _ => ?_⟩
    · unfold pj
      rw [g1, g2]
      simp [rdS, rdP, sp_row_in ht.ne, ix, in_mark (sh_rowIn q.1 r)]
    · simp [rdS]
theorem busy_succ (ts : List Tr) (ms : List (List Int)) (a : Int) (n : Nat) : busyT ts ms a (n + 1) = busyT ts ms a n ++ ent ts ms (a + n) := by
  unfold busyT
  rw [List.range_succ, List.flatMap_append]
  simp
theorem busy_len (ts : List Tr) (ms : List (List Int)) (a : Int) : ∀ n, (busyT ts ms a n).length ≤ n
  | 0 => Nat.le_refl _
  | n + 1 => by
    rw [busy_succ, List.length_append]
    have := busy_len ts ms a n
    unfold ent
    split <;> simp <;> omega
theorem sp_busy_rows {ts : List Tr} {ms : List (List Int)} {a b : Int} (h : GTs ts) (hl : ms.length = ts.length) (ha : 0 ≤ a ∧ a ≤ 1000) (hb : 0 ≤ b ∧ b ≤ 1000) :
    f_busy_rows [.tuple (ts.map encT), .list (ms.map encM), .int a, .int b] = .ok (.list ((busyT ts ms a (b + 1 - a).toNat).map encB)) := by
  unfold f_busy_rows defF d_busy_rows
  have hg : rng2V [.int a, .int (b + 1)] = some ((List.range (b + 1 - a).toNat).map fun (k : Nat) => .int (a + (k : Int))) := rng2_nat ⟨by omega, by omega⟩
  have hz := sizeLine_eq
  obtain ⟨ρ', e1, hq9, x5, x6, e2⟩ := forL_ix (b := bNm 5) (body := seqS (setS 6 (lcM (enuJ (rdS 0)) (bTp [bNm 7, bNm 8]) (tst (bin inV (callM 2 f_row_in (consA (rdS 8) (consA (rdS 5) nilA))) (bin ixV (rdP 1) (rdP 7)))) (rdS 7) [7, 8])) (ifS (tru (rdP 6)) (appS 4 (tupA (consA (rdS 5) (consA (rdS 6) nilA)))) skip))
    (fun (k : Nat) => .int (a + (k : Int))) (fun j ρ => j ≤ 2000 ∧ ∃ x5 x6 : Option SV, ρ = [some (.sh (.tuple (ts.map encT))), some (.sh (.list (ms.map encM))), some (.sh (.int a)), some (.sh (.int b)), some (.ow (.list ((busyT ts ms a j).map encB))), x5, x6, none, none]) 0 (List.range (b + 1 - a).toNat) 0 (fun i x ρ hx ⟨hi0, x5, x6, e⟩ => by
      subst e
      obtain ⟨h1, h2⟩ := List.getElem?_eq_some_iff.mp hx
      rw [List.getElem_range] at h2
      subst h2
      rw [List.length_range] at h1
      have ei : (0 + i) = i := Nat.zero_add i
      rw [ei]
      refine ⟨_, _, rfl, .inl ?_, by omega, some (.sh (.int (a + (i : Int)))), some (.sh (encJ (js ts ms (a + i)))), rfl⟩
      have c := js_comp (r := a + i) h hl (some (.sh (.int a))) (some (.sh (.int b))) (some (.ow (.list ((busyT ts ms a i).map encB)))) x6
      have bl := busy_len ts ms a i
      rw [busy_succ]
      unfold ent
      cases hj : (js ts ms (a + (i : Int))).isEmpty with
      | true =>
        have hj' : js ts ms (a + (i : Int)) = [] := List.isEmpty_iff.mp hj
        rw [hj'] at c ⊢
        simp [rdS, rdP, enuW, wipeE, c, truV, encJ]
      | false =>
        have hj' : (encJ (js ts ms (a + (i : Int)))) = .list ((js ts ms (a + (i : Int))).map fun (j : Nat) => .int (j : Int)) := rfl
        have ht : truV (.list ((js ts ms (a + (i : Int))).map fun (j : Nat) => .int (j : Int))) = some true := by
          show some (!((js ts ms (a + (i : Int))).map fun (j : Nat) => PyData.int (j : Int)).isEmpty) = _
          rw [List.isEmpty_map, hj]
          rfl
        have hlen : (busyT ts ms a i).length < sizeLine := by omega
        have two : 2 ≤ sizeLine := by omega
        simp [rdS, rdP, enuW, wipeE, c, ht, encJ, appS, hlen, two, encB]) [some (.sh (.tuple (ts.map encT))), some (.sh (.list (ms.map encM))), some (.sh (.int a)), some (.sh (.int b)), some (.ow (.list [])), none, none, none, none] ⟨by omega, none, none, rfl⟩
  subst e2
  rw [List.length_range, Nat.zero_add] at e1
  simp [envOf, rdS, rdP, hg, e1, frzS]
end K18
set_option Elab.async false
set_option linter.all false
set_option maxRecDepth 100000
set_option maxHeartbeats 4000000
namespace K18
open PySem DL
/-! busiest, rows found again -/
def mostB (l : List (Int × List Nat)) : Int := match l.map (fun q => ((q.2.length : Nat) : Int)) with
  | [] => 0
  | x :: r => maxI x r
def busiest (l : List (Int × List Nat)) : PV := match l with
  | [] => .none
  | _ => match (l.filter fun q => ((q.2.length : Nat) : Int) == mostB l).map fun q => PyData.tuple [.int q.1, .int (mostB l)] with
    | p :: _ => p
    | [] => .none
theorem len_encJ (l : List Nat) : lenC [encJ l] = some (.int (l.length : Nat)) := by
  show some (PyData.int (((l.map fun (j : Nat) => PyData.int (j : Int)).length : Nat) : Int)) = _
  rw [List.length_map]
theorem maxI_mem : ∀ (r : List Int) (x : Int), maxI x r = x ∨ maxI x r ∈ r
  | [], x => .inl rfl
  | y :: r, x => by
    unfold maxI
    rw [List.foldl_cons]
    by_cases c : y > x
    · rw [if_pos c]
      rcases maxI_mem r y with h | h
      · exact .inr (by rw [show r.foldl (fun a b => if b > a then b else a) y = maxI y r from rfl, h]; exact List.mem_cons_self)
      · exact .inr (List.mem_cons_of_mem _ h)
    · rw [if_neg c]
      rcases maxI_mem r x with h | h
      · exact .inl h
      · exact .inr (List.mem_cons_of_mem _ h)
theorem most_mem {l : List (Int × List Nat)} (h : l ≠ []) : ∃ q ∈ l, ((q.2.length : Nat) : Int) = mostB l := by
  cases l with
  | nil => exact absurd rfl h
  | cons q r =>
    unfold mostB
    simp only [List.map_cons]
    rcases maxI_mem (r.map fun q => ((q.2.length : Nat) : Int)) ((q.2.length : Nat) : Int) with e | e
    · exact ⟨q, List.mem_cons_self, e.symm⟩
    · obtain ⟨z, hz, ez⟩ := List.mem_map.mp e
      exact ⟨z, List.mem_cons_of_mem _ hz, ez⟩
theorem max_most {l : List (Int × List Nat)} (h : l ≠ []) : maxC [.list (l.map fun q => .int ((q.2.length : Nat) : Int))] = some (.int (mostB l)) := by
  cases l with
  | nil => exact absurd rfl h
  | cons q r =>
    unfold maxC mostB
    simp only [List.map_cons, intsOf, ints_map, Option.map_some]
theorem busiest_cons {l : List (Int × List Nat)} (h : l ≠ []) : ∃ r rest, (l.filter fun q => ((q.2.length : Nat) : Int) == mostB l) = r :: rest ∧ busiest l = .tuple [.int r.1, .int (mostB l)] := by
  obtain ⟨q, hq, e⟩ := most_mem h
  have hm : q ∈ l.filter fun q => ((q.2.length : Nat) : Int) == mostB l := List.mem_filter.mpr ⟨hq, by rw [e]; simp⟩
  cases hf : l.filter fun q => ((q.2.length : Nat) : Int) == mostB l with
  | nil => rw [hf] at hm; cases hm
  | cons r rest =>
    refine ⟨r, rest, rfl, ?_⟩
    unfold busiest
    cases l with
    | nil => exact absurd rfl h
    | cons a b => simp only [hf, List.map_cons]
theorem sp_busiest {ts : List Tr} {ms : List (List Int)} {a b : Int} (h : GTs ts) (hl : ms.length = ts.length) (ha : 0 ≤ a ∧ a ≤ 1000) (hb : 0 ≤ b ∧ b ≤ 1000) :
    f_busiest [.tuple (ts.map encT), .list (ms.map encM), .int a, .int b] = .ok (busiest (busyT ts ms a (b + 1 - a).toNat)) := by
  unfold f_busiest defF d_busiest
  have hB := sp_busy_rows h hl ha hb
  generalize busyT ts ms a (b + 1 - a).toNat = L at hB
  have two : 2 ≤ sizeLine := by rw [sizeLine_eq]; decide
  cases hL : L with
  | nil =>
    rw [hL] at hB
    simp [envOf, rdS, rdP, hB, truV, busiest]
  | cons q0 r0 =>
    rw [← hL]
    have hne : L ≠ [] := by rw [hL]; exact List.cons_ne_nil _ _
    have ht : truV (.list (L.map encB)) = some true := by
      show some (!(L.map encB).isEmpty) = _
      rw [hL]
      rfl
    have e1 : lcL (bTp [bNm 6, bNm 7]) yes (callB lenC (consA (rdP 7) nilA)) [some (.sh (.tuple (ts.map encT))), some (.sh (.list (ms.map encM))), some (.sh (.int a)), some (.sh (.int b)), some (.sh (.list (L.map encB))), none, none, none, none] (L.map encB) 0 = .ok (L.map fun q => .int ((q.2.length : Nat) : Int)) 0 :=
      lcL_all encB _ L fun q _ => ⟨_, rfl, by simp [rdP, len_encJ]⟩
    have e2 : lcL (bTp [bNm 8, bNm 7]) (tst (bin eqV (callB lenC (consA (rdP 7) nilA)) (rdP 5))) (rdS 8) [some (.sh (.tuple (ts.map encT))), some (.sh (.list (ms.map encM))), some (.sh (.int a)), some (.sh (.int b)), some (.sh (.list (L.map encB))), some (.sh (.int (mostB L))), none, none, none] (L.map encB) 0 = .ok ((L.filter fun q => ((q.2.length : Nat) : Int) == mostB L).map fun q => .int q.1) 0 :=
      lcL_map encB _ _ L fun q _ => ⟨_, rfl, by simp [rdP, len_encJ], fun _ => by simp [rdS]⟩
    obtain ⟨r, rest, e3, e4⟩ := busiest_cons hne
    rw [e3] at e2
    have ix : ixV (.list (PyData.int r.1 :: rest.map fun q => .int q.1)) (.int 0) = some (.int r.1) := by
      show L2.atI _ ((0 : Nat) : Int) = _
      exact L2.atI_nat (j := 0) rfl
    simp [envOf, rdS, rdP, hB, ht, seqV, wipeE, e1, max_most hne, e2, ix, two, e4]
theorem sh_rows (ts : List Tr) (r : Int) : Sh 1 (.list (ts.map fun t => rowIn t r)) := Sh.list fun x hx => by
  obtain ⟨t, _, rfl⟩ := List.mem_map.mp hx
  exact sh_rowIn t r
def fromRows (ts : List Tr) (p : PV) : List Nat := (List.range 50).filter fun (k : Nat) => PyData.eqv (.list (ts.map fun t => rowIn t (1 + (k : Int)))) p
def encK (l : List Nat) : PV := .list (l.map fun (k : Nat) => .int (1 + (k : Int)))
theorem rng50 : rng2V [.int 1, .int (50 + 1)] = some ((List.range 50).map fun (k : Nat) => .int (1 + (k : Int))) := rfl
theorem sp_from_rows {ts : List Tr} {l : List PV} (h : GTs ts) (hp : Sh 1 (.list l)) : f_from_rows [.tuple (ts.map encT), .list l, .int 50] = .ok (encK (fromRows ts (.list l))) := by
  unfold f_from_rows defF d_from_rows
  have e1 : lcL (bNm 3) (tst (bin eqV (callM 2 f_rows_in (consA (rdS 0) (consA (rdS 3) nilA))) (callB listC (consA (rdP 1) nilA)))) (rdS 3) [some (.sh (.tuple (ts.map encT))), some (.sh (.list l)), some (.sh (.int 50)), none] ((List.range 50).map fun (k : Nat) => .int (1 + (k : Int))) 0 = .ok ((fromRows ts (.list l)).map fun (k : Nat) => .int (1 + (k : Int))) 0 :=
    lcL_map (fun (k : Nat) => PyData.int (1 + (k : Int))) _ _ (List.range 50) fun k _ => ⟨_, rfl, by
      have := v_eq (sh_rows ts (1 + (k : Int))) hp
      simp [rdS, rdP, sp_rows_in (r := 1 + (k : Int)) (fun t ht => (h t ht).ne), listC, this], fun _ => by simp [rdS]⟩
  have hr : rng2V [.int 1, .int 51] = some ((List.range 50).map fun (k : Nat) => .int (1 + (k : Int))) := rfl
  simp [envOf, rdS, rdP, wipeE, hr, e1, encK]
def may (p q : PV) : Bool := isNone p || PyData.eqv p q
def mayAt (ts : List Tr) (ls : List PV) : List Nat := (List.range 50).filter fun (k : Nat) => (ls.zip (ts.map fun t => rowIn t (1 + (k : Int)))).all fun q => may q.1 q.2
theorem sp_may_be_at {ts : List Tr} {ls : List PV} (h : GTs ts) (hp : ∀ p ∈ ls, Sh 0 p) : f_may_be_at [.tuple (ts.map encT), .list ls, .int 50] = .ok (encK (mayAt ts ls)) := by
  unfold f_may_be_at defF d_may_be_at
  have hz := sizeLine_eq
  obtain ⟨ρ', e1, hq9, x4, x5, e2⟩ := forL_ix (b := bNm 4) (body := seqS (setS 5 (callM 2 f_rows_in (consA (rdS 0) (consA (rdS 4) nilA)))) (ifS (tru (gnM false (zipI (rdS 1) (rdS 5)) (bTp [bNm 6, bNm 7]) (orV (bin isV (rdP 6) (kM .none)) (bin eqV (rdP 6) (rdP 7))) [6, 7])) (appS 3 (rdS 4)) skip))
    (fun (k : Nat) => .int (1 + (k : Int))) (fun j ρ => j ≤ 2000 ∧ ∃ x4 x5 : Option SV, ρ = [some (.sh (.tuple (ts.map encT))), some (.sh (.list ls)), some (.sh (.int 50)), some (.ow (.list (((List.range j).filter fun (k : Nat) => (ls.zip (ts.map fun t => rowIn t (1 + (k : Int)))).all fun q => may q.1 q.2).map fun (k : Nat) => .int (1 + (k : Int))))), x4, x5, none, none]) 0 (List.range 50) 0 (fun i x ρ hx ⟨hi0, x4, x5, e⟩ => by
      subst e
      obtain ⟨h1, h2⟩ := List.getElem?_eq_some_iff.mp hx
      rw [List.getElem_range] at h2
      subst h2
      rw [List.length_range] at h1
      have ei : (0 + i) = i := Nat.zero_add i
      rw [ei]
      refine ⟨_, _, rfl, .inl ?_, by omega, some (.sh (.int (1 + (i : Int)))), some (.sh (.list (ts.map fun t => rowIn t (1 + (i : Int))))), rfl⟩
      have er := sp_rows_in (ts := ts) (r := 1 + (i : Int)) fun t ht => (h t ht).ne
      have ez : zipV (.list ls) (.list (ts.map fun t => rowIn t (1 + (i : Int)))) = some ((ls.zip (ts.map fun t => rowIn t (1 + (i : Int)))).map fun q => .tuple [q.1, q.2]) := by
        show some (List.zipWith (fun a b => PyData.tuple [a, b]) ls (ts.map fun t => rowIn t (1 + (i : Int)))) = _
        rw [List.zip, List.map_zipWith]
      have bl : ((List.range i).filter fun (k : Nat) => (ls.zip (ts.map fun t => rowIn t (1 + (k : Int)))).all fun q => may q.1 q.2).length < sizeLine := by
        have := List.length_filter_le (fun (k : Nat) => (ls.zip (ts.map fun t => rowIn t (1 + (k : Int)))).all fun q => may q.1 q.2) (List.range i)
        rw [List.length_range] at this
        omega
      have g : ∀ x3 : Option SV, gnL false (bTp [bNm 6, bNm 7]) (orV (bin isV (rdP 6) (kM .none)) (bin eqV (rdP 6) (rdP 7))) [some (.sh (.tuple (ts.map encT))), some (.sh (.list ls)), some (.sh (.int 50)), x3, some (.sh (.int (1 + (i : Int)))), some (.sh (.list (ts.map fun t => rowIn t (1 + (i : Int))))), none, none] ((ls.zip (ts.map fun t => rowIn t (1 + (i : Int)))).map fun q => .tuple [q.1, q.2]) 0 = .ok ((ls.zip (ts.map fun t => rowIn t (1 + (i : Int)))).all fun q => may q.1 q.2) 0 := fun x3 => by
        refine gnL_map (c := false) (fun (q : PV × PV) => .tuple [q.1, q.2]) (fun q => may q.1 q.2) _ fun q hq => ⟨_, rfl, ?_⟩
        have m1 := hp _ (List.of_mem_zip hq).1
        have m2 : Sh 0 q.2 := by
          obtain ⟨t, _, et⟩ := List.mem_map.mp (List.of_mem_zip hq).2
          rw [← et]
          exact sh_rowIn _ _
        have e5 := v_eq m1 m2
        have e6 : isV q.1 .none = some (.bool (isNone q.1)) := by cases q.1 <;> rfl
        cases hn : isNone q.1 <;> simp [orV, rdP, e6, hn, e5, may]
      rw [List.range_succ, List.filter_append, List.map_append]
      cases hc : (ls.zip (ts.map fun t => rowIn t (1 + (i : Int)))).all fun q => may q.1 q.2 with
      | true => simp [rdS, rdP, er, ez, wipeE, g, hc, appS, bl, List.filter_cons]
      | false => simp [rdS, rdP, er, ez, wipeE, g, hc, List.filter_cons]) [some (.sh (.tuple (ts.map encT))), some (.sh (.list ls)), some (.sh (.int 50)), some (.ow (.list [])), none, none, none, none] ⟨by omega, none, none, rfl⟩
  subst e2
  have hr : rng2V [.int 1, .int 51] = some ((List.range 50).map fun (k : Nat) => .int (1 + (k : Int))) := rfl
  simp only [List.length_range, Nat.zero_add] at e1
  simp [envOf, rdS, rdP, hr, e1, frzS, encK, mayAt]
end K18
set_option Elab.async false
set_option linter.all false
set_option maxRecDepth 100000
set_option maxHeartbeats 4000000
namespace K18
open PySem DL
/-! times, ticks, tally -/
def encI (l : List Int) : PV := .list (l.map .int)
def tAt (tm : List Int) (i : Int) : Int := tm.getD (i.fmod tm.length).toNat 0
theorem fm_lt {a b : Int} (h : 0 < b) : 0 ≤ a.fmod b ∧ a.fmod b < b := ⟨Int.fmod_nonneg_of_pos a h, Int.fmod_lt_of_pos a h⟩
theorem ix_tm {tm : List Int} (h : tm ≠ []) (i : Int) : ixV (encI tm) (.int (i.fmod tm.length)) = some (.int (tAt tm i)) := by
  have hl : 0 < tm.length := List.length_pos_iff.mpr h
  have h0 := fm_lt (a := i) (b := (tm.length : Int)) (by omega)
  show L2.atI (tm.map PyData.int) _ = _
  rw [show i.fmod tm.length = (((i.fmod tm.length).toNat : Nat) : Int) from by omega]
  have hi : (i.fmod tm.length).toNat < tm.length := by omega
  refine L2.atI_nat ?_
  rw [List.getElem?_map, List.getElem?_eq_getElem hi]
  unfold tAt
  rw [List.getD_eq_getElem?_getD, List.getElem?_eq_getElem hi]
  rfl
theorem len_encI (l : List Int) : lenC [encI l] = some (.int (l.length : Int)) := by
  show some (PyData.int ((l.map PyData.int).length : Nat)) = _
  rw [List.length_map]
theorem sum_encI (l : List Int) : sumC [encI l] = some (.int l.sum) := by
  have := ints_map (fun i : Int => i) l
  show (intsOf (l.map PyData.int)).map _ = _
  rw [show l.map PyData.int = l.map (fun x => PyData.int ((fun i : Int => i) x)) from rfl, this]
  simp
def spent (tm : List Int) (a b : Int) : List Int := (List.range (b + 1 - a).toNat).map fun (k : Nat) => tAt tm (a + k - 1)
theorem v_modl {tm : List Int} (h : tm ≠ []) (i : Int) : modV (.int i) (.int (tm.length : Int)) = some (.int (i.fmod tm.length)) := v_mod (by
  have := List.length_pos_iff.mpr h
  omega)
theorem sp_time_left {tm : List Int} {a b : Int} (h : tm ≠ []) (ha : 0 ≤ a ∧ a ≤ 1000) (hb : 0 ≤ b ∧ b ≤ 1000) : f_time_left [.int a, .int b, encI tm] = .ok (.int (spent tm a b).sum) := by
  unfold f_time_left defF d_time_left
  have hr := rng2_nat (a := a) (b := b + 1) (by omega)
  have e1 : lcL (bNm 3) yes (bin ixV (rdP 2) (bin modV (bin subV (rdP 3) (kM (.int 1))) (callB lenC (consA (rdP 2) nilA)))) [some (.sh (.int a)), some (.sh (.int b)), some (.sh (encI tm)), none] ((List.range (b + 1 - a).toNat).map fun (k : Nat) => .int (a + (k : Int))) 0 = .ok ((List.range (b + 1 - a).toNat).map fun (k : Nat) => .int (tAt tm (a + k - 1))) 0 :=
    lcL_all _ _ _ fun k _ => ⟨_, rfl, by simp [rdP, len_encI, v_modl h, ix_tm h]⟩
  have e2 := sum_encI (spent tm a b)
  unfold encI spent at e2
  rw [List.map_map] at e2
  simp only [Function.comp_def] at e2
  simp [envOf, rdS, rdP, hr, wipeE, e1, e2, spent]
def sumT (tm : List Int) (row : Int) : Nat → Int
  | 0 => 0
  | k + 1 => sumT tm row k + tAt tm (row + k - 1)
theorem sumT_sum (tm : List Int) (row : Int) : ∀ k, ((List.range k).map fun (j : Nat) => tAt tm (row + j - 1)).sum = sumT tm row k
  | 0 => rfl
  | k + 1 => by
    rw [List.range_succ, List.map_append, List.sum_append, sumT_sum tm row k]
    simp [sumT]
theorem tAt_pos {tm : List Int} (h : tm ≠ []) (hp : ∀ t ∈ tm, 1 ≤ t) (i : Int) : 1 ≤ tAt tm i := by
  have hl : 0 < tm.length := List.length_pos_iff.mpr h
  have h0 := fm_lt (a := i) (b := (tm.length : Int)) (by omega)
  have hi : (i.fmod tm.length).toNat < tm.length := by omega
  unfold tAt
  rw [List.getD_eq_getElem?_getD, List.getElem?_eq_getElem hi]
  exact hp _ (List.getElem_mem hi)
theorem sumT_mono {tm : List Int} (h : tm ≠ []) (hp : ∀ t ∈ tm, 1 ≤ t) (row : Int) (k : Nat) : ∀ d, sumT tm row k + d ≤ sumT tm row (k + d)
  | 0 => by simp
  | d + 1 => by
    have := sumT_mono h hp row k d
    have := tAt_pos h hp (row + (k + d : Nat) - 1)
    show _ ≤ sumT tm row (k + d) + tAt tm (row + (k + d : Nat) - 1)
    omega
theorem wh_done {tm : List Int} (h : tm ≠ []) (hp : ∀ t ∈ tm, 1 ≤ t) (row len : Int) (x0 x2 : Option SV) : ∀ (m k : Nat), sumT tm row k ≤ len → len - sumT tm row k < m → ∃ k2 : Nat, sumT tm row k2 ≤ len ∧ len < sumT tm row (k2 + 1) ∧
    whL (tst (bin leV (bin ixV (rdP 1) (bin modV (bin subV (rdP 3) (kM (.int 1))) (callB lenC (consA (rdP 1) nilA)))) (rdP 4))) (seqS (augS subV 4 (bin ixV (rdP 1) (bin modV (bin subV (rdP 3) (kM (.int 1))) (callB lenC (consA (rdP 1) nilA))))) (augS addW 3 (kM (.int 1)))) m [x0, some (.sh (encI tm)), x2, some (.sh (.int (row + k))), some (.sh (.int (len - sumT tm row k)))] 0 = .next [x0, some (.sh (encI tm)), x2, some (.sh (.int (row + k2))), some (.sh (.int (len - sumT tm row k2)))] 0
  | 0, k, h1, h2 => by omega
  | m + 1, k, h1, h2 => by
    have hq := tAt_pos h hp (row + k - 1)
    by_cases c : tAt tm (row + k - 1) ≤ len - sumT tm row k
    · obtain ⟨k2, a1, a2, a3⟩ := wh_done h hp row len x0 x2 m (k + 1) (by simp only [sumT]; omega) (by simp only [sumT]; omega)
      refine ⟨k2, a1, a2, ?_⟩
      rw [← a3]
      rw [whL]
      rw [show ((k + 1 : Nat) : Int) = (k : Int) + 1 from rfl, ← Int.add_assoc, show len - sumT tm row (k + 1) = len - sumT tm row k - tAt tm (row + k - 1) from by simp only [sumT]; omega]
      simp [rdP, len_encI, v_modl h, ix_tm h, c, augS]
    · refine ⟨k, h1, by simp only [sumT]; omega, ?_⟩
      rw [whL]
      simp [rdP, len_encI, v_modl h, ix_tm h, c]
theorem sp_done_by {tm : List Int} {row len : Int} (h : tm ≠ []) (hp : ∀ t ∈ tm, 1 ≤ t) (hl : 0 ≤ len ∧ len ≤ 1000) : ∃ k : Nat, sumT tm row k ≤ len ∧ len < sumT tm row (k + 1) ∧ f_done_by [.int row, encI tm, .int len] = .ok (.int (row + k - 1)) := by
  obtain ⟨k, a1, a2, a3⟩ := wh_done h hp row len (some (.sh (.int row))) (some (.sh (.int len))) FUEL 0 (by simp only [sumT]; omega) (by simp only [sumT, FUEL]; omega)
  refine ⟨k, a1, a2, ?_⟩
  unfold f_done_by defF d_done_by
  have e0 : sumT tm row 0 = 0 := rfl
  rw [e0] at a3
  simp only [Int.sub_zero, Int.natCast_zero, Int.add_zero] at a3
  simp [envOf, rdS, rdP, whS, a3]
def ahead (tm : List Int) (row len : Int) : List Nat := (List.range 70).filter fun (k : Nat) => decide (sumT tm row k ≤ len)
theorem max_ahead {tm : List Int} {row len : Int} {k : Nat} (h : tm ≠ []) (hp : ∀ t ∈ tm, 1 ≤ t) (hl : len < 60) (a1 : sumT tm row k ≤ len) (a2 : len < sumT tm row (k + 1)) : maxC [.list ((ahead tm row len).map fun (k : Nat) => .int (k : Int))] = some (.int (k : Int)) := by
  have hk : k < 69 := by
    have := sumT_mono h hp row 0 k
    simp only [sumT, Nat.zero_add] at this
    omega
  have e : ahead tm row len = List.range (k + 1) := by
    unfold ahead
    have : (List.range 70) = List.range (k + 1) ++ (List.range (69 - k)).map fun j => (k + 1) + j := by
      rw [show 70 = (k + 1) + (69 - k) from by omega, List.range_add]
    rw [this, List.filter_append]
    have f1 : (List.range (k + 1)).filter (fun (k : Nat) => decide (sumT tm row k ≤ len)) = List.range (k + 1) := List.filter_eq_self.mpr fun j hj => by
      have hj := List.mem_range.mp hj
      have := sumT_mono h hp row j (k - j)
      rw [show j + (k - j) = k from by omega] at this
      exact decide_eq_true (by omega)
    have f2 : ((List.range (69 - k)).map fun j => (k + 1) + j).filter (fun (k : Nat) => decide (sumT tm row k ≤ len)) = [] := List.filter_eq_nil_iff.mpr fun j hj => by
      obtain ⟨d, _, rfl⟩ := List.mem_map.mp hj
      have := sumT_mono h hp row (k + 1) d
      simp only [decide_eq_true_eq]
      omega
    rw [f1, f2, List.append_nil]
  rw [e]
  clear e a1 a2
  have gen : ∀ (n : Nat), maxI 0 ((List.range n).map fun (j : Nat) => ((j : Int) + 1)) = n := by
    intro n
    induction n with
    | zero => rfl
    | succ n ih =>
      rw [List.range_succ, List.map_append]
      unfold maxI at ih ⊢
      rw [List.foldl_append, ih]
      show (if ((n : Int) + 1) > (n : Int) then _ else _) = _
      rw [if_pos (by omega)]
      rfl
  rw [List.range_succ_eq_map]
  have := ints_map (fun (j : Nat) => ((j : Int) + 1)) (List.range k)
  unfold maxC
  simp only [List.map_cons, List.map_map, intsOf, Function.comp_def]
  rw [show (fun (x : Nat) => PyData.int ((Nat.succ x : Nat) : Int)) = fun (x : Nat) => PyData.int ((x : Int) + 1) from rfl, this]
  exact congrArg (fun z => some (PyData.int z)) (gen k)
end K18
set_option Elab.async false
set_option linter.all false
set_option maxRecDepth 100000
set_option maxHeartbeats 4000000
namespace K18
open PySem DL
/-! ticks, tally, tracks -/
def encV (m : Nat) : PV := match m with
  | 0 => .str "+"
  | 1 => .str "-"
  | _ => .str "0"
def tkS (h : Int) (m : Nat) : Int := match m with
  | 0 => h + 1
  | 1 => if h - 1 > 0 then h - 1 else 0
  | _ => 0
def tick (l : List Nat) : Int := l.foldl tkS 0
theorem enc_plus (m : Nat) : eqV (encV m) (.str "+") = some (.bool (m == 0)) := match m with
  | 0 => by kernel_rfl
  | 1 => by kernel_rfl
  | m + 2 => by show eqV (.str "0") (.str "+") = some (.bool false); kernel_rfl
theorem enc_minus (m : Nat) : eqV (encV m) (.str "-") = some (.bool (m == 1)) := match m with
  | 0 => by kernel_rfl
  | 1 => by kernel_rfl
  | m + 2 => by show eqV (.str "0") (.str "-") = some (.bool false); kernel_rfl
theorem max0 (h : Int) : maxC [.int 0, .int h] = some (.int (if h > 0 then h else 0)) := rfl
theorem sp_ticks (l : List Nat) : f_ticks [.list (l.map encV)] = .ok (.int (tick l)) := by
  unfold f_ticks defF d_ticks
  obtain ⟨ρ', e1, x2, e2⟩ := forL_inv (b := bNm 2) (body := ifS (tst (bin eqV (rdP 2) (kM (.str "+")))) (augS addW 1 (kM (.int 1))) (ifS (tst (bin eqV (rdP 2) (kM (.str "-")))) (setS 1 (callB maxC (consA (kM (.int 0)) (consA (bin subV (rdP 1) (kM (.int 1))) nilA)))) (setS 1 (kM (.int 0)))))
    encV (fun (s : Int) ρ => ∃ x2 : Option SV, ρ = [some (.sh (.list (l.map encV))), some (.sh (.int s)), x2]) tkS 0 l (fun s ρ x hx ⟨x2, e⟩ => by
      subst e
      refine ⟨_, _, rfl, .inl ?_, some (.sh (encV x)), rfl⟩
      match x with
      | 0 => simp [rdP, enc_plus, augS, tkS]
      | 1 => simp [rdP, enc_plus, enc_minus, max0, tkS]
      | x + 2 => simp [rdP, enc_plus, enc_minus, tkS]) 0 [some (.sh (.list (l.map encV))), some (.sh (.int 0)), none] ⟨none, rfl⟩
  subst e2
  simp [envOf, rdS, rdP, e1, tick, seqV]
def exT (f : M) : M := mth joinV (kM (.str " ")) (bin addV (bin mulV (lstA (consA (kM (.str "||||/")) nilA)) (bin fdivV f (kM (.int 5)))) (bin mulV (lstA (consA (bin mulV (kM (.str "|")) (bin modV f (kM (.int 5)))) nilA)) (callB intC (consA (bin gtV (bin modV f (kM (.int 5))) (kM (.int 0))) nilA))))
def tal (n : Nat) : Str := match exT (kM (.int n)) [] 0 with
  | .ok (.str x) _ => x
  | _ => ""
theorem ex_read {f : M} {ρ : DEnv} {k n : Nat} (h : ∀ k, f ρ k = .ok (.int n) k) : exT f ρ k = exT (kM (.int n)) ρ k := by
  unfold exT mth
  simp [h]
set_option maxHeartbeats 40000000 in
theorem ex_tal (ρ : DEnv) (k n : Nat) (h : n < 24) : exT (kM (.int n)) ρ k = .ok (.str (tal n)) k := by
  have : n = 0 ∨ n = 1 ∨ n = 2 ∨ n = 3 ∨ n = 4 ∨ n = 5 ∨ n = 6 ∨ n = 7 ∨ n = 8 ∨ n = 9 ∨ n = 10 ∨ n = 11 ∨ n = 12 ∨ n = 13 ∨ n = 14 ∨ n = 15 ∨ n = 16 ∨ n = 17 ∨ n = 18 ∨ n = 19 ∨ n = 20 ∨ n = 21 ∨ n = 22 ∨ n = 23 := by omega
  rcases this with e|e|e|e|e|e|e|e|e|e|e|e|e|e|e|e|e|e|e|e|e|e|e|e <;> subst e <;> kernel_rfl
theorem sp_tally (n : Nat) (h : n < 24) : f_tally [.int n] = .ok (.str (tal n)) := by
  have : n = 0 ∨ n = 1 ∨ n = 2 ∨ n = 3 ∨ n = 4 ∨ n = 5 ∨ n = 6 ∨ n = 7 ∨ n = 8 ∨ n = 9 ∨ n = 10 ∨ n = 11 ∨ n = 12 ∨ n = 13 ∨ n = 14 ∨ n = 15 ∨ n = 16 ∨ n = 17 ∨ n = 18 ∨ n = 19 ∨ n = 20 ∨ n = 21 ∨ n = 22 ∨ n = 23 := by omega
  rcases this with e|e|e|e|e|e|e|e|e|e|e|e|e|e|e|e|e|e|e|e|e|e|e|e <;> subst e <;> kernel_rfl
theorem sp_told1 (n : Nat) (h : n < 24) : f__law_told [.int 1, .str (tal n), .none, .none] = .ok (.int n) := by
  have : n = 0 ∨ n = 1 ∨ n = 2 ∨ n = 3 ∨ n = 4 ∨ n = 5 ∨ n = 6 ∨ n = 7 ∨ n = 8 ∨ n = 9 ∨ n = 10 ∨ n = 11 ∨ n = 12 ∨ n = 13 ∨ n = 14 ∨ n = 15 ∨ n = 16 ∨ n = 17 ∨ n = 18 ∨ n = 19 ∨ n = 20 ∨ n = 21 ∨ n = 22 ∨ n = 23 := by omega
  rcases this with e|e|e|e|e|e|e|e|e|e|e|e|e|e|e|e|e|e|e|e|e|e|e|e <;> subst e <;> kernel_rfl
theorem sh_tal (n : Nat) (h : n < 24) : Sh 0 (.str (tal n)) := by
  have : n = 0 ∨ n = 1 ∨ n = 2 ∨ n = 3 ∨ n = 4 ∨ n = 5 ∨ n = 6 ∨ n = 7 ∨ n = 8 ∨ n = 9 ∨ n = 10 ∨ n = 11 ∨ n = 12 ∨ n = 13 ∨ n = 14 ∨ n = 15 ∨ n = 16 ∨ n = 17 ∨ n = 18 ∨ n = 19 ∨ n = 20 ∨ n = 21 ∨ n = 22 ∨ n = 23 := by omega
  refine Sh.str ?_
  rcases this with e|e|e|e|e|e|e|e|e|e|e|e|e|e|e|e|e|e|e|e|e|e|e|e <;> subst e <;> kernel_rfl
theorem sp_tally0 : f_tally [.int 0] = .ok (.str "") := by kernel_rfl
theorem sp_wrong : ∀ x ∈ [PyData.str "|||||", .str "| ||||/", .str "x", .str "||||/ ", .str "||  |"], f__law_told [.int 1, x, .none, .none] = .ok (.str "none") := by
  intro x hx
  simp only [List.mem_cons, List.not_mem_nil, or_false] at hx
  rcases hx with e|e|e|e|e <;> subst e <;> kernel_rfl
theorem sp_told0 {t : Tr} {p r : Int} (h : t.2 ≠ 0) : f__law_told [.int 0, encT t, .int p, .int r] = .ok (if 1 ≤ p ∧ p ≤ t.2 then .int (nextAt t p r) else .str "none") := by
  unfold f__law_told defF d__law_told
  have e := sp_next_at (p := p) (r := r) h
  by_cases c : 1 ≤ p ∧ p ≤ t.2
  · rw [if_pos c] at e ⊢
    simp [envOf, rdS, rdP, toldS, e]
  · rw [if_neg c] at e ⊢
    simp [envOf, rdS, rdP, toldS, e]
theorem sp_is0 : ∀ q ∈ [(PyData.tuple [.tuple [.int 1, .int 4]], true), (.tuple [], false), (.tuple [.tuple [.int 0, .int 4]], false), (.tuple [.tuple [.int 1, .int 0]], false), (.tuple [.tuple [.int 1, .int 1001]], false), (.list [.tuple [.int 1, .int 4]], false), (.tuple [.tuple [.bool true, .int 4]], false), (.tuple (List.replicate 9 (.tuple [.int 1, .int 4])), false), (.none, false)], f_is_tracks [q.1] = .ok (.bool q.2) := by
  intro x hx
  simp only [List.mem_cons, List.not_mem_nil, or_false] at hx
  rcases hx with e|e|e|e|e|e|e|e|e <;> subst e <;> kernel_rfl
theorem sp_is_tracks {ts : List Tr} (h : GTs ts) (hl : 1 ≤ ts.length ∧ ts.length ≤ 8) : f_is_tracks [.tuple (ts.map encT)] = .ok (.bool true) := by
  unfold f_is_tracks defF d_is_tracks
  have e0 : lenC [.tuple (ts.map encT)] = some (.int (ts.length : Int)) := by
    show some (PyData.int ((ts.map encT).length : Nat)) = _
    rw [List.length_map]
  have i0 : isiV "tuple" (.tuple (ts.map encT)) = some (.bool true) := by show some (PyData.bool (isB (tyN (.tuple (ts.map encT))) "tuple")) = _; rfl
  obtain ⟨ρ', e1, x1, e2⟩ := forL_inv (b := bNm 1) (body := seqS (ifS (orB (notB (tru (una (isiV "tuple") (rdP 1)))) (tst (bin neV (callB lenC (consA (rdP 1) nilA)) (kM (.int 2))))) (retS (kM (.bool false))) skip)
  (ifS (notB (tru (gnM false (seqI (rdS 1)) (bNm 2) (andV (una (isiV "int") (rdP 2)) (andV (una notV (una (isiV "bool") (rdP 2))) (chn leV leV (kM (.int 1)) (rdP 2) (kM (.int 1000))))) [2]))) (retS (kM (.bool false))) skip))
    encT (fun (s : Int) ρ => ∃ x1 : Option SV, ρ = [some (.sh (.tuple (ts.map encT))), x1, none]) (fun s _ => s) 0 ts (fun s ρ x hx ⟨x1, e⟩ => by
      subst e
      refine ⟨_, _, rfl, .inl ?_, some (.sh (encT x)), rfl⟩
      have a := (h x hx).a
      have a2 := (h x hx).b
      have c := (h x hx).c
      have c2 := (h x hx).d
      have l2 : lenC [encT x] = some (.int 2) := rfl
      have i2 : isiV "tuple" (encT x) = some (.bool true) := by show some (PyData.bool (isB (tyN (encT x)) "tuple")) = _; rfl
      have s2 : seqV (encT x) = some ([x.1, x.2].map PyData.int) := rfl
      have g : gnL false (bNm 2) (andV (una (isiV "int") (rdP 2)) (andV (una notV (una (isiV "bool") (rdP 2))) (chn leV leV (kM (.int 1)) (rdP 2) (kM (.int 1000))))) [some (.sh (.tuple (ts.map encT))), some (.sh (encT x)), none] ([x.1, x.2].map PyData.int) 0 = .ok ([x.1, x.2].all fun _ => true) 0 := by
        refine gnL_map (c := false) PyData.int (fun _ => true) _ fun z hz => ⟨_, rfl, ?_⟩
        have hz : 1 ≤ z ∧ z ≤ 1000 := by
          simp only [List.mem_cons, List.not_mem_nil, or_false] at hz
          rcases hz with rfl | rfl <;> omega
        have i3 : isiV "int" (.int z) = some (.bool true) := by show some (PyData.bool (isB (tyN (.int z)) "int")) = _; rfl
        have i4 : isiV "bool" (.int z) = some (.bool false) := by show some (PyData.bool (isB (tyN (.int z)) "bool")) = _; rfl
        simp [andV, chn, rdP, i3, i4, notV, hz.1, hz.2]
      simp [rdP, rdS, i2, l2, s2, wipeE] at g ⊢
      simp [g]) 0 [some (.sh (.tuple (ts.map encT))), none, none] ⟨none, rfl⟩
  subst e2
  have d1 : decide ((1 : Int) ≤ (ts.length : Int)) = true := decide_eq_true (by omega)
  have d2 : decide ((ts.length : Int) ≤ 8) = true := decide_eq_true (by omega)
  simp [envOf, rdS, rdP, e1, seqV, e0, i0, chn, d1, d2]
end K18
set_option Elab.async false
set_option linter.all false
set_option maxRecDepth 100000
set_option maxHeartbeats 4000000
namespace K18
open PySem DL
/-! plain laws -/
theorem eqv_row (t : Tr) (r p : Int) : PyData.eqv (rowIn t r) (.int p) = decide (t.1 ≤ r ∧ (r - t.1).fmod t.2 + 1 = p) := by
  unfold rowIn
  by_cases c : r < t.1
  · rw [if_pos c]
    have : ¬ (t.1 ≤ r ∧ (r - t.1).fmod t.2 + 1 = p) := fun x => by omega
    rw [decide_eq_false this]
    rfl
  · rw [if_neg c]
    show ((r - t.1).fmod t.2 + 1 == p) = _
    by_cases d : (r - t.1).fmod t.2 + 1 = p
    · rw [decide_eq_true ⟨by omega, d⟩, d]
      exact beq_self_eq_true p
    · rw [decide_eq_false fun x => d x.2]
      exact beq_eq_false_iff_ne.mpr d
theorem rep_count {t : Tr} (h : GT t) : ∀ n : Nat, (((List.range n).filter fun (k : Nat) => PyData.eqv (rowIn t (1 + (k : Int))) (.int t.2)).length : Int) = if (n : Int) < t.1 then 0 else ((n : Int) - t.1 + 1).fdiv t.2
  | 0 => by
    have := h.a
    rw [if_pos (by omega)]
    rfl
  | n + 1 => by
    have ih := rep_count h n
    obtain ⟨a, b, c, d⟩ := h
    obtain ⟨f, m⟩ := t
    simp only at a b c d ih ⊢
    rw [List.range_succ, List.filter_append, List.length_append, Int.natCast_add, ih]
    have e : (([n].filter fun (k : Nat) => PyData.eqv (rowIn (f, m) (1 + (k : Int))) (.int m)).length : Int) = if f ≤ 1 + (n : Int) ∧ (1 + (n : Int) - f).fmod m + 1 = m then 1 else 0 := by
      simp only [List.filter_cons, List.filter_nil, eqv_row, decide_eq_true_eq]
      by_cases k : f ≤ 1 + (n : Int) ∧ (1 + (n : Int) - f).fmod m + 1 = m
      · rw [if_pos k, if_pos k]; rfl
      · rw [if_neg k, if_neg k]; rfl
    rw [e]
    have hm : m = 1 ∨ m = 2 ∨ m = 3 ∨ m = 4 ∨ m = 5 ∨ m = 6 ∨ m = 7 ∨ m = 8 := by omega
    rcases hm with k|k|k|k|k|k|k|k <;> subst k <;> rw [Int.fmod_eq_emod_of_nonneg _ (by omega), Int.fdiv_eq_ediv_of_nonneg _ (by omega), Int.fdiv_eq_ediv_of_nonneg _ (by omega)] <;> split <;> split <;> split <;> omega
theorem range_first {p : Nat → Bool} {n d : Nat} (hd : d < n) (h : p d = true) (hm : ∀ j, j < d → p j = false) : ∃ r, (List.range n).filter p = d :: r := by
  rw [show n = d + ((n - d - 1) + 1) from by omega, List.range_add, List.filter_append]
  have f1 : (List.range d).filter p = [] := List.filter_eq_nil_iff.mpr fun j hj => by
    rw [hm j (List.mem_range.mp hj)]
    exact Bool.false_ne_true
  rw [f1, List.nil_append, List.range_succ_eq_map, List.map_cons, List.filter_cons, Nat.add_zero, if_pos h]
  exact ⟨_, rfl⟩
theorem able_first {t : Tr} {p row : Int} (h : GT t) (hr : 1 ≤ row) (hp : 1 ≤ p ∧ p ≤ t.2) : ∃ (d : Nat) (r : List Nat), nextAt t p row = row + d ∧ ((List.range 40).filter fun (k : Nat) => PyData.eqv (rowIn t (row + (k : Int))) (.int p)) = d :: r := by
  obtain ⟨a, b, c, d⟩ := h
  obtain ⟨f, m⟩ := t
  simp only at a b c d hp
  have key : 0 ≤ nextAt (f, m) p row - row ∧ nextAt (f, m) p row - row < 40 ∧ f ≤ nextAt (f, m) p row ∧ (nextAt (f, m) p row - f).fmod m + 1 = p ∧ ∀ j : Int, 0 ≤ j → j < nextAt (f, m) p row - row → f ≤ row + j → (row + j - f).fmod m + 1 = p → False := by
    unfold nextAt
    simp only
    have hm : m = 1 ∨ m = 2 ∨ m = 3 ∨ m = 4 ∨ m = 5 ∨ m = 6 ∨ m = 7 ∨ m = 8 := by omega
    rcases hm with k|k|k|k|k|k|k|k <;> subst k <;> by_cases q : f > row <;> simp only [q, if_true, if_false] <;> rw [Int.fmod_eq_emod_of_nonneg _ (by omega), Int.fmod_eq_emod_of_nonneg _ (by omega)] <;> refine ⟨by omega, by omega, by omega, by omega, fun j h0 h1 h2 h3 => ?_⟩ <;> rw [Int.fmod_eq_emod_of_nonneg _ (by omega)] at h3 <;> omega
  obtain ⟨k1, k2, k3, k4, k5⟩ := key
  refine ⟨(nextAt (f, m) p row - row).toNat, ?_⟩
  obtain ⟨r, hr⟩ := range_first (p := fun (k : Nat) => PyData.eqv (rowIn (f, m) (row + (k : Int))) (.int p)) (n := 40) (d := (nextAt (f, m) p row - row).toNat) (by omega) (by
    rw [eqv_row]
    refine decide_eq_true ?_
    rw [show row + (((nextAt (f, m) p row - row).toNat : Nat) : Int) = nextAt (f, m) p row from by omega]
    exact ⟨k3, k4⟩) (fun j hj => by
    rw [eqv_row]
    exact decide_eq_false fun x => k5 j (by omega) (by omega) x.1 x.2)
  exact ⟨r, by omega, hr⟩
theorem lcm_fold (x : Nat) : ∀ (ns : List Nat) (a : Nat), ns.foldl Nat.lcm a ∣ x ↔ a ∣ x ∧ ∀ n ∈ ns, n ∣ x
  | [], a => by simp
  | m :: ns, a => by
    rw [List.foldl_cons, lcm_fold x ns, Nat.lcm_dvd_iff]
    simp [and_assoc]
theorem lcm_fpos : ∀ (ns : List Nat) (a : Nat), 0 < a → (∀ n ∈ ns, 0 < n) → 0 < ns.foldl Nat.lcm a
  | [], a, h, _ => h
  | m :: ns, a, h, k => lcm_fpos ns _ (Nat.lcm_pos h (k m List.mem_cons_self)) fun n hn => k n (List.mem_cons_of_mem _ hn)
theorem lcm_tab : ((List.range 9).all fun a => (List.range 9).all fun b => (List.range 9).all fun c => decide (Nat.lcm (Nat.lcm (Nat.lcm 1 a) b) c ≤ 280)) = true := by kernel_rfl
theorem lcm_le {a b c : Nat} (ha : a < 9) (hb : b < 9) (hc : c < 9) : Nat.lcm (Nat.lcm (Nat.lcm 1 a) b) c ≤ 280 := by
  have := lcm_tab
  rw [List.all_eq_true] at this
  have := this a (List.mem_range.mpr ha)
  rw [List.all_eq_true] at this
  have := this b (List.mem_range.mpr hb)
  rw [List.all_eq_true] at this
  exact of_decide_eq_true (this c (List.mem_range.mpr hc))
theorem whole_pos {ts : List Tr} (h : GTs ts) : 0 < whole ts := lcm_fpos _ _ Nat.one_pos fun n hn => (manys_ok h n hn).1
theorem whole_le {ts : List Tr} (h : GTs ts) (hl : ts.length ≤ 3) : whole ts ≤ 280 := by
  match ts, h, hl with
  | [], _, _ => decide
  | [a], h, _ =>
    have := (h a (by simp)).d
    have := lcm_le (a := 1) (b := 1) (c := a.2.toNat) (by omega) (by omega) (by omega)
    simpa [whole, lcms, manys] using this
  | [a, b], h, _ =>
    have := (h a (by simp)).d
    have := (h b (by simp)).d
    have := lcm_le (a := 1) (b := a.2.toNat) (c := b.2.toNat) (by omega) (by omega) (by omega)
    simpa [whole, lcms, manys] using this
  | [a, b, c], h, _ =>
    have := (h a (by simp)).d
    have := (h b (by simp)).d
    have := (h c (by simp)).d
    have := lcm_le (a := a.2.toNat) (b := b.2.toNat) (c := c.2.toNat) (by omega) (by omega) (by omega)
    simpa [whole, lcms, manys] using this
  | a :: b :: c :: d :: r, _, hl => simp only [List.length_cons] at hl; omega
def divs (ts : List Tr) (k : Int) : Bool := ts.all fun t => (k.fmod t.2 == 0)
theorem divs_iff {ts : List Tr} (h : GTs ts) (k : Nat) : divs ts (k : Int) = true ↔ whole ts ∣ k := by
  unfold divs whole lcms
  rw [lcm_fold, List.all_eq_true]
  unfold manys
  constructor
  · intro hh
    refine ⟨Nat.one_dvd k, fun n hn => ?_⟩
    obtain ⟨t, ht, rfl⟩ := List.mem_map.mp hn
    have c := (h t ht).c
    have e := eq_of_beq (hh t ht)
    rw [Int.fmod_eq_emod_of_nonneg _ (by omega)] at e
    have := Int.dvd_of_emod_eq_zero e
    rw [show t.2 = ((t.2.toNat : Nat) : Int) from by omega] at this
    exact Int.natCast_dvd_natCast.mp this
  · intro ⟨_, hh⟩ t ht
    have c := (h t ht).c
    have := hh _ (List.mem_map.mpr ⟨t, ht, rfl⟩)
    have := Int.natCast_dvd_natCast.mpr this
    rw [show ((t.2.toNat : Nat) : Int) = t.2 from by omega] at this
    rw [Int.fmod_eq_emod_of_nonneg _ (by omega), Int.emod_eq_zero_of_dvd this]
    rfl
theorem whole_first {ts : List Tr} (h : GTs ts) (hl : ts.length ≤ 3) : ∃ (d : Nat) (r : List Nat), (whole ts : Int) = 1 + (d : Int) ∧ ((List.range 399).filter fun (k : Nat) => divs ts (1 + (k : Int))) = d :: r := by
  have p := whole_pos h
  have q := whole_le h hl
  refine ⟨whole ts - 1, ?_⟩
  obtain ⟨r, hr⟩ := range_first (p := fun (k : Nat) => divs ts (1 + (k : Int))) (n := 399) (d := whole ts - 1) (by omega) (by
    show divs ts (1 + ((whole ts - 1 : Nat) : Int)) = true
    rw [show 1 + ((whole ts - 1 : Nat) : Int) = ((whole ts : Nat) : Int) from by omega]
    exact (divs_iff h _).mpr (Nat.dvd_refl _)) (fun j hj => by
    show divs ts (1 + (j : Int)) = false
    rw [show 1 + (j : Int) = ((1 + j : Nat) : Int) from by omega]
    refine Bool.eq_false_iff.mpr fun e => ?_
    have := Nat.le_of_dvd (by omega) ((divs_iff h _).mp e)
    omega)
  exact ⟨r, by omega, hr⟩
def bothP (ts : List Tr) (k : Int) : Bool := ts.all fun t => ((k - t.1).fmod t.2 == 0)
theorem maxI_le : ∀ (r : List Int) (x : Int), x ≤ maxI x r ∧ ∀ y ∈ r, y ≤ maxI x r
  | [], x => ⟨Int.le_refl x, fun _ h => by cases h⟩
  | y :: r, x => by
    show x ≤ maxI (if y > x then y else x) r ∧ _
    have ih := maxI_le r (if y > x then y else x)
    have l1 : x ≤ (if y > x then y else x) := by split <;> omega
    have l2 : y ≤ (if y > x then y else x) := by split <;> omega
    refine ⟨Int.le_trans l1 ih.1, fun z hz => ?_⟩
    rcases List.mem_cons.mp hz with rfl | hz
    · exact Int.le_trans l2 ih.1
    · exact ih.2 z hz
theorem meets_both {ts : List Tr} {row k : Int} (hk : startOf ts row ≤ k) : meets ts k = bothP ts k := by
  unfold meets bothP
  rw [Bool.eq_iff_iff, List.all_eq_true, List.all_eq_true]
  refine forall_congr' fun t => forall_congr' fun ht => ?_
  have l : t.1 ≤ startOf ts row := (maxI_le (ts.map (·.1)) row).2 _ (List.mem_map.mpr ⟨t, ht, rfl⟩)
  rw [eqv_row, decide_eq_true_eq, beq_iff_eq]
  constructor
  · intro h; omega
  · intro h; exact ⟨by omega, by omega⟩
theorem find_filter {α β : Type} (p : α → Bool) (F : α → β) (z : β) : ∀ l : List α, (match l.findSome? fun a => if p a = true then some (F a) else none with
    | some b => b
    | none => z) = (match (l.filter p).map F with
    | b :: _ => b
    | [] => z)
  | [] => rfl
  | a :: l => by
    rw [List.findSome?_cons, List.filter_cons]
    cases h : p a with
    | true => simp
    | false => simpa using find_filter p F z l
def both (ts : List Tr) (row : Int) : List Nat := (List.range (whole ts)).filter fun (k : Nat) => bothP ts (startOf ts row + k)
theorem meet_both (ts : List Tr) (row : Int) : meetAt ts row = match (both ts row).map fun (k : Nat) => PyData.int (startOf ts row + k) with
    | b :: _ => b
    | [] => .none := by
  have F := find_filter (fun (k : Nat) => bothP ts (startOf ts row + k)) (fun (k : Nat) => PyData.int (startOf ts row + k)) .none (List.range (whole ts))
  have : (fun (k : Nat) => if meets ts (startOf ts row + k) = true then some (PyData.int (startOf ts row + k)) else none) = fun (k : Nat) => if bothP ts (startOf ts row + k) = true then some (PyData.int (startOf ts row + k)) else none := by
    funext k
    rw [meets_both (row := row) (by omega)]
  unfold meetAt
  rw [this]
  unfold both
  cases h1 : (List.range (whole ts)).findSome? (fun (k : Nat) => if bothP ts (startOf ts row + k) = true then some (PyData.int (startOf ts row + k)) else none) <;> cases h2 : ((List.range (whole ts)).filter fun (k : Nat) => bothP ts (startOf ts row + k)).map (fun (k : Nat) => PyData.int (startOf ts row + k)) <;> rw [h1, h2] at F <;> exact F
end K18
set_option Elab.async false
set_option linter.all false
set_option maxRecDepth 100000
set_option maxHeartbeats 4000000
namespace K18
open PySem DL
/-! the law's own statements, one by one -/
variable {R : List Int} {ρ : DEnv} {n : Nat}
def Wins (f : MS) (ρ : DEnv) (n : Nat) : Prop := ∃ m, f ρ n = .ret (.bool true) m
theorem win_set {i : Nat} {f : M} {rest : MS} {p : PV} {n1 : Nat} (h : f ρ n = .ok p n1) (w : Wins rest (ρ.set i (some (.sh p))) n1) : Wins (seqS (setS i f) rest) ρ n := by
  obtain ⟨m, e⟩ := w
  exact ⟨m, by rw [e_seqS, e_setS, h]; exact e⟩
theorem win_chk {c : MB} {a : MS} {rest : MS} {n1 : Nat} (h : c ρ n = .ok false n1) (w : Wins rest ρ n1) : Wins (seqS (ifS c a skip) rest) ρ n := by
  obtain ⟨m, e⟩ := w
  exact ⟨m, by rw [e_seqS, e_ifS, h]; exact e⟩
theorem win_for {f rest : MS} {ρ1 : DEnv} {n1 : Nat} (h : f ρ n = .next ρ1 n1) (w : Wins rest ρ1 n1) : Wins (seqS f rest) ρ n := by
  obtain ⟨m, e⟩ := w
  exact ⟨m, by rw [e_seqS, h]; exact e⟩
def Rd (ρ : DEnv) (i : Nat) (p : PV) : Prop := ρ[i]? = some (some (.sh p))
theorem Rd.s {i : Nat} {p : PV} (h : Rd ρ i p) (n : Nat) : rdS i ρ n = .ok p n := e_rdS _ _ h
theorem Rd.p {i : Nat} {p : PV} (h : Rd ρ i p) (n : Nat) : rdP i ρ n = .ok p n := e_rdP _ _ h
theorem Rd.ne {i j : Nat} {p : PV} {x : Option SV} (h : Rd ρ i p) (k : j ≠ i) : Rd (ρ.set j x) i p := by
  unfold Rd
  rw [List.getElem?_set_ne k]
  exact h
theorem Rd.eq {i : Nat} {p : PV} (h : i < ρ.length) : Rd (ρ.set i (some (.sh p))) i p := by
  unfold Rd
  rw [List.getElem?_set_self h]
theorem rds_ne {i j : Nat} {x : Option SV} (k : j ≠ i) : rdS i (ρ.set j x) n = rdS i ρ n := by
  unfold rdS
  rw [List.getElem?_set_ne k]
theorem rdp_ne {i j : Nat} {x : Option SV} (k : j ≠ i) : rdP i (ρ.set j x) n = rdP i ρ n := by
  unfold rdP
  rw [List.getElem?_set_ne k]
theorem rds_eq {i : Nat} {p : PV} (h : i < ρ.length) : rdS i (ρ.set i (some (.sh p))) n = .ok p n := (Rd.eq h).s n
theorem rdp_eq {i : Nat} {p : PV} (h : i < ρ.length) : rdP i (ρ.set i (some (.sh p))) n = .ok p n := (Rd.eq h).p n
def Bx (ρ : DEnv) : Prop := ρ[1]? = some (some .bx)
theorem Bx.ne {j : Nat} {x : Option SV} (h : Bx ρ) (k : j ≠ 1) : Bx (ρ.set j x) := by
  unfold Bx
  rw [List.getElem?_set_ne k]
  exact h
theorem nx {f : M} {m : Int} {n1 : Nat} (h : Bx ρ) (e : f ρ n = .ok (.int m) n1) (hm : 0 < m) : ∃ d : Int, 0 ≤ d ∧ d < m ∧ nxt R 1 f ρ n = .ok (.int d) (n1 + 1) := by
  have hn : m ≠ 0 := by omega
  refine ⟨drawV R n1 m, ?_, ?_, e_nxt _ _ h e hn⟩
  · exact (fm_lt hm).1
  · exact (fm_lt hm).2
def encTs (ts : List Tr) : PV := .tuple (ts.map encT)
theorem seq_ts (ts : List Tr) : seqV (encTs ts) = some (ts.map encT) := rfl
theorem two_le : 2 ≤ sizeLine := by rw [sizeLine_eq]; decide
theorem k0 (L : ρ.length = 35) (hb : Bx ρ) : ∃ (ts : List Tr) (n1 : Nat), GTs ts ∧ 1 ≤ ts.length ∧ ts.length ≤ 3 ∧ ((callB tupleC (consA (lcM (rngI rng1V (consA (bin addV (kM (.int 1)) (nxt R 1 (kM (.int 3)))) nilA)) (bNm 2) yes (tupA (consA (bin addV (kM (.int 1)) (nxt R 1 (kM (.int 9)))) (consA (bin addV (kM (.int 1)) (nxt R 1 (kM (.int 8)))) nilA))) [2]) nilA))) ρ n = .ok (encTs ts) n1 := by
  obtain ⟨d, d1, d2, e⟩ := nx (R := R) (n := n) (f := kM (.int 3)) hb rfl (by decide)
  have hr := rng1_nat (b := 1 + d) (by omega)
  obtain ⟨ys, n1, e1, hl, hg⟩ := lcL_rel (b := bNm 2) (elt := tupA (consA (bin addV (kM (.int 1)) (nxt R 1 (kM (.int 9)))) (consA (bin addV (kM (.int 1)) (nxt R 1 (kM (.int 8)))) nilA))) (ρ0 := wipeE ρ [2]) (fun (k : Nat) => .int (k : Int)) encT (fun _ t => GT t) (List.range (1 + d).toNat) (fun k _ m => by
    have hb2 : Bx ((wipeE ρ [2]).set 2 (some (.sh (.int (k : Int))))) := (hb.ne (by decide)).ne (by decide)
    obtain ⟨x, x1, x2, ex⟩ := nx (R := R) (n := m) (f := kM (.int 9)) hb2 rfl (by decide)
    obtain ⟨y, y1, y2, ey⟩ := nx (R := R) (n := m + 1) (f := kM (.int 8)) hb2 rfl (by decide)
    refine ⟨_, (1 + x, 1 + y), m + 1 + 1, rfl, ?_, ⟨by show 1 ≤ 1 + x; omega, by show 1 + x ≤ 9; omega, by show 1 ≤ 1 + y; omega, by show 1 + y ≤ 8; omega⟩⟩
    simp [ex, ey, encT, two_le]) (n + 1)
  refine ⟨ys, n1, fun t ht => ?_, ?_, ?_, ?_⟩
  · obtain ⟨_, _, g⟩ := hg t ht
    exact g
  · rw [hl, List.length_range]; omega
  · rw [hl, List.length_range]; omega
  · simp [e, hr, e1, tupleC, encTs]
theorem k1 (hb : Bx ρ) : ∃ (row : Int) (n1 : Nat), 1 ≤ row ∧ row ≤ 40 ∧ ((bin addV (kM (.int 1)) (nxt R 1 (kM (.int 40))))) ρ n = .ok (.int row) n1 := by
  obtain ⟨d, d1, d2, e⟩ := nx (R := R) (n := n) (f := kM (.int 40)) hb rfl (by decide)
  refine ⟨1 + d, _, by omega, by omega, by rw [e_bin, e_kM]; simp only [Out.bind_ok, e]; rfl⟩
variable {ts : List Tr} {row : Int}
def rowsAt (ts : List Tr) (row : Int) : PV := .list (ts.map fun t => rowIn t row)
theorem k2 (L : ρ.length = 35) (g : GTs ts) (hr : 1 ≤ row ∧ row ≤ 40) (h3 : Rd ρ 3 (encTs ts)) (h4 : Rd ρ 4 (.int row)) : ((lcM (seqI (rdS 3)) (bNm 5) yes (callM 2 f__law_shown (consA (rdS 5) (consA (rdS 4) nilA))) [5])) ρ n = .ok (rowsAt ts row) n := by
  rw [e_lcM, e_seqI]
  simp only [h3.s, Out.bind_ok, seq_ts, opA]
  rw [lcL_all encT (fun t => rowIn t row)]
  · rfl
  · intro t ht
    refine ⟨_, rfl, ?_⟩
    simp [wipeE, rds_ne, rds_eq, L, h4.s, sp_shown (g t ht) (show 0 ≤ row by omega) (by omega)]
theorem k3 (L : ρ.length = 35) (g : GTs ts) (hl : 1 ≤ ts.length ∧ ts.length ≤ 3) (hr : 1 ≤ row ∧ row ≤ 40) (h3 : Rd ρ 3 (encTs ts)) (h4 : Rd ρ 4 (.int row)) (h6 : Rd ρ 6 (rowsAt ts row)) : ((orB (tst (bin isnV (callM 1 f_is_tracks (consA (rdS 3) nilA)) (kM (.bool true)))) (orB (tst (bin neV (callM 2 f_rows_in (consA (rdS 3) (consA (rdS 4) nilA))) (rdP 6))) (tst (bin neV (lcM (seqI (rdS 3)) (bNm 5) yes (callM 2 f_row_in (consA (rdS 5) (consA (rdS 4) nilA))) [5]) (rdP 6)))))) ρ n = .ok false n := by
  have s1 : Sh 1 (rowsAt ts row) := sh_rows ts row
  have a1 : f_is_tracks [encTs ts] = .ok (.bool true) := sp_is_tracks g (by omega)
  have a2 : f_rows_in [encTs ts, .int row] = .ok (rowsAt ts row) := sp_rows_in fun t ht => (g t ht).ne
  have a3 : lcL (bNm 5) yes (callM 2 f_row_in (consA (rdS 5) (consA (rdS 4) nilA))) (wipeE ρ [5]) (ts.map encT) n = .ok (ts.map fun t => rowIn t row) n := lcL_all encT _ ts fun t ht => ⟨_, rfl, by simp [wipeE, rds_ne, rds_eq, L, h4.s, sp_row_in (r := row) (g t ht).ne]⟩
  have a4 : isnV (.bool true) (.bool true) = some (.bool false) := rfl
  have a5 : neV (.list (ts.map fun t => rowIn t row)) (rowsAt ts row) = some (.bool false) := v_ne_self s1
  have a6 : neV (rowsAt ts row) (rowsAt ts row) = some (.bool false) := v_ne_self s1
  simp [h3.s, h4.s, h6.p, a1, a2, seq_ts, a3, a4, a5, a6]
def doneC (t : Tr) (row : Int) : Int := if row < t.1 then 0 else (row - t.1 + 1).fdiv t.2
def donesAt (ts : List Tr) (row : Int) : PV := .list (ts.map fun t => .int (doneC t row))
theorem k4 (L : ρ.length = 35) (g : GTs ts) (hr : 1 ≤ row ∧ row ≤ 40) (h3 : Rd ρ 3 (encTs ts)) (h4 : Rd ρ 4 (.int row)) : ((lcM (seqI (rdS 3)) (bNm 5) yes (callB lenC (consA (lcM (rngI rng2V (consA (kM (.int 1)) (consA (bin addV (rdP 4) (kM (.int 1))) nilA))) (bNm 2) (tst (bin eqV (callM 2 f__law_shown (consA (rdS 5) (consA (rdS 2) nilA))) (bin ixV (rdP 5) (kM (.int 1))))) (rdS 2) [2]) nilA)) [5])) ρ n = .ok (donesAt ts row) n := by
  rw [e_lcM, e_seqI]
  simp only [h3.s, Out.bind_ok, seq_ts, opA]
  rw [lcL_all encT (fun t => .int (doneC t row))]
  · rfl
  · intro t ht
    refine ⟨_, rfl, ?_⟩
    have hr2 := rng2_nat (a := 1) (b := row + 1) (by omega)
    have e := lcL_map (b := bNm 2) (tt := tst (bin eqV (callM 2 f__law_shown (consA (rdS 5) (consA (rdS 2) nilA))) (bin ixV (rdP 5) (kM (.int 1))))) (elt := rdS 2) (ρ0 := wipeE ((wipeE ρ [5]).set 5 (some (.sh (encT t)))) [2]) (n := n) (fun (k : Nat) => .int (1 + (k : Int))) (fun (k : Nat) => PyData.eqv (rowIn t (1 + (k : Int))) (.int t.2)) (fun (k : Nat) => .int (1 + (k : Int))) (List.range (row + 1 - 1).toNat) (fun k hk => by
      have hk := List.mem_range.mp hk
      refine ⟨_, rfl, ?_, fun _ => ?_⟩
      · have x := v_eq (sh_rowIn t (1 + (k : Int))) (Sh.int (d := 0) t.2)
        have y : ixV (encT t) (.int 1) = some (.int t.2) := ix2
        simp [wipeE, rds_ne, rds_eq, rdp_ne, rdp_eq, L, sp_shown (row := 1 + (k : Int)) (g t ht) (by omega) (by omega), x, y]
      · simp [wipeE, rds_eq, L])
    have c := rep_count (g t ht) (row + 1 - 1).toNat
    rw [show (((row + 1 - 1).toNat : Nat) : Int) = row from by omega] at c
    simp only [e_callB, e_consA, e_nilA, e_lcM, e_rngI, e_kM, e_bin, Out.bind_ok, wipeE, rdp_ne (show (5 : Nat) ≠ 4 by decide), h4.p, v_add, opt, hr2, opA]
    simp only [wipeE] at e
    rw [e]
    simp only [noX, Out.bind_ok, opt, lenC, List.length_map]
    show Out.ok (PyData.int _) n = .ok (.int (doneC t row)) n
    unfold doneC
    rw [← c]
theorem k5 (L : ρ.length = 35) (g : GTs ts) (h3 : Rd ρ 3 (encTs ts)) (h4 : Rd ρ 4 (.int row)) (h7 : Rd ρ 7 (donesAt ts row)) : ((tst (bin neV (lcM (seqI (rdS 3)) (bNm 5) yes (callM 2 f_repeats_done (consA (rdS 5) (consA (rdS 4) nilA))) [5]) (rdP 7)))) ρ n = .ok false n := by
  have s1 : Sh 1 (donesAt ts row) := Sh.list fun x hx => by
    obtain ⟨t, _, rfl⟩ := List.mem_map.mp hx
    exact Sh.int _
  have a3 : lcL (bNm 5) yes (callM 2 f_repeats_done (consA (rdS 5) (consA (rdS 4) nilA))) (wipeE ρ [5]) (ts.map encT) n = .ok (ts.map fun t => .int (doneC t row)) n := lcL_all encT _ ts fun t ht => ⟨_, rfl, by
    have := (g t ht).c
    have := (g t ht).d
    simp [wipeE, rds_ne, rds_eq, L, h4.s, sp_repeats_done (t := t) (r := row) (by omega), doneC]⟩
  have a5 : neV (.list (ts.map fun t => .int (doneC t row))) (donesAt ts row) = some (.bool false) := v_ne_self s1
  simp [h3.s, h4.s, h7.p, seq_ts, a3, a5]
end K18
set_option Elab.async false
set_option linter.all false
set_option maxRecDepth 100000
set_option maxHeartbeats 4000000
namespace K18
open PySem DL
variable {R : List Int} {ρ : DEnv} {n : Nat} {ts : List Tr} {row : Int}
theorem ix0 (p : PV) (r : List PV) : ixV (.list (p :: r)) (.int 0) = some p := by
  show L2.atI _ ((0 : Nat) : Int) = _
  exact L2.atI_nat (j := 0) rfl
theorem ixt0 (p : PV) (r : List PV) : ixV (.tuple (p :: r)) (.int 0) = some p := by
  show L2.atI _ ((0 : Nat) : Int) = _
  exact L2.atI_nat (j := 0) rfl
theorem bls_map {α : Type} (f : α → Bool) : ∀ l : List α, blsOf (l.map fun x => .bool (f x)) = some (l.map f)
  | [] => rfl
  | a :: l => by
    simp only [List.map_cons, blsOf, bls_map f l, Option.map_some]
theorem all_map {α : Type} (f : α → Bool) (l : List α) : allC [.list (l.map fun x => .bool (f x))] = some (.bool (l.all f)) := by
  unfold allC
  simp only [bls_map, Option.map_some]
  rw [List.all_map]
  rfl
theorem any_map {α : Type} (f : α → Bool) (l : List α) : anyC [.list (l.map fun x => .bool (f x))] = some (.bool (l.any f)) := by
  unfold anyC
  simp only [bls_map, Option.map_some]
  rw [List.any_map]
  rfl
theorem k6 (hl : 1 ≤ ts.length) (h3 : Rd ρ 3 (encTs ts)) : ∃ t ∈ ts, ((bin ixV (rdP 3) (kM (.int 0)))) ρ n = .ok (encT t) n := by
  cases ts with
  | nil => simp only [List.length_nil] at hl; omega
  | cons t r =>
    refine ⟨t, List.mem_cons_self, ?_⟩
    have e : ixV (encTs (t :: r)) (.int 0) = some (encT t) := ixt0 _ _
    simp [h3.p, e]
variable {t : Tr}
theorem k7 (hb : Bx ρ) (g : GT t) (h5 : Rd ρ 5 (encT t)) : ∃ (p : Int) (n1 : Nat), ((bin subV (nxt R 1 (bin addV (bin ixV (rdP 5) (kM (.int 1))) (kM (.int 3)))) (kM (.int 1)))) ρ n = .ok (.int p) n1 := by
  have y : ixV (encT t) (.int 1) = some (.int t.2) := ix2
  obtain ⟨d, d1, d2, e⟩ := nx (R := R) (n := n) (f := bin addV (bin ixV (rdP 5) (kM (.int 1))) (kM (.int 3))) (m := t.2 + 3) (n1 := n) hb (by simp [h5.p, y]) (by have := g.c; omega)
  exact ⟨d - 1, n + 1, by rw [e_bin, e]; rfl⟩
variable {p : Int}
def ablesAt (t : Tr) (row p : Int) : List Nat := (List.range 40).filter fun (k : Nat) => PyData.eqv (rowIn t (row + (k : Int))) (.int p)
def encR (a : Int) (l : List Nat) : PV := .list (l.map fun (k : Nat) => .int (a + (k : Int)))
theorem k8 (L : ρ.length = 35) (g : GT t) (hr : 1 ≤ row ∧ row ≤ 40) (h4 : Rd ρ 4 (.int row)) (h5 : Rd ρ 5 (encT t)) (h8 : Rd ρ 8 (.int p)) : ((lcM (rngI rng2V (consA (rdS 4) (consA (bin addV (rdP 4) (kM (.int 40))) nilA))) (bNm 2) (tst (bin eqV (callM 2 f__law_shown (consA (rdS 5) (consA (rdS 2) nilA))) (rdP 8))) (rdS 2) [2])) ρ n = .ok (encR row (ablesAt t row p)) n := by
  have hr2 := rng2_nat (a := row) (b := row + 40) (by omega)
  rw [show (row + 40 - row).toNat = 40 from by omega] at hr2
  have e := lcL_map (b := bNm 2) (tt := tst (bin eqV (callM 2 f__law_shown (consA (rdS 5) (consA (rdS 2) nilA))) (rdP 8))) (elt := rdS 2) (ρ0 := wipeE ρ [2]) (n := n) (fun (k : Nat) => .int (row + (k : Int))) (fun (k : Nat) => PyData.eqv (rowIn t (row + (k : Int))) (.int p)) (fun (k : Nat) => .int (row + (k : Int))) (List.range 40) (fun k hk => by
    have hk := List.mem_range.mp hk
    refine ⟨_, rfl, ?_, fun _ => ?_⟩
    · have x := v_eq (sh_rowIn t (row + (k : Int))) (Sh.int (d := 0) p)
      simp [wipeE, rds_ne, rds_eq, rdp_ne, rdp_eq, L, h5.s, h8.p, sp_shown (row := row + (k : Int)) g (by omega) (by omega), x]
    · simp [wipeE, rds_eq, L])
  simp [h4.s, h4.p, hr2, e, encR, ablesAt]
theorem k9 (g : GT t) (hr : 1 ≤ row ∧ row ≤ 40) (h4 : Rd ρ 4 (.int row)) (h5 : Rd ρ 5 (encT t)) (h8 : Rd ρ 8 (.int p)) (h9 : Rd ρ 9 (encR row (ablesAt t row p))) : ((tst (bin neV (callM 4 f__law_told (consA (kM (.int 0)) (consA (rdS 5) (consA (rdS 8) (consA (rdS 4) nilA))))) (iteM (tst (chn leV leV (kM (.int 1)) (rdP 8) (bin ixV (rdP 5) (kM (.int 1))))) (bin ixV (rdP 9) (kM (.int 0))) (kM (.str "none")))))) ρ n = .ok false n := by
  have a1 := sp_told0 (t := t) (p := p) (r := row) g.ne
  have y : ixV (encT t) (.int 1) = some (.int t.2) := ix2
  by_cases c : 1 ≤ p ∧ p ≤ t.2
  · obtain ⟨d, r, e1, e2⟩ := able_first g hr.1 c
    rw [if_pos c, e1] at a1
    have e3 : ixV (encR row (ablesAt t row p)) (.int 0) = some (.int (row + d)) := by
      unfold ablesAt
      rw [e2]
      exact ix0 _ _
    simp [h4.s, h5.s, h8.s, h8.p, h5.p, h9.p, a1, y, chn, c.1, c.2, e3]
  · rw [if_neg c] at a1
    have s : neV (.str "none") (.str "none") = some (.bool false) := by kernel_rfl
    by_cases c1 : 1 ≤ p
    · have c2 : ¬ p ≤ t.2 := fun x => c ⟨c1, x⟩
      simp [h4.s, h5.s, h8.s, h8.p, h5.p, h9.p, a1, y, chn, c1, c2, s]
    · simp [h4.s, h5.s, h8.s, h8.p, h5.p, h9.p, a1, y, chn, c1, s]
theorem mod_eq {k b : Int} (h : b ≠ 0) : ∀ n, ((opt (modV (.int k) (.int b)) n).bind fun p n1 => opt (eqV p (.int 0)) n1) = Out.ok (.bool (k.fmod b == 0)) n := fun n => by
  rw [v_mod h]
  simp
theorem k10 (L : ρ.length = 35) (g : GTs ts) (hl : ts.length ≤ 3) (h3 : Rd ρ 3 (encTs ts)) : ((bin ixV (lcM (rngI rng2V (consA (kM (.int 1)) (consA (kM (.int 400)) nilA))) (bNm 2) (tru (callB allC (consA (lcM (seqI (rdS 3)) (bNm 30) yes (bin eqV (bin modV (rdP 2) (bin ixV (rdP 30) (kM (.int 1)))) (kM (.int 0))) [30]) nilA))) (rdS 2) [2]) (kM (.int 0)))) ρ n = .ok (.int (whole ts : Nat)) n := by
  have hr2 : rng2V [.int 1, .int 400] = some ((List.range 399).map fun (k : Nat) => .int (1 + (k : Int))) := rfl
  have e := lcL_map (b := bNm 2) (tt := tru (callB allC (consA (lcM (seqI (rdS 3)) (bNm 30) yes (bin eqV (bin modV (rdP 2) (bin ixV (rdP 30) (kM (.int 1)))) (kM (.int 0))) [30]) nilA))) (elt := rdS 2) (ρ0 := wipeE ρ [2]) (n := n) (fun (k : Nat) => .int (1 + (k : Int))) (fun (k : Nat) => divs ts (1 + (k : Int))) (fun (k : Nat) => .int (1 + (k : Int))) (List.range 399) (fun k hk => by
    refine ⟨_, rfl, ?_, fun _ => ?_⟩
    · have e2 := lcL_all (b := bNm 30) (elt := bin eqV (bin modV (rdP 2) (bin ixV (rdP 30) (kM (.int 1)))) (kM (.int 0))) (ρ0 := wipeE ((wipeE ρ [2]).set 2 (some (.sh (.int (1 + (k : Int)))))) [30]) (n := n) encT (fun t => .bool ((1 + (k : Int)).fmod t.2 == 0)) ts fun t ht => by
        refine ⟨_, rfl, ?_⟩
        have y : ixV (encT t) (.int 1) = some (.int t.2) := ix2
        have z := (g t ht).ne
        simp [wipeE, rdp_ne, rdp_eq, L, y, v_mod z]
      simp only [wipeE, List.set_set] at e2
      simp [wipeE, rds_ne, L, h3.s, seq_ts, e2, all_map, divs]
    · simp [wipeE, rds_eq, L])
  obtain ⟨d, r, e1, e3⟩ := whole_first g hl
  rw [e3] at e
  simp [hr2, e, ix0, e1]
theorem k11 (L : ρ.length = 35) (g : GTs ts) (h3 : Rd ρ 3 (encTs ts)) (h10 : Rd ρ 10 (.int (whole ts : Nat))) : ((orB (tst (bin neV (callM 1 f_comes_again (consA (rdS 3) nilA)) (rdP 10))) (orB (tst (bin neV (callM 1 f_common (consA (lcM (seqI (rdS 3)) (bNm 30) yes (bin ixV (rdP 30) (kM (.int 1))) [30]) nilA)) (rdP 10))) (tst (bin neV (callM 1 f_common (consA (lstA nilA) nilA)) (kM (.int 1))))))) ρ n = .ok false n := by
  have a1 : f_comes_again [encTs ts] = .ok (.int (whole ts : Nat)) := sp_comes_again g
  have a2 := lcL_all (b := bNm 30) (elt := bin ixV (rdP 30) (kM (.int 1))) (ρ0 := wipeE ρ [30]) (n := n) encT (fun t => .int t.2) ts fun t ht => ⟨_, rfl, by
    have y : ixV (encT t) (.int 1) = some (.int t.2) := ix2
    simp [wipeE, rdp_eq, L, y]⟩
  have a3 := sp_common_ts g
  have a4 : f_common [.list []] = .ok (.int 1) := sp_common (ns := []) fun _ h => by cases h
  simp [h3.s, h10.p, a1, seq_ts, a2, a3, a4]
theorem k12 (L : ρ.length = 35) (hl : ts.length ≤ 3) (h3 : Rd ρ 3 (encTs ts)) (h4 : Rd ρ 4 (.int row)) : ((callB maxC (consA (bin addV (lstA (consA (rdS 4) nilA)) (lcM (seqI (rdS 3)) (bNm 30) yes (bin ixV (rdP 30) (kM (.int 0))) [30])) nilA))) ρ n = .ok (.int (startOf ts row)) n := by
  have a2 := lcL_all (b := bNm 30) (elt := bin ixV (rdP 30) (kM (.int 0))) (ρ0 := wipeE ρ [30]) (n := n) encT (fun t => .int t.1) ts fun t ht => ⟨_, rfl, by
    have y : ixV (encT t) (.int 0) = some (.int t.1) := ix1
    simp [wipeE, rdp_eq, L, y]⟩
  have a3 : addV (.list [.int row]) (.list (ts.map fun t => .int t.1)) = some (.list (.int row :: ts.map fun t => .int t.1)) := by
    have := sizeLine_eq
    refine if_pos ?_
    rw [List.length_map, List.length_singleton]
    omega
  have o : 1 ≤ sizeLine := by have := two_le; omega
  simp [h3.s, h4.s, seq_ts, a2, a3, o, max_start]
theorem start_le (hr : 1 ≤ row ∧ row ≤ 40) (g : GTs ts) : 0 ≤ startOf ts row ∧ startOf ts row ≤ 40 := by
  have a := (maxI_le (ts.map (·.1)) row).1
  unfold startOf
  refine ⟨by omega, ?_⟩
  rcases maxI_mem (ts.map (·.1)) row with e | e
  · omega
  · obtain ⟨t, ht, e2⟩ := List.mem_map.mp e
    have := (g t ht).b
    omega
theorem k13 (L : ρ.length = 35) (g : GTs ts) (hl : ts.length ≤ 3) (hr : 1 ≤ row ∧ row ≤ 40) (h3 : Rd ρ 3 (encTs ts)) (h10 : Rd ρ 10 (.int (whole ts : Nat))) (h11 : Rd ρ 11 (.int (startOf ts row))) : ((lcM (rngI rng2V (consA (rdS 11) (consA (bin addV (rdP 11) (rdP 10)) nilA))) (bNm 2) (tru (callB allC (consA (lcM (seqI (rdS 3)) (bNm 30) yes (bin eqV (bin modV (bin subV (rdP 2) (bin ixV (rdP 30) (kM (.int 0)))) (bin ixV (rdP 30) (kM (.int 1)))) (kM (.int 0))) [30]) nilA))) (rdS 2) [2])) ρ n = .ok (encR (startOf ts row) (both ts row)) n := by
  have q := whole_le g hl
  have s := start_le hr g
  have hr2 := rng2_nat (a := startOf ts row) (b := startOf ts row + (whole ts : Nat)) (by omega)
  rw [show (startOf ts row + ((whole ts : Nat) : Int) - startOf ts row).toNat = whole ts from by omega] at hr2
  have e := lcL_map (b := bNm 2) (tt := tru (callB allC (consA (lcM (seqI (rdS 3)) (bNm 30) yes (bin eqV (bin modV (bin subV (rdP 2) (bin ixV (rdP 30) (kM (.int 0)))) (bin ixV (rdP 30) (kM (.int 1)))) (kM (.int 0))) [30]) nilA))) (elt := rdS 2) (ρ0 := wipeE ρ [2]) (n := n) (fun (k : Nat) => .int (startOf ts row + (k : Int))) (fun (k : Nat) => bothP ts (startOf ts row + (k : Int))) (fun (k : Nat) => .int (startOf ts row + (k : Int))) (List.range (whole ts)) (fun k hk => by
    refine ⟨_, rfl, ?_, fun _ => ?_⟩
    · have e2 := lcL_all (b := bNm 30) (elt := bin eqV (bin modV (bin subV (rdP 2) (bin ixV (rdP 30) (kM (.int 0)))) (bin ixV (rdP 30) (kM (.int 1)))) (kM (.int 0))) (ρ0 := wipeE ((wipeE ρ [2]).set 2 (some (.sh (.int (startOf ts row + (k : Int)))))) [30]) (n := n) encT (fun t => .bool ((startOf ts row + (k : Int) - t.1).fmod t.2 == 0)) ts fun t ht => by
        refine ⟨_, rfl, ?_⟩
        have y : ixV (encT t) (.int 1) = some (.int t.2) := ix2
        have y2 : ixV (encT t) (.int 0) = some (.int t.1) := ix1
        have z := (g t ht).ne
        simp [wipeE, rdp_ne, rdp_eq, L, y, y2, v_mod z]
      simp only [wipeE, List.set_set] at e2
      simp [wipeE, rds_ne, L, h3.s, seq_ts, e2, all_map, bothP]
    · simp [wipeE, rds_eq, L])
  simp [h11.s, h11.p, h10.p, hr2, e, encR, both]
theorem k14 (g : GTs ts) (hl : ts.length ≤ 3) (h3 : Rd ρ 3 (encTs ts)) (h4 : Rd ρ 4 (.int row)) (h12 : Rd ρ 12 (encR (startOf ts row) (both ts row))) : ((tst (bin neV (callM 2 f_meet_at (consA (rdS 3) (consA (rdS 4) nilA))) (iteM (tst (bin gtV (callB lenC (consA (rdP 12) nilA)) (kM (.int 0)))) (bin ixV (rdP 12) (kM (.int 0))) (kM .none))))) ρ n = .ok false n := by
  have q := whole_le g hl
  have a1 : f_meet_at [encTs ts, .int row] = .ok (meetAt ts row) := sp_meet_at g (by omega) (by omega)
  rw [meet_both] at a1
  cases hb : both ts row with
  | nil =>
    rw [hb] at a1 h12
    have e0 : lenC [encR (startOf ts row) []] = some (.int 0) := rfl
    have s : neV .none .none = some (.bool false) := v_ne_self (Sh.none (d := 0))
    simp only [List.map_nil] at a1
    simp [h3.s, h4.s, h12.p, a1, e0, s]
  | cons k r =>
    rw [hb] at a1 h12
    have e0 : lenC [encR (startOf ts row) (k :: r)] = some (.int ((r.length + 1 : Nat) : Int)) := by
      show some (PyData.int (((k :: r).map fun (k : Nat) => PyData.int (startOf ts row + (k : Int))).length : Nat)) = _
      rw [List.length_map]
      rfl
    have e3 : ixV (encR (startOf ts row) (k :: r)) (.int 0) = some (.int (startOf ts row + k)) := ix0 _ _
    have d : decide ((0 : Int) < ((r.length + 1 : Nat) : Int)) = true := decide_eq_true (by omega)
    simp only [List.map_cons] at a1
    simp only [e_tst, e_bin, e_callM, e_consA, e_nilA, e_iteM, e_callB, h3.s, h4.s, h12.p, Out.bind_ok, e0, e_kM, opt, v_gt, bl_bool, opB, d, if_true, e3, List.length_cons, List.length_nil, ofF, a1, v_ne_int, beq_self_eq_true, Bool.not_true]
end K18
set_option Elab.async false
set_option linter.all false
set_option maxRecDepth 100000
set_option maxHeartbeats 4000000
namespace K18
open PySem DL
variable {R : List Int} {ρ : DEnv} {n : Nat} {ts : List Tr} {row last : Int} {ms : List (List Int)}
def encMs (ms : List (List Int)) : PV := .list (ms.map encM)
theorem ints_self (l : List Int) : intsOf (l.map PyData.int) = some l := by
  have := ints_map (fun i : Int => i) l
  rw [show l.map PyData.int = l.map (fun x => PyData.int ((fun i : Int => i) x)) from rfl, this]
  simp
theorem k15 (L : ρ.length = 35) (hb : Bx ρ) (g : GTs ts) (h3 : Rd ρ 3 (encTs ts)) : ∃ (ms : List (List Int)) (n1 : Nat), ms.length = ts.length ∧ ((lcM (seqI (rdS 3)) (bNm 30) yes (callB tupleC (consA (callB sortSetC (consA (lcM (rngI rng1V (consA (nxt R 1 (kM (.int 3))) nilA)) (bNm 2) yes (bin addV (kM (.int 1)) (nxt R 1 (bin ixV (rdP 30) (kM (.int 1))))) [2]) nilA)) nilA)) [30])) ρ n = .ok (encMs ms) n1 := by
  obtain ⟨ys, n1, e1, hl, _⟩ := lcL_rel (b := bNm 30) (elt := callB tupleC (consA (callB sortSetC (consA (lcM (rngI rng1V (consA (nxt R 1 (kM (.int 3))) nilA)) (bNm 2) yes (bin addV (kM (.int 1)) (nxt R 1 (bin ixV (rdP 30) (kM (.int 1))))) [2]) nilA)) nilA)) (ρ0 := wipeE ρ [30]) encT encM (fun _ _ => True) ts (fun t ht m => by
    have y : ixV (encT t) (.int 1) = some (.int t.2) := ix2
    have hb1 : Bx ((wipeE ρ [30]).set 30 (some (.sh (encT t)))) := (hb.ne (by decide)).ne (by decide)
    obtain ⟨d, d1, d2, ed⟩ := nx (R := R) (n := m) (f := kM (.int 3)) hb1 rfl (by decide)
    have hr := rng1_nat (b := d) (by omega)
    obtain ⟨zs, n2, e2, hl2, _⟩ := lcL_rel (b := bNm 2) (elt := bin addV (kM (.int 1)) (nxt R 1 (bin ixV (rdP 30) (kM (.int 1))))) (ρ0 := wipeE ((wipeE ρ [30]).set 30 (some (.sh (encT t)))) [2]) (fun (k : Nat) => .int (k : Int)) PyData.int (fun _ _ => True) (List.range d.toNat) (fun k _ q => by
      have hb2 : Bx ((wipeE ((wipeE ρ [30]).set 30 (some (.sh (encT t)))) [2]).set 2 (some (.sh (.int (k : Int))))) := (hb1.ne (by decide)).ne (by decide)
      obtain ⟨x, x1, x2, ex⟩ := nx (R := R) (n := q) (f := bin ixV (rdP 30) (kM (.int 1))) (m := t.2) (n1 := q) hb2 (by simp [wipeE, rdp_ne, rdp_eq, L, y]) (by have := (g t ht).c; omega)
      refine ⟨_, 1 + x, q + 1, rfl, ?_, trivial⟩
      rw [e_bin, e_kM]
      simp only [Out.bind_ok, ex]
      rfl) (m + 1)
    rw [List.length_range] at hl2
    have c : zs.length < 63 := by omega
    refine ⟨_, risI zs, n2, rfl, ?_, trivial⟩
    simp only [e_callB, e_consA, e_nilA, e_lcM, e_rngI, ed, Out.bind_ok, hr, opA, e2, noX, opt, sortSetC, ints_self, c, if_true, tupleC]
    rfl) n
  refine ⟨ys, n1, hl, ?_⟩
  simp [h3.s, seq_ts, e1, encMs]
theorem k16 (hb : Bx ρ) (hr : 1 ≤ row ∧ row ≤ 40) (h4 : Rd ρ 4 (.int row)) : ∃ (last : Int) (n1 : Nat), row ≤ last ∧ last ≤ 59 ∧ ((bin addV (rdP 4) (nxt R 1 (kM (.int 20))))) ρ n = .ok (.int last) n1 := by
  obtain ⟨d, d1, d2, e⟩ := nx (R := R) (n := n) (f := kM (.int 20)) hb rfl (by decide)
  refine ⟨row + d, n + 1, by omega, by omega, ?_⟩
  rw [e_bin, h4.p]
  simp only [Out.bind_ok, e]
  rfl
theorem k17 : ((lstA nilA)) ρ n = .ok (.list []) n := by simp
theorem ix_ts {j : Nat} (h : j < ts.length) : ixV (encTs ts) (.int (j : Int)) = some (encT (ts.getD j (1, 1))) := by
  show L2.atI (ts.map encT) _ = _
  refine L2.atI_nat ?_
  rw [List.getElem?_map, List.getD_eq_getElem?_getD, List.getElem?_eq_getElem h]
  rfl
theorem ix_ms {j : Nat} (h : j < ms.length) : ixV (encMs ms) (.int (j : Int)) = some (encM (ms.getD j [])) := by
  show L2.atI (ms.map encM) _ = _
  refine L2.atI_nat ?_
  rw [List.getElem?_map, List.getD_eq_getElem?_getD, List.getElem?_eq_getElem h]
  rfl
theorem gt_getD (g : GTs ts) (j : Nat) : GT (ts.getD j (1, 1)) := by
  rw [List.getD_eq_getElem?_getD]
  cases h : ts[j]? with
  | none => exact ⟨by decide, by decide, by decide, by decide⟩
  | some t => exact g t (List.mem_of_getElem? h)
theorem len_ts (ts : List Tr) : lenC [encTs ts] = some (.int (ts.length : Nat)) := by
  show some (PyData.int ((ts.map encT).length : Nat)) = _
  rw [List.length_map]
def encBs (l : List (Int × List Nat)) : PV := .list (l.map encB)
theorem k18a (L : ρ.length = 35) (g : GTs ts) (hm : ms.length = ts.length) (hl : ts.length ≤ 3) {r : Int} (hr : 0 ≤ r ∧ r ≤ 100) (h2 : Rd ρ 2 (.int r)) (h3 : Rd ρ 3 (encTs ts)) (h13 : Rd ρ 13 (encMs ms)) : (lcM (rngI rng1V (consA (callB lenC (consA (rdP 3) nilA)) nilA)) (bNm 31) (tst (bin inV (callM 2 f__law_shown (consA (bin ixV (rdP 3) (rdP 31)) (consA (rdS 2) nilA))) (bin ixV (rdP 13) (rdP 31)))) (rdS 31) [31]) ρ n = .ok (encJ (js ts ms r)) n := by
  have hr1 := rng1_nat (b := (ts.length : Nat)) (by omega)
  rw [Int.toNat_natCast] at hr1
  have e := lcL_map (b := bNm 31) (tt := tst (bin inV (callM 2 f__law_shown (consA (bin ixV (rdP 3) (rdP 31)) (consA (rdS 2) nilA))) (bin ixV (rdP 13) (rdP 31)))) (elt := rdS 31) (ρ0 := wipeE ρ [31]) (n := n) (fun (k : Nat) => .int (k : Int)) (pj ts ms r) (fun (k : Nat) => .int (k : Int)) (List.range ts.length) (fun j hj => by
    have hj := List.mem_range.mp hj
    refine ⟨_, rfl, ?_, fun _ => by simp [wipeE, rds_eq, L]⟩
    have a1 := sp_shown (row := r) (gt_getD g j) hr.1 (by omega)
    have a2 := in_mark (sh_rowIn (ts.getD j (1, 1)) r) (ms.getD j [])
    simp only [wipeE, e_tst, e_bin, e_callM, e_consA, e_nilA, rdp_ne (show (31 : Nat) ≠ 3 by decide), rdp_ne (show (31 : Nat) ≠ 13 by decide), rds_ne (show (31 : Nat) ≠ 2 by decide), h3.p, h13.p, h2.s, Out.bind_ok, rdp_eq (show 31 < (ρ.set 31 none).length by rw [List.length_set, L]; decide), ix_ts hj, ix_ms (show j < ms.length by omega), opt, List.length_cons, List.length_nil, if_true, Nat.zero_add, Nat.reduceAdd, ofF, a1, a2, opB, bl_bool, pj])
  simp [h3.p, len_ts, hr1, e, encJ, js]
theorem mul0 (a : PV) : mulV (.list [a]) (.int 0) = some (.list []) := by
  show (if (0 : Int).natAbs ≤ 2 ^ 24 ∧ [a].length * (0 : Int).toNat ≤ sizeLine then some (PyData.list (List.replicate (0 : Int).toNat [a]).flatten) else none) = _
  have h : (0 : Int).natAbs ≤ 2 ^ 24 ∧ [a].length * (0 : Int).toNat ≤ sizeLine := ⟨by decide, Nat.zero_le _⟩
  rw [if_pos h]
  rfl
theorem mul1 (a : PV) : mulV (.list [a]) (.int 1) = some (.list [a]) := by
  show (if (1 : Int).natAbs ≤ 2 ^ 24 ∧ [a].length * (1 : Int).toNat ≤ sizeLine then some (PyData.list (List.replicate (1 : Int).toNat [a]).flatten) else none) = _
  have h : (1 : Int).natAbs ≤ 2 ^ 24 ∧ [a].length * (1 : Int).toNat ≤ sizeLine := ⟨by decide, by
    have := two_le
    show 1 * 1 ≤ sizeLine
    omega⟩
  rw [if_pos h]
  rfl
theorem k18 (L : ρ.length = 35) (g : GTs ts) (hm : ms.length = ts.length) (hl : ts.length ≤ 3) (hr : 1 ≤ row ∧ row ≤ 40) (hla : row ≤ last ∧ last ≤ 59) (h3 : Rd ρ 3 (encTs ts)) (h4 : Rd ρ 4 (.int row)) (h13 : Rd ρ 13 (encMs ms)) (h14 : Rd ρ 14 (.int last)) (h15 : Rd ρ 15 (.list [])) :
    ∃ ρ1, ((forS (rngI rng2V (consA (rdS 4) (consA (bin addV (rdP 14) (kM (.int 1))) nilA))) (bNm 2) (seqS (setS 16 (lcM (rngI rng1V (consA (callB lenC (consA (rdP 3) nilA)) nilA)) (bNm 31) (tst (bin inV (callM 2 f__law_shown (consA (bin ixV (rdP 3) (rdP 31)) (consA (rdS 2) nilA))) (bin ixV (rdP 13) (rdP 31)))) (rdS 31) [31]))
  (setS 15 (bin addV (rdP 15) (bin mulV (lstA (consA (tupA (consA (rdS 2) (consA (rdS 16) nilA))) nilA)) (callB intC (consA (bin gtV (callB lenC (consA (rdP 16) nilA)) (kM (.int 0))) nilA)))))))) ρ n = .next ρ1 n ∧ ρ1.length = 35 ∧ Rd ρ1 15 (encBs (busyT ts ms row (last + 1 - row).toNat)) ∧ ∀ i, i ≠ 2 → i ≠ 15 → i ≠ 16 → ρ1[i]? = ρ[i]? := by
  have hr2 := rng2_nat (a := row) (b := last + 1) (by omega)
  rw [e_forS]
  simp only [e_rngI, e_consA, e_nilA, e_bin, e_kM, h4.s, h14.p, Out.bind_ok, v_add, opt, hr2, opA, ofE]
  obtain ⟨ρ', e1, l1, b1, o1⟩ := forL_ix (b := bNm 2) (body := seqS (setS 16 (lcM (rngI rng1V (consA (callB lenC (consA (rdP 3) nilA)) nilA)) (bNm 31) (tst (bin inV (callM 2 f__law_shown (consA (bin ixV (rdP 3) (rdP 31)) (consA (rdS 2) nilA))) (bin ixV (rdP 13) (rdP 31)))) (rdS 31) [31])) (setS 15 (bin addV (rdP 15) (bin mulV (lstA (consA (tupA (consA (rdS 2) (consA (rdS 16) nilA))) nilA)) (callB intC (consA (bin gtV (callB lenC (consA (rdP 16) nilA)) (kM (.int 0))) nilA))))))
    (fun (k : Nat) => .int (row + (k : Int))) (fun j ρ1 => ρ1.length = 35 ∧ Rd ρ1 15 (encBs (busyT ts ms row j)) ∧ ∀ i, i ≠ 2 → i ≠ 15 → i ≠ 16 → ρ1[i]? = ρ[i]?) n (List.range (last + 1 - row).toNat) 0 (fun i x ρ1 hx ⟨l1, b1, o1⟩ => by
      obtain ⟨q1, q2⟩ := List.getElem?_eq_some_iff.mp hx
      rw [List.getElem_range] at q2
      subst q2
      rw [List.length_range] at q1
      rw [Nat.zero_add] at b1 ⊢
      have r3 : Rd (ρ1.set 2 (some (.sh (.int (row + (i : Int)))))) 3 (encTs ts) := by
        have : Rd ρ1 3 (encTs ts) := (o1 3 (by decide) (by decide) (by decide)).trans h3
        exact this.ne (by decide)
      have r13 : Rd (ρ1.set 2 (some (.sh (.int (row + (i : Int)))))) 13 (encMs ms) := by
        have : Rd ρ1 13 (encMs ms) := (o1 13 (by decide) (by decide) (by decide)).trans h13
        exact this.ne (by decide)
      have r2 : Rd (ρ1.set 2 (some (.sh (.int (row + (i : Int)))))) 2 (.int (row + (i : Int))) := Rd.eq (by rw [l1]; decide)
      have r15 : Rd (ρ1.set 2 (some (.sh (.int (row + (i : Int)))))) 15 (encBs (busyT ts ms row i)) := b1.ne (by decide)
      have l2 : (ρ1.set 2 (some (.sh (.int (row + (i : Int)))))).length = 35 := by rw [List.length_set, l1]
      have o2 : ∀ j, j ≠ 2 → j ≠ 15 → j ≠ 16 → (ρ1.set 2 (some (.sh (.int (row + (i : Int))))))[j]? = ρ[j]? := fun j a b c => by
        rw [List.getElem?_set_ne (Ne.symm a)]
        exact o1 j a b c
      refine ⟨_, (((ρ1.set 2 (some (.sh (.int (row + (i : Int)))))).set 16 (some (.sh (encJ (js ts ms (row + i))))))).set 15 (some (.sh (encBs (busyT ts ms row (i + 1))))), rfl, .inl ?_, by rw [List.length_set, List.length_set, l2], Rd.eq (by rw [List.length_set, l2]; decide), fun j a b c => by
        rw [List.getElem?_set_ne (Ne.symm b), List.getElem?_set_ne (Ne.symm c)]
        exact o2 j a b c⟩
      generalize (ρ1.set 2 (some (.sh (.int (row + (i : Int)))))) = ρ2 at *
      rw [e_seqS, e_setS, k18a l2 g hm hl (by omega) r2 r3 r13]
      have r16 : Rd (ρ2.set 16 (some (.sh (encJ (js ts ms (row + i)))))) 16 (encJ (js ts ms (row + i))) := Rd.eq (by rw [l2]; decide)
      have s2 := r2.ne (j := 16) (x := some (.sh (encJ (js ts ms (row + i))))) (by decide)
      have s15 := r15.ne (j := 16) (x := some (.sh (encJ (js ts ms (row + i))))) (by decide)
      have le := len_encJ (js ts ms (row + i))
      have sz := sizeLine_eq
      have bl := busy_len ts ms row i
      have fin : ∃ z, mulV (.list [.tuple [.int (row + i), encJ (js ts ms (row + i))]]) (.int (if decide ((0 : Int) < ((js ts ms (row + i)).length : Nat)) = true then 1 else 0)) = some z ∧ addV (encBs (busyT ts ms row i)) z = some (encBs (busyT ts ms row (i + 1))) := by
        rw [busy_succ]
        unfold ent
        cases hj : js ts ms (row + i) with
        | nil =>
          refine ⟨_, mul0 _, ?_⟩
          refine (if_pos ?_).trans ?_
          · rw [List.length_map, List.length_nil]; omega
          · rw [List.append_nil]
            simp [encBs]
        | cons a b =>
          have d : decide ((0 : Int) < ((a :: b).length : Nat)) = true := decide_eq_true (by rw [List.length_cons]; omega)
          rw [d]
          refine ⟨_, mul1 _, ?_⟩
          refine (if_pos ?_).trans ?_
          · rw [List.length_map, List.length_singleton]; omega
          · simp [encBs, encB]
      obtain ⟨z, z1, z2⟩ := fin
      have o : 1 ≤ sizeLine := by omega
      have tw := two_le
      simp only [ofE, SOut.then, e_setS, e_bin, e_lstA, e_tupA, e_consA, e_nilA, e_callB, e_kM, s15.p, s2.s, r16.s, r16.p, Out.bind_ok, le, opt, v_gt, v_intb, List.length_cons, List.length_nil, Nat.zero_add, Nat.reduceAdd, tw, o, if_true, z1, z2]) ρ ⟨L, h15, fun _ _ _ _ => rfl⟩
  rw [List.length_range, Nat.zero_add] at b1
  exact ⟨ρ', e1, l1, b1, o1⟩
end K18
set_option Elab.async false
set_option linter.all false
set_option maxRecDepth 100000
set_option maxHeartbeats 4000000
namespace K18
open PySem DL
variable {R : List Int} {ρ : DEnv} {n : Nat} {ts : List Tr} {row last : Int} {ms : List (List Int)} {B : List (Int × List Nat)} {ls : List PV}
theorem maxI_app {r : List Int} {x : Int} (h : 0 ≤ x) : maxI x (r ++ [0]) = maxI x r := by
  have := (maxI_le r x).1
  unfold maxI at this ⊢
  rw [List.foldl_append]
  show (if 0 > r.foldl (fun a b => if b > a then b else a) x then 0 else r.foldl (fun a b => if b > a then b else a) x) = _
  rw [if_neg (by omega)]
theorem most_app (B : List (Int × List Nat)) : maxC [.list ((B.map fun q => .int ((q.2.length : Nat) : Int)) ++ [.int 0])] = some (.int (mostB B)) := by
  have e := ints_self ((B.map fun q => ((q.2.length : Nat) : Int)) ++ [0])
  rw [List.map_append, List.map_map] at e
  simp only [Function.comp_def, List.map_cons, List.map_nil] at e
  unfold maxC
  simp only [e]
  unfold mostB
  cases B with
  | nil => rfl
  | cons q r =>
    simp only [List.map_cons, List.cons_append]
    rw [maxI_app (by omega)]
theorem k19 (L : ρ.length = 35) (hB : B.length ≤ 100) (h15 : Rd ρ 15 (encBs B)) : ((callB maxC (consA (bin addV (lcM (seqI (rdS 15)) (bTp [(bNm 2), (bNm 16)]) yes (callB lenC (consA (rdP 16) nilA)) [2, 16]) (lstA (consA (kM (.int 0)) nilA))) nilA))) ρ n = .ok (.int (mostB B)) n := by
  have e := lcL_all (b := bTp [bNm 2, bNm 16]) (elt := callB lenC (consA (rdP 16) nilA)) (ρ0 := wipeE ρ [2, 16]) (n := n) encB (fun q => .int ((q.2.length : Nat) : Int)) B fun q hq => ⟨_, rfl, by simp [wipeE, rdp_eq, L, len_encJ]⟩
  have sz := sizeLine_eq
  have a : addV (.list (B.map fun q => .int ((q.2.length : Nat) : Int))) (.list [.int 0]) = some (.list ((B.map fun q => .int ((q.2.length : Nat) : Int)) ++ [.int 0])) := by
    refine if_pos ?_
    rw [List.length_map, List.length_singleton]
    omega
  have o : 1 ≤ sizeLine := by omega
  have s : seqV (encBs B) = some (B.map encB) := rfl
  simp [h15.s, s, e, o, a, most_app]
theorem sh_encB (q : Int × List Nat) : Sh 2 (encB q) := Sh.tuple fun x hx => by
  simp only [List.mem_cons, List.not_mem_nil, or_false] at hx
  rcases hx with e | e <;> subst e
  · exact Sh.int _
  · exact sh_encJ _
theorem sh_encBs (B : List (Int × List Nat)) : Sh 3 (encBs B) := Sh.list fun x hx => by
  obtain ⟨q, _, rfl⟩ := List.mem_map.mp hx
  exact sh_encB q
theorem k20 (L : ρ.length = 35) (g : GTs ts) (hm : ms.length = ts.length) (hr : 1 ≤ row ∧ row ≤ 40) (hla : row ≤ last ∧ last ≤ 59) (h3 : Rd ρ 3 (encTs ts)) (h4 : Rd ρ 4 (.int row)) (h13 : Rd ρ 13 (encMs ms)) (h14 : Rd ρ 14 (.int last)) (h15 : Rd ρ 15 (encBs (busyT ts ms row (last + 1 - row).toNat))) (h17 : Rd ρ 17 (.int (mostB (busyT ts ms row (last + 1 - row).toNat)))) : ((orB (tst (bin neV (callM 4 f_busy_rows (consA (rdS 3) (consA (rdS 13) (consA (rdS 4) (consA (rdS 14) nilA))))) (rdP 15))) (tst (bin neV (callM 4 f_busiest (consA (rdS 3) (consA (rdS 13) (consA (rdS 4) (consA (rdS 14) nilA))))) (iteM (tst (bin gtV (callB lenC (consA (rdP 15) nilA)) (kM (.int 0)))) (bin ixV (lcM (seqI (rdS 15)) (bTp [(bNm 2), (bNm 16)]) (tst (bin eqV (callB lenC (consA (rdP 16) nilA)) (rdP 17))) (tupA (consA (rdS 2) (consA (rdS 17) nilA))) [2, 16]) (kM (.int 0))) (kM .none)))))) ρ n = .ok false n := by
  have a1 : f_busy_rows [encTs ts, encMs ms, .int row, .int last] = .ok (encBs (busyT ts ms row (last + 1 - row).toNat)) := sp_busy_rows g hm (by omega) (by omega)
  have a2 : f_busiest [encTs ts, encMs ms, .int row, .int last] = .ok (busiest (busyT ts ms row (last + 1 - row).toNat)) := sp_busiest g hm (by omega) (by omega)
  generalize busyT ts ms row (last + 1 - row).toNat = B at *
  have a3 : neV (encBs B) (encBs B) = some (.bool false) := v_ne_self (sh_encBs B)
  have e0 : lenC [encBs B] = some (.int (B.length : Nat)) := by
    show some (PyData.int ((B.map encB).length : Nat)) = _
    rw [List.length_map]
  by_cases hB : B = []
  · subst hB
    have a4 : neV .none .none = some (.bool false) := v_ne_self (Sh.none (d := 0))
    have b0 : busiest [] = .none := rfl
    rw [b0] at a2
    simp [h3.s, h4.s, h13.s, h14.s, h15.p, a1, a2, a3, a4, e0]
  · obtain ⟨r, rest, e3, e4⟩ := busiest_cons hB
    rw [e4] at a2
    have e := lcL_map (b := bTp [bNm 2, bNm 16]) (tt := tst (bin eqV (callB lenC (consA (rdP 16) nilA)) (rdP 17))) (elt := tupA (consA (rdS 2) (consA (rdS 17) nilA))) (ρ0 := wipeE ρ [2, 16]) (n := n) encB (fun q => ((q.2.length : Nat) : Int) == mostB B) (fun q => .tuple [.int q.1, .int (mostB B)]) B fun q hq => ⟨_, rfl, by simp [wipeE, rdp_eq, rdp_ne, L, len_encJ, h17.p], fun _ => by simp [wipeE, rds_eq, rds_ne, L, h17.s, two_le]⟩
    rw [e3, List.map_cons] at e
    have d : decide ((0 : Int) < (B.length : Nat)) = true := decide_eq_true (by have := List.length_pos_iff.mpr hB; omega)
    have s : seqV (encBs B) = some (B.map encB) := rfl
    have a4 : neV (.tuple [.int r.1, .int (mostB B)]) (.tuple [.int r.1, .int (mostB B)]) = some (.bool false) := v_ne_self (d := 1) (Sh.tuple fun x hx => by
      simp only [List.mem_cons, List.not_mem_nil, or_false] at hx
      rcases hx with e | e <;> subst e <;> exact Sh.int _)
    simp only [e_orB, e_tst, e_bin, e_callM, e_consA, e_nilA, e_iteM, e_callB, e_kM, e_lcM, e_seqI, h3.s, h4.s, h13.s, h14.s, h15.p, h15.s, Out.bind_ok, a1, a2, a3, a4, e0, opt, v_gt, bl_bool, opB, opA, noX, d, if_true, List.length_cons, List.length_nil, Nat.zero_add, Nat.reduceAdd, ofF, s, e, ix0, Bool.false_eq_true, if_false]
def rowsEnc (row : Int) (t : Tr) : PV := rowIn t row
theorem k21 (L : ρ.length = 35) (hb : Bx ρ) (h6 : Rd ρ 6 (rowsAt ts row)) : ∃ (ls : List PV) (n1 : Nat), ls.length = ts.length ∧ (∀ q ∈ ls, Sh 0 q) ∧ ((lcM (seqI (rdS 6)) (bNm 30) yes (iteM (tst (bin eqV (nxt R 1 (kM (.int 2))) (kM (.int 0)))) (rdS 30) (kM .none)) [30])) ρ n = .ok (.list ls) n1 := by
  obtain ⟨ys, n1, e1, hl, hg⟩ := lcL_rel (b := bNm 30) (elt := iteM (tst (bin eqV (nxt R 1 (kM (.int 2))) (kM (.int 0)))) (rdS 30) (kM .none)) (ρ0 := wipeE ρ [30]) (fun t => rowIn t row) (fun q : PV => q) (fun _ q => Sh 0 q) ts (fun t ht m => by
    have hb1 : Bx ((wipeE ρ [30]).set 30 (some (.sh (rowIn t row)))) := (hb.ne (by decide)).ne (by decide)
    obtain ⟨d, d1, d2, ed⟩ := nx (R := R) (n := m) (f := kM (.int 2)) hb1 rfl (by decide)
    by_cases c : d = 0
    · refine ⟨_, rowIn t row, m + 1, rfl, ?_, sh_rowIn t row⟩
      subst c
      simp only [e_iteM, e_tst, e_bin, ed, e_kM, Out.bind_ok, v_eq_int, opt, opB, bl_bool, beq_self_eq_true, if_true]
      exact rds_eq (by simp [wipeE, L])
    · refine ⟨_, .none, m + 1, rfl, ?_, Sh.none⟩
      have c2 : (d == 0) = false := beq_eq_false_iff_ne.mpr c
      simp only [e_iteM, e_tst, e_bin, ed, e_kM, Out.bind_ok, v_eq_int, opt, opB, bl_bool, c2, Bool.false_eq_true, if_false]) n
  refine ⟨ys, n1, hl, fun q hq => ?_, ?_⟩
  · obtain ⟨_, _, z⟩ := hg q hq
    exact z
  · have s : seqV (rowsAt ts row) = some (ts.map fun t => rowIn t row) := rfl
    rw [List.map_id'] at e1
    simp [h6.s, s, e1]
def encE (ts : List Tr) (k : Nat) : PV := .tuple [.int (1 + (k : Int)), rowsAt ts (1 + (k : Int))]
def everyT (ts : List Tr) : PV := .list ((List.range 50).map (encE ts))
theorem rng51 : rng2V [.int 1, .int 51] = some ((List.range 50).map fun (k : Nat) => .int (1 + (k : Int))) := rfl
theorem k22 (L : ρ.length = 35) (g : GTs ts) (h3 : Rd ρ 3 (encTs ts)) : ((lcM (rngI rng2V (consA (kM (.int 1)) (consA (kM (.int 51)) nilA))) (bNm 2) yes (tupA (consA (rdS 2) (consA (lcM (seqI (rdS 3)) (bNm 30) yes (callM 2 f__law_shown (consA (rdS 30) (consA (rdS 2) nilA))) [30]) nilA))) [2])) ρ n = .ok (everyT ts) n := by
  have e := lcL_all (b := bNm 2) (elt := tupA (consA (rdS 2) (consA (lcM (seqI (rdS 3)) (bNm 30) yes (callM 2 f__law_shown (consA (rdS 30) (consA (rdS 2) nilA))) [30]) nilA))) (ρ0 := wipeE ρ [2]) (n := n) (fun (k : Nat) => .int (1 + (k : Int))) (encE ts) (List.range 50) fun k hk => by
    have hk := List.mem_range.mp hk
    refine ⟨_, rfl, ?_⟩
    have e2 := lcL_all (b := bNm 30) (elt := callM 2 f__law_shown (consA (rdS 30) (consA (rdS 2) nilA))) (ρ0 := wipeE ((wipeE ρ [2]).set 2 (some (.sh (.int (1 + (k : Int)))))) [30]) (n := n) encT (fun t => rowIn t (1 + (k : Int))) ts fun t ht => by
      refine ⟨_, rfl, ?_⟩
      simp [wipeE, rds_ne, rds_eq, L, sp_shown (row := 1 + (k : Int)) (g t ht) (by omega) (by omega)]
    simp only [wipeE, List.set_set] at e2
    simp [wipeE, rds_eq, rds_ne, L, h3.s, seq_ts, e2, two_le, encE, rowsAt]
  simp [rng51, e, everyT]
theorem k23 (L : ρ.length = 35) (g : GTs ts) (hr : 1 ≤ row ∧ row ≤ 40) (h3 : Rd ρ 3 (encTs ts)) (h4 : Rd ρ 4 (.int row)) (h6 : Rd ρ 6 (rowsAt ts row)) (h19 : Rd ρ 19 (everyT ts)) : ((orB (tst (bin neV (callM 3 f_from_rows (consA (rdS 3) (consA (rdS 6) (consA (kM (.int 50)) nilA)))) (lcM (seqI (rdS 19)) (bTp [(bNm 2), (bNm 32)]) (tst (bin eqV (rdP 32) (rdP 6))) (rdS 2) [2, 32]))) (tst (bin ninV (rdP 4) (callM 3 f_from_rows (consA (rdS 3) (consA (rdS 6) (consA (kM (.int 50)) nilA)))))))) ρ n = .ok false n := by
  have s1 : Sh 1 (rowsAt ts row) := sh_rows ts row
  have a1 : f_from_rows [encTs ts, rowsAt ts row, .int 50] = .ok (encK (fromRows ts (rowsAt ts row))) := sp_from_rows g s1
  have e := lcL_map (b := bTp [bNm 2, bNm 32]) (tt := tst (bin eqV (rdP 32) (rdP 6))) (elt := rdS 2) (ρ0 := wipeE ρ [2, 32]) (n := n) (encE ts) (fun (k : Nat) => PyData.eqv (rowsAt ts (1 + (k : Int))) (rowsAt ts row)) (fun (k : Nat) => .int (1 + (k : Int))) (List.range 50) fun k hk => ⟨_, rfl, by
    have x := v_eq (sh_rows ts (1 + (k : Int))) s1
    have x : eqV (rowsAt ts (1 + (k : Int))) (rowsAt ts row) = _ := x
    simp [wipeE, rdp_eq, rdp_ne, L, h6.p, x]
    rfl, fun _ => by simp [wipeE, rds_eq, rds_ne, L]⟩
  have s2 : Sh 1 (encK (fromRows ts (rowsAt ts row))) := Sh.list fun x hx => by
    obtain ⟨k, _, rfl⟩ := List.mem_map.mp hx
    exact Sh.int _
  have a2 : neV (encK (fromRows ts (rowsAt ts row))) (.list (((List.range 50).filter fun (k : Nat) => PyData.eqv (rowsAt ts (1 + (k : Int))) (rowsAt ts row)).map fun (k : Nat) => .int (1 + (k : Int)))) = some (.bool false) := v_ne_self s2
  have a3 : inV (.int row) (encK (fromRows ts (rowsAt ts row))) = some (.bool true) := by
    refine (if_pos ⟨(Sh.int (d := 0) row).ok (by decide), s2.ok (by decide)⟩).trans ?_
    refine congrArg (fun z => some (PyData.bool z)) ?_
    rw [List.any_eq_true]
    refine ⟨.int row, List.mem_map.mpr ⟨(row - 1).toNat, List.mem_filter.mpr ⟨List.mem_range.mpr (by omega), ?_⟩, ?_⟩, ?_⟩
    · rw [show 1 + (((row - 1).toNat : Nat) : Int) = row from by omega]
      exact SeqAt.eqv_refl _ s1.1
    · rw [show 1 + (((row - 1).toNat : Nat) : Int) = row from by omega]
    · exact SeqAt.eqv_refl _ (Sh.int (d := 0) row).1
  have a4 : ninV (.int row) (encK (fromRows ts (rowsAt ts row))) = some (.bool false) := by
    unfold ninV
    rw [a3]
    rfl
  have s : seqV (everyT ts) = some ((List.range 50).map (encE ts)) := rfl
  simp only [e_orB, e_tst, e_bin, e_callM, e_consA, e_nilA, e_kM, e_lcM, e_seqI, h3.s, h4.p, h6.s, h19.s, Out.bind_ok, a1, a2, a4, opt, bl_bool, opB, opA, noX, if_true, List.length_cons, List.length_nil, Nat.zero_add, Nat.reduceAdd, ofF, s, e, Bool.false_eq_true, if_false]
theorem zip_all (f : Tr → PV) : ∀ (ls : List PV) (ts : List Tr), ls.length = ts.length → (ls.zip (ts.map f)).all (fun q => may q.1 q.2) = (List.range ts.length).all fun j => may (ls.getD j .none) (f (ts.getD j (1, 1)))
  | [], [], _ => rfl
  | p :: ls, t :: ts, h => by
    rw [List.length_cons, List.range_succ_eq_map, List.map_cons, List.zip_cons_cons, List.all_cons, List.all_cons, zip_all f ls ts (Nat.succ.inj h), List.all_map]
    rfl
  | [], _ :: _, h => by cases h
  | _ :: _, [], h => by cases h
theorem ix_ls {j : Nat} (h : j < ls.length) : ixV (.list ls) (.int (j : Int)) = some (ls.getD j .none) := by
  show L2.atI ls _ = _
  refine L2.atI_nat ?_
  rw [List.getD_eq_getElem?_getD, List.getElem?_eq_getElem h]
  rfl
theorem ix_rows {j : Nat} {r : Int} (h : j < ts.length) : ixV (rowsAt ts r) (.int (j : Int)) = some (rowIn (ts.getD j (1, 1)) r) := by
  show L2.atI (ts.map fun t => rowIn t r) _ = _
  refine L2.atI_nat ?_
  rw [List.getElem?_map, List.getD_eq_getElem?_getD, List.getElem?_eq_getElem h]
  rfl
theorem sh_getD (hs : ∀ q ∈ ls, Sh 0 q) (j : Nat) : Sh 0 (ls.getD j .none) := by
  rw [List.getD_eq_getElem?_getD]
  cases h : ls[j]? with
  | none => exact Sh.none
  | some t => exact hs t (List.mem_of_getElem? h)
theorem k24 (L : ρ.length = 35) (g : GTs ts) (hl : ts.length ≤ 3) (hls : ls.length = ts.length) (hs : ∀ q ∈ ls, Sh 0 q) (h3 : Rd ρ 3 (encTs ts)) (h18 : Rd ρ 18 (.list ls)) (h19 : Rd ρ 19 (everyT ts)) : ((tst (bin neV (callM 3 f_may_be_at (consA (rdS 3) (consA (rdS 18) (consA (kM (.int 50)) nilA)))) (lcM (seqI (rdS 19)) (bTp [(bNm 2), (bNm 32)]) (tru (callB allC (consA (lcM (rngI rng1V (consA (callB lenC (consA (rdP 3) nilA)) nilA)) (bNm 31) yes (orV (bin isV (bin ixV (rdP 18) (rdP 31)) (kM .none)) (bin eqV (bin ixV (rdP 18) (rdP 31)) (bin ixV (rdP 32) (rdP 31)))) [31]) nilA))) (rdS 2) [2, 32])))) ρ n = .ok false n := by
  have a1 : f_may_be_at [encTs ts, .list ls, .int 50] = .ok (encK (mayAt ts ls)) := sp_may_be_at g hs
  have hr1 := rng1_nat (b := (ts.length : Nat)) (by omega)
  rw [Int.toNat_natCast] at hr1
  have e := lcL_map (b := bTp [bNm 2, bNm 32]) (tt := tru (callB allC (consA (lcM (rngI rng1V (consA (callB lenC (consA (rdP 3) nilA)) nilA)) (bNm 31) yes (orV (bin isV (bin ixV (rdP 18) (rdP 31)) (kM .none)) (bin eqV (bin ixV (rdP 18) (rdP 31)) (bin ixV (rdP 32) (rdP 31)))) [31]) nilA))) (elt := rdS 2) (ρ0 := wipeE ρ [2, 32]) (n := n) (encE ts) (fun (k : Nat) => (ls.zip (ts.map fun t => rowIn t (1 + (k : Int)))).all fun q => may q.1 q.2) (fun (k : Nat) => .int (1 + (k : Int))) (List.range 50) fun k hk => ⟨_, rfl, by
    have e2 := lcL_all (b := bNm 31) (elt := orV (bin isV (bin ixV (rdP 18) (rdP 31)) (kM .none)) (bin eqV (bin ixV (rdP 18) (rdP 31)) (bin ixV (rdP 32) (rdP 31)))) (ρ0 := wipeE ((((wipeE ρ [2, 32]).set 2 (some (.sh (.int (1 + (k : Int)))))).set 32 (some (.sh (rowsAt ts (1 + (k : Int))))))) [31]) (n := n) (fun (j : Nat) => .int (j : Int)) (fun j => .bool (may (ls.getD j .none) (rowIn (ts.getD j (1, 1)) (1 + (k : Int))))) (List.range ts.length) fun j hj => by
      have hj := List.mem_range.mp hj
      refine ⟨_, rfl, ?_⟩
      have x := v_eq (sh_getD hs j) (sh_rowIn (ts.getD j (1, 1)) (1 + (k : Int)))
      have y : isV (ls.getD j .none) .none = some (.bool (isNone (ls.getD j .none))) := by cases ls.getD j .none <;> rfl
      have i1 := ix_ls (ls := ls) (show j < ls.length by omega)
      have i2 := ix_rows (r := 1 + (k : Int)) hj
      generalize ls.getD j .none = P at *
      generalize rowIn (ts.getD j (1, 1)) (1 + (k : Int)) = Q at *
      cases hn : isNone P <;> simp [orV, wipeE, rdp_eq, rdp_ne, L, h18.p, i1, i2, x, y, hn, may]
    rw [zip_all _ ls ts hls]
    simp only [wipeE, List.set_set] at e2
    simp [wipeE, rdp_ne, L, h3.p, len_ts, hr1, e2, all_map], fun _ => by simp [wipeE, rds_eq, rds_ne, L]⟩
  have s2 : Sh 1 (encK (mayAt ts ls)) := Sh.list fun x hx => by
    obtain ⟨k, _, rfl⟩ := List.mem_map.mp hx
    exact Sh.int _
  have a2 : neV (encK (mayAt ts ls)) (.list (((List.range 50).filter fun (k : Nat) => (ls.zip (ts.map fun t => rowIn t (1 + (k : Int)))).all fun q => may q.1 q.2).map fun (k : Nat) => .int (1 + (k : Int)))) = some (.bool false) := v_ne_self s2
  have s : seqV (everyT ts) = some ((List.range 50).map (encE ts)) := rfl
  simp only [e_tst, e_bin, e_callM, e_consA, e_nilA, e_kM, e_lcM, e_seqI, h3.s, h18.s, h19.s, Out.bind_ok, a1, a2, opt, bl_bool, opB, opA, noX, if_true, List.length_cons, List.length_nil, Nat.zero_add, Nat.reduceAdd, ofF, s, e]
end K18
set_option Elab.async false
set_option linter.all false
set_option maxRecDepth 100000
set_option maxHeartbeats 4000000
namespace K18
open PySem DL
variable {R : List Int} {ρ : DEnv} {n : Nat} {row last len : Int} {tm : List Int}
theorem k25 (L : ρ.length = 35) (hb : Bx ρ) : ∃ (tm : List Int) (n1 : Nat), tm ≠ [] ∧ (∀ t ∈ tm, 1 ≤ t) ∧ ((lcM (rngI rng1V (consA (bin addV (kM (.int 1)) (nxt R 1 (kM (.int 4)))) nilA)) (bNm 2) yes (bin addV (kM (.int 1)) (nxt R 1 (kM (.int 9)))) [2])) ρ n = .ok (encI tm) n1 := by
  obtain ⟨d, d1, d2, e⟩ := nx (R := R) (n := n) (f := kM (.int 4)) hb rfl (by decide)
  have hr := rng1_nat (b := 1 + d) (by omega)
  obtain ⟨ys, n1, e1, hl, hg⟩ := lcL_rel (b := bNm 2) (elt := bin addV (kM (.int 1)) (nxt R 1 (kM (.int 9)))) (ρ0 := wipeE ρ [2]) (fun (k : Nat) => .int (k : Int)) PyData.int (fun _ t => 1 ≤ t) (List.range (1 + d).toNat) (fun k _ m => by
    have hb2 : Bx ((wipeE ρ [2]).set 2 (some (.sh (.int (k : Int))))) := (hb.ne (by decide)).ne (by decide)
    obtain ⟨x, x1, x2, ex⟩ := nx (R := R) (n := m) (f := kM (.int 9)) hb2 rfl (by decide)
    refine ⟨_, 1 + x, m + 1, rfl, ?_, by omega⟩
    simp [ex]) (n + 1)
  refine ⟨ys, n1, fun h => ?_, fun t ht => ?_, ?_⟩
  · rw [h, List.length_range, List.length_nil] at hl
    omega
  · obtain ⟨_, _, z⟩ := hg t ht
    exact z
  · simp [e, hr, e1, encI]
theorem k26 (L : ρ.length = 35) (ht : tm ≠ []) (hr : 1 ≤ row ∧ row ≤ 40) (hla : row ≤ last ∧ last ≤ 59) (h4 : Rd ρ 4 (.int row)) (h14 : Rd ρ 14 (.int last)) (h20 : Rd ρ 20 (encI tm)) : ((lcM (rngI rng2V (consA (rdS 4) (consA (bin addV (rdP 14) (kM (.int 1))) nilA))) (bNm 2) yes (bin ixV (rdP 20) (bin modV (bin subV (rdP 2) (kM (.int 1))) (callB lenC (consA (rdP 20) nilA)))) [2])) ρ n = .ok (encI (spent tm row last)) n := by
  have hr2 := rng2_nat (a := row) (b := last + 1) (by omega)
  have e := lcL_all (b := bNm 2) (elt := bin ixV (rdP 20) (bin modV (bin subV (rdP 2) (kM (.int 1))) (callB lenC (consA (rdP 20) nilA)))) (ρ0 := wipeE ρ [2]) (n := n) (fun (k : Nat) => .int (row + (k : Int))) (fun (k : Nat) => .int (tAt tm (row + k - 1))) (List.range (last + 1 - row).toNat) fun k hk => ⟨_, rfl, by simp [wipeE, rdp_eq, rdp_ne, L, h20.p, len_encI, v_modl ht, ix_tm ht]⟩
  simp [h4.s, h14.p, hr2, e, encI, spent]
theorem k27 (hb : Bx ρ) : ∃ (len : Int) (n1 : Nat), 0 ≤ len ∧ len < 60 ∧ ((nxt R 1 (kM (.int 60)))) ρ n = .ok (.int len) n1 := by
  obtain ⟨d, d1, d2, e⟩ := nx (R := R) (n := n) (f := kM (.int 60)) hb rfl (by decide)
  exact ⟨d, _, d1, d2, e⟩
theorem sum_map {α : Type} (f : α → Int) (l : List α) : sumC [.list (l.map fun x => .int (f x))] = some (.int (l.map f).sum) := by
  show (intsOf _).map _ = _
  rw [ints_map]
  rfl
def aheads (tm : List Int) (row len : Int) : PV := .list ((ahead tm row len).map fun (k : Nat) => .int (k : Int))
theorem k28 (L : ρ.length = 35) (ht : tm ≠ []) (h4 : Rd ρ 4 (.int row)) (h20 : Rd ρ 20 (encI tm)) (h22 : Rd ρ 22 (.int len)) : ((lcM (rngI rng1V (consA (kM (.int 70)) nilA)) (bNm 2) (tst (bin leV (callB sumC (consA (lcM (rngI rng1V (consA (rdS 2) nilA)) (bNm 31) yes (bin ixV (rdP 20) (bin modV (bin subV (bin addV (rdP 4) (rdP 31)) (kM (.int 1))) (callB lenC (consA (rdP 20) nilA)))) [31]) nilA)) (rdP 22))) (rdS 2) [2])) ρ n = .ok (aheads tm row len) n := by
  have hr1 := rng1_nat (b := 70) (by decide)
  have e := lcL_map (b := bNm 2) (tt := tst (bin leV (callB sumC (consA (lcM (rngI rng1V (consA (rdS 2) nilA)) (bNm 31) yes (bin ixV (rdP 20) (bin modV (bin subV (bin addV (rdP 4) (rdP 31)) (kM (.int 1))) (callB lenC (consA (rdP 20) nilA)))) [31]) nilA)) (rdP 22))) (elt := rdS 2) (ρ0 := wipeE ρ [2]) (n := n) (fun (k : Nat) => .int (k : Int)) (fun (k : Nat) => decide (sumT tm row k ≤ len)) (fun (k : Nat) => .int (k : Int)) (List.range 70) fun k hk => ⟨_, rfl, by
    have hk := List.mem_range.mp hk
    have hr3 := rng1_nat (b := (k : Int)) (by omega)
    rw [Int.toNat_natCast] at hr3
    have e2 := lcL_all (b := bNm 31) (elt := bin ixV (rdP 20) (bin modV (bin subV (bin addV (rdP 4) (rdP 31)) (kM (.int 1))) (callB lenC (consA (rdP 20) nilA)))) (ρ0 := wipeE ((wipeE ρ [2]).set 2 (some (.sh (.int (k : Int))))) [31]) (n := n) (fun (j : Nat) => .int (j : Int)) (fun (j : Nat) => .int (tAt tm (row + j - 1))) (List.range k) fun j hj => ⟨_, rfl, by simp [wipeE, rdp_eq, rdp_ne, L, h20.p, h4.p, len_encI, v_modl ht, ix_tm ht]⟩
    have e3 := sum_map (fun (j : Nat) => tAt tm (row + j - 1)) (List.range k)
    rw [sumT_sum] at e3
    simp only [wipeE, List.set_set] at e2
    simp [wipeE, rds_eq, rdp_ne, L, hr3, e2, e3, h22.p], fun _ => by simp [wipeE, rds_eq, L]⟩
  have t70 : (70 : Int).toNat = 70 := rfl
  rw [t70] at hr1
  simp only [e_lcM, e_rngI, e_consA, e_nilA, e_kM, Out.bind_ok, hr1, opA, e, noX, aheads, ahead]
theorem k29 (ht : tm ≠ []) (hp : ∀ t ∈ tm, 1 ≤ t) (hr : 1 ≤ row ∧ row ≤ 40) (hla : row ≤ last ∧ last ≤ 59) (hlen : 0 ≤ len ∧ len < 60) (h4 : Rd ρ 4 (.int row)) (h14 : Rd ρ 14 (.int last)) (h20 : Rd ρ 20 (encI tm)) (h21 : Rd ρ 21 (encI (spent tm row last))) (h22 : Rd ρ 22 (.int len)) (h23 : Rd ρ 23 (aheads tm row len)) : ((orB (tst (bin neV (callM 3 f_time_left (consA (rdS 4) (consA (rdS 14) (consA (rdS 20) nilA)))) (callB sumC (consA (rdP 21) nilA)))) (tst (bin neV (callM 3 f_done_by (consA (rdS 4) (consA (rdS 20) (consA (rdS 22) nilA)))) (bin subV (bin addV (rdP 4) (callB maxC (consA (rdP 23) nilA))) (kM (.int 1))))))) ρ n = .ok false n := by
  have a1 := sp_time_left (a := row) (b := last) ht (by omega) (by omega)
  obtain ⟨k, b1, b2, a2⟩ := sp_done_by (row := row) (len := len) ht hp (by omega)
  have a3 : maxC [aheads tm row len] = some (.int (k : Int)) := max_ahead ht hp hlen.2 b1 b2
  have a4 := sum_encI (spent tm row last)
  simp [h4.s, h4.p, h14.s, h20.s, h21.p, h22.s, h23.p, a1, a2, a3, a4]
theorem ix_mv : ∀ j : Nat, j < 3 → ixV (.list [.str "+", .str "-", .str "0"]) (.int (j : Int)) = some (encV j)
  | 0, _ => by
    show L2.atI _ ((0 : Nat) : Int) = _
    exact L2.atI_nat (j := 0) rfl
  | 1, _ => by
    show L2.atI _ ((1 : Nat) : Int) = _
    exact L2.atI_nat (j := 1) rfl
  | 2, _ => by
    show L2.atI _ ((2 : Nat) : Int) = _
    exact L2.atI_nat (j := 2) rfl
  | j + 3, h => by omega
theorem k30 (L : ρ.length = 35) (hb : Bx ρ) : ∃ (l : List Nat) (n1 : Nat), ((lcM (rngI rng1V (consA (nxt R 1 (kM (.int 12))) nilA)) (bNm 2) yes (bin ixV (lstA (consA (kM (.str "+")) (consA (kM (.str "-")) (consA (kM (.str "0")) nilA)))) (bin fdivV (nxt R 1 (kM (.int 7))) (kM (.int 3)))) [2])) ρ n = .ok (.list (l.map encV)) n1 := by
  obtain ⟨d, d1, d2, e⟩ := nx (R := R) (n := n) (f := kM (.int 12)) hb rfl (by decide)
  have hr := rng1_nat (b := d) (by omega)
  have tr : 3 ≤ sizeLine := by rw [sizeLine_eq]; decide
  obtain ⟨ys, n1, e1, hl, hg⟩ := lcL_rel (b := bNm 2) (elt := bin ixV (lstA (consA (kM (.str "+")) (consA (kM (.str "-")) (consA (kM (.str "0")) nilA)))) (bin fdivV (nxt R 1 (kM (.int 7))) (kM (.int 3)))) (ρ0 := wipeE ρ [2]) (fun (k : Nat) => .int (k : Int)) encV (fun _ t => True) (List.range d.toNat) (fun k _ m => by
    have hb2 : Bx ((wipeE ρ [2]).set 2 (some (.sh (.int (k : Int))))) := (hb.ne (by decide)).ne (by decide)
    obtain ⟨x, x1, x2, ex⟩ := nx (R := R) (n := m) (f := kM (.int 7)) hb2 rfl (by decide)
    have f3 : x.fdiv 3 = (((x / 3).toNat : Nat) : Int) := by
      rw [Int.fdiv_eq_ediv_of_nonneg _ (by decide)]
      omega
    have y := ix_mv (x / 3).toNat (by omega)
    have v : fdivV (.int x) (.int 3) = some (.int (((x / 3).toNat : Nat) : Int)) := by rw [v_fdiv (by decide), f3]
    refine ⟨_, (x / 3).toNat, m + 1, rfl, ?_, trivial⟩
    simp only [e_bin, e_lstA, e_consA, e_nilA, e_kM, Out.bind_ok, List.length_cons, List.length_nil, Nat.zero_add, Nat.reduceAdd, tr, if_true, ex, v, opt, y]) (n + 1)
  exact ⟨ys, n1, by simp [e, hr, e1]⟩
theorem k31 : ((kM (.int 0))) ρ n = .ok (.int 0) n := rfl
variable {l : List Nat}
theorem k32 (L : ρ.length = 35) (h24 : Rd ρ 24 (.list (l.map encV))) (h25 : Rd ρ 25 (.int 0)) : ∃ ρ1, ((forS (seqI (rdS 24)) (bNm 26) (setS 25 (iteM (tst (bin eqV (rdP 26) (kM (.str "+")))) (bin addV (rdP 25) (kM (.int 1))) (iteM (tst (bin eqV (rdP 26) (kM (.str "-")))) (callB maxC (consA (kM (.int 0)) (consA (bin subV (rdP 25) (kM (.int 1))) nilA))) (kM (.int 0))))))) ρ n = .next ρ1 n ∧ ρ1.length = 35 ∧ Rd ρ1 25 (.int (tick l)) ∧ ∀ i, i ≠ 25 → i ≠ 26 → ρ1[i]? = ρ[i]? := by
  rw [e_forS]
  have s : seqV (.list (l.map encV)) = some (l.map encV) := rfl
  simp only [e_seqI, h24.s, Out.bind_ok, s, opA, ofE]
  obtain ⟨ρ', e1, l1, b1, o1⟩ := forL_inv (b := bNm 26) (body := setS 25 (iteM (tst (bin eqV (rdP 26) (kM (.str "+")))) (bin addV (rdP 25) (kM (.int 1))) (iteM (tst (bin eqV (rdP 26) (kM (.str "-")))) (callB maxC (consA (kM (.int 0)) (consA (bin subV (rdP 25) (kM (.int 1))) nilA))) (kM (.int 0)))))
    encV (fun (z : Int) ρ1 => ρ1.length = 35 ∧ Rd ρ1 25 (.int z) ∧ ∀ i, i ≠ 25 → i ≠ 26 → ρ1[i]? = ρ[i]?) tkS n l (fun z ρ1 x hx ⟨l1, b1, o1⟩ => by
      have r26 : Rd (ρ1.set 26 (some (.sh (encV x)))) 26 (encV x) := Rd.eq (by rw [l1]; decide)
      have r25 : Rd (ρ1.set 26 (some (.sh (encV x)))) 25 (.int z) := b1.ne (by decide)
      refine ⟨_, (ρ1.set 26 (some (.sh (encV x)))).set 25 (some (.sh (.int (tkS z x)))), rfl, .inl ?_, by rw [List.length_set, List.length_set, l1], Rd.eq (by rw [List.length_set, l1]; decide), fun j a b => by
        rw [List.getElem?_set_ne (Ne.symm a), List.getElem?_set_ne (Ne.symm b)]
        exact o1 j a b⟩
      generalize (ρ1.set 26 (some (.sh (encV x)))) = ρ2 at *
      match x with
      | 0 => simp [r26.p, r25.p, enc_plus, tkS]
      | 1 => simp [r26.p, r25.p, enc_plus, enc_minus, max0, tkS]
      | x + 2 => simp [r26.p, r25.p, enc_plus, enc_minus, tkS]) 0 ρ ⟨L, h25, fun _ _ _ => rfl⟩
  exact ⟨ρ', e1, l1, b1, o1⟩
theorem k33 (h24 : Rd ρ 24 (.list (l.map encV))) (h25 : Rd ρ 25 (.int (tick l))) : ((tst (bin neV (callM 1 f_ticks (consA (rdS 24) nilA)) (rdP 25)))) ρ n = .ok false n := by
  have a := sp_ticks l
  simp [h24.s, h25.p, a]
theorem k34 (hb : Bx ρ) : ∃ m n1 : Nat, m < 24 ∧ ((nxt R 1 (kM (.int 24)))) ρ n = .ok (.int (m : Int)) n1 := by
  obtain ⟨d, d1, d2, e⟩ := nx (R := R) (n := n) (f := kM (.int 24)) hb rfl (by decide)
  refine ⟨d.toNat, n + 1, by omega, ?_⟩
  rw [show ((d.toNat : Nat) : Int) = d from by omega]
  exact e
variable {m : Nat}
theorem k35 (hm : m < 24) (h27 : Rd ρ 27 (.int (m : Int))) : ((mth joinV (kM (.str " ")) (bin addV (bin mulV (lstA (consA (kM (.str "||||/")) nilA)) (bin fdivV (rdP 27) (kM (.int 5)))) (bin mulV (lstA (consA (bin mulV (kM (.str "|")) (bin modV (rdP 27) (kM (.int 5)))) nilA)) (callB intC (consA (bin gtV (bin modV (rdP 27) (kM (.int 5))) (kM (.int 0))) nilA)))))) ρ n = .ok (.str (tal m)) n := (ex_read (f := rdP 27) h27.p).trans (ex_tal ρ n m hm)
theorem k36 (hm : m < 24) (h27 : Rd ρ 27 (.int (m : Int))) (h28 : Rd ρ 28 (.str (tal m))) : ((orB (tst (bin neV (callM 1 f_tally (consA (rdS 27) nilA)) (rdP 28))) (orB (tst (bin neV (callM 4 f__law_told (consA (kM (.int 1)) (consA (rdS 28) (consA (kM .none) (consA (kM .none) nilA))))) (rdP 27))) (tst (bin neV (callM 1 f_tally (consA (kM (.int 0)) nilA)) (kM (.str ""))))))) ρ n = .ok false n := by
  have a1 := sp_tally m hm
  have a2 := sp_told1 m hm
  have a3 : neV (.str (tal m)) (.str (tal m)) = some (.bool false) := v_ne_self (sh_tal m hm)
  have a4 : neV (.str "") (.str "") = some (.bool false) := by kernel_rfl
  have a5 := sp_tally0
  simp [h27.s, h27.p, h28.s, h28.p, a1, a2, a3, a4, a5]
theorem k37 (L : ρ.length = 35) : ((tru (callB anyC (consA (lcM (seqI (lstA (consA (kM (.str "|||||")) (consA (kM (.str "| ||||/")) (consA (kM (.str "x")) (consA (kM (.str "||||/ ")) (consA (kM (.str "||  |")) nilA))))))) (bNm 33) yes (bin neV (callM 4 f__law_told (consA (kM (.int 1)) (consA (rdS 33) (consA (kM .none) (consA (kM .none) nilA))))) (kM (.str "none"))) [33]) nilA)))) ρ n = .ok false n := by
  have e := lcL_all (b := bNm 33) (elt := bin neV (callM 4 f__law_told (consA (kM (.int 1)) (consA (rdS 33) (consA (kM .none) (consA (kM .none) nilA))))) (kM (.str "none"))) (ρ0 := wipeE ρ [33]) (n := n) (fun q : PV => q) (fun _ => .bool false) [.str "|||||", .str "| ||||/", .str "x", .str "||||/ ", .str "||  |"] fun q hq => ⟨_, rfl, by
    have a := sp_wrong q hq
    have s : neV (.str "none") (.str "none") = some (.bool false) := by kernel_rfl
    simp [wipeE, rds_eq, L, a, s]⟩
  rw [List.map_id'] at e
  have f5 : 5 ≤ sizeLine := by rw [sizeLine_eq]; decide
  have s : seqV (.list [.str "|||||", .str "| ||||/", .str "x", .str "||||/ ", .str "||  |"]) = some [.str "|||||", .str "| ||||/", .str "x", .str "||||/ ", .str "||  |"] := rfl
  have a := any_map (fun _ : PV => false) [.str "|||||", .str "| ||||/", .str "x", .str "||||/ ", .str "||  |"]
  simp only [e_tru, e_callB, e_lcM, e_seqI, e_lstA, e_consA, e_nilA, e_kM, Out.bind_ok, List.length_cons, List.length_nil, Nat.zero_add, Nat.reduceAdd, f5, if_true, s, opA, e, noX, opt, a, tr_bool, opB]
  rfl
def vals : List (PV × Bool) := [(PyData.tuple [.tuple [.int 1, .int 4]], true), (.tuple [], false), (.tuple [.tuple [.int 0, .int 4]], false), (.tuple [.tuple [.int 1, .int 0]], false), (.tuple [.tuple [.int 1, .int 1001]], false), (.list [.tuple [.int 1, .int 4]], false), (.tuple [.tuple [.bool true, .int 4]], false), (.tuple (List.replicate 9 (.tuple [.int 1, .int 4])), false), (.none, false)]
theorem k38 : ((lstA (consA (tupA (consA (tupA (consA (kM (.int 1)) (consA (kM (.int 4)) nilA))) nilA)) (consA (tupA nilA) (consA (tupA (consA (tupA (consA (kM (.int 0)) (consA (kM (.int 4)) nilA))) nilA)) (consA (tupA (consA (tupA (consA (kM (.int 1)) (consA (kM (.int 0)) nilA))) nilA)) (consA (tupA (consA (tupA (consA (kM (.int 1)) (consA (kM (.int 1001)) nilA))) nilA)) (consA (lstA (consA (tupA (consA (kM (.int 1)) (consA (kM (.int 4)) nilA))) nilA)) (consA (tupA (consA (tupA (consA (kM (.bool true)) (consA (kM (.int 4)) nilA))) nilA)) (consA (bin mulV (tupA (consA (tupA (consA (kM (.int 1)) (consA (kM (.int 4)) nilA))) nilA)) (kM (.int 9))) (consA (kM .none) nilA))))))))))) ρ n = .ok (.list (vals.map (·.1))) n := by
  have sz := sizeLine_eq
  have h1 : 1 ≤ sizeLine := by omega
  have h2 : 2 ≤ sizeLine := by omega
  have h9 : 9 ≤ sizeLine := by omega
  have h0 : 0 ≤ sizeLine := by omega
  have e : mulV (.tuple [.tuple [.int 1, .int 4]]) (.int 9) = some (.tuple (List.replicate 9 (.tuple [.int 1, .int 4]))) := by
    show (if (9 : Int).natAbs ≤ 2 ^ 24 ∧ [PyData.tuple [.int 1, .int 4]].length * (9 : Int).toNat ≤ sizeLine then some (PyData.tuple (List.replicate (9 : Int).toNat [PyData.tuple [.int 1, .int 4]]).flatten) else none) = _
    have h : (9 : Int).natAbs ≤ 2 ^ 24 ∧ [PyData.tuple [.int 1, .int 4]].length * (9 : Int).toNat ≤ sizeLine := ⟨by decide, by
      show 1 * 9 ≤ sizeLine
      omega⟩
    rw [if_pos h]
    rfl
  simp only [e_lstA, e_tupA, e_consA, e_nilA, e_bin, e_kM, Out.bind_ok, List.length_cons, List.length_nil, Nat.zero_add, Nat.reduceAdd, h0, h1, h2, h9, if_true, e, opt]
  rfl
theorem k39 (L : ρ.length = 35) (h29 : Rd ρ 29 (.list (vals.map (·.1)))) : ((bin eqV (lcM (seqI (rdS 29)) (bNm 34) yes (callM 1 f_is_tracks (consA (rdS 34) nilA)) [34]) (bin addV (lstA (consA (kM (.bool true)) nilA)) (bin mulV (lstA (consA (kM (.bool false)) nilA)) (kM (.int 8)))))) ρ n = .ok (.bool true) n := by
  have e := lcL_all (b := bNm 34) (elt := callM 1 f_is_tracks (consA (rdS 34) nilA)) (ρ0 := wipeE ρ [34]) (n := n) (fun q : PV × Bool => q.1) (fun q => .bool q.2) vals fun q hq => ⟨_, rfl, by
    have a := sp_is0 q hq
    simp [wipeE, rds_eq, L, a]⟩
  have s : seqV (.list (vals.map (·.1))) = some (vals.map (·.1)) := rfl
  have sz := sizeLine_eq
  have h1 : 1 ≤ sizeLine := by omega
  have m8 : mulV (.list [.bool false]) (.int 8) = some (.list (List.replicate 8 (.bool false))) := by
    show (if (8 : Int).natAbs ≤ 2 ^ 24 ∧ [PyData.bool false].length * (8 : Int).toNat ≤ sizeLine then some (PyData.list (List.replicate (8 : Int).toNat [PyData.bool false]).flatten) else none) = _
    have h : (8 : Int).natAbs ≤ 2 ^ 24 ∧ [PyData.bool false].length * (8 : Int).toNat ≤ sizeLine := ⟨by decide, by
      show 1 * 8 ≤ sizeLine
      omega⟩
    rw [if_pos h]
    rfl
  have a9 : addV (.list [.bool true]) (.list (List.replicate 8 (.bool false))) = some (.list (vals.map fun q => .bool q.2)) := by
    show (if [PyData.bool true].length + (List.replicate 8 (PyData.bool false)).length ≤ sizeLine then some (PyData.list ([PyData.bool true] ++ List.replicate 8 (.bool false))) else none) = _
    have h : [PyData.bool true].length + (List.replicate 8 (PyData.bool false)).length ≤ sizeLine := by
      show 1 + 8 ≤ sizeLine
      omega
    rw [if_pos h]
    rfl
  have sv : Sh 1 (.list (vals.map fun q => .bool q.2)) := Sh.list fun x hx => by
    obtain ⟨k, _, rfl⟩ := List.mem_map.mp hx
    exact Sh.bool _
  have q : eqV (.list (vals.map fun q => .bool q.2)) (.list (vals.map fun q => .bool q.2)) = some (.bool true) := by
    rw [v_eq sv sv, SeqAt.eqv_refl _ sv.1]
  simp only [e_bin, e_lcM, e_seqI, h29.s, Out.bind_ok, s, opA, e, noX, e_lstA, e_consA, e_nilA, e_kM, List.length_cons, List.length_nil, Nat.zero_add, Nat.reduceAdd, h1, if_true, m8, a9, opt, q]
end K18
set_option Elab.async false
set_option linter.all false
set_option maxRecDepth 100000
set_option maxHeartbeats 40000000
namespace K18
open PySem DL
theorem win_setK {ρ : DEnv} {n i : Nat} {f : M} {rest : MS} {p : PV} {n1 : Nat} (h : f ρ n = .ok p n1) (L : ρ.length = 35) (b : Bx ρ) (hi : i < 35 ∧ i ≠ 1) (w : ∀ ρ1 : DEnv, ρ1.length = 35 → Rd ρ1 i p → (∀ j q, i ≠ j → Rd ρ j q → Rd ρ1 j q) → Bx ρ1 → Wins rest ρ1 n1) : Wins (seqS (setS i f) rest) ρ n :=
  win_set h (w _ (by rw [List.length_set, L]) (Rd.eq (by rw [L]; exact hi.1)) (fun _ _ k r => r.ne k) (b.ne hi.2))
theorem pure_ok (R : List Int) (_ : RGood R) : ∃ m, d_law R (lawE 33) 0 = .ret (.bool true) m := by
  show Wins (d_law R) (lawE 33) 0
  have L0 : (lawE 33).length = 35 := rfl
  have b0 : Bx (lawE 33) := rfl
  generalize lawE 33 = ρ0 at *
  unfold d_law
  obtain ⟨ts, n1, g, hl1, hl3, e0⟩ := k0 (R := R) (ρ := ρ0) (n := 0) L0 b0
  refine win_setK (e0) L0 b0 (by decide) fun ρ1 L1 h3_1 c1 b1 => ?_
  obtain ⟨row, n2, r1, r40, e1⟩ := k1 (R := R) (ρ := ρ1) (n := n1) b1
  refine win_setK (e1) L1 b1 (by decide) fun ρ2 L2 h4_2 c2 b2 => ?_
  have h3_2 := c2 3 _ (by decide) h3_1
  refine win_setK (k2 L2 g ⟨r1, r40⟩ h3_2 h4_2) L2 b2 (by decide) fun ρ3 L3 h6_3 c3 b3 => ?_
  have h3_3 := c3 3 _ (by decide) h3_2
  have h4_3 := c3 4 _ (by decide) h4_2
  refine win_chk (k3 L3 g ⟨hl1, hl3⟩ ⟨r1, r40⟩ h3_3 h4_3 h6_3) ?_
  refine win_setK (k4 L3 g ⟨r1, r40⟩ h3_3 h4_3) L3 b3 (by decide) fun ρ4 L4 h7_4 c4 b4 => ?_
  have h3_4 := c4 3 _ (by decide) h3_3
  have h4_4 := c4 4 _ (by decide) h4_3
  have h6_4 := c4 6 _ (by decide) h6_3
  refine win_chk (k5 L4 g h3_4 h4_4 h7_4) ?_
  obtain ⟨t, ht, e6⟩ := k6 (ρ := ρ4) (n := n2) hl1 h3_4
  refine win_setK (e6) L4 b4 (by decide) fun ρ5 L5 h5_5 c5 b5 => ?_
  have h3_5 := c5 3 _ (by decide) h3_4
  have h4_5 := c5 4 _ (by decide) h4_4
  have h6_5 := c5 6 _ (by decide) h6_4
  have h7_5 := c5 7 _ (by decide) h7_4
  obtain ⟨p, n3, e7⟩ := k7 (R := R) (ρ := ρ5) (n := n2) b5 (g t ht) h5_5
  refine win_setK (e7) L5 b5 (by decide) fun ρ6 L6 h8_6 c6 b6 => ?_
  have h3_6 := c6 3 _ (by decide) h3_5
  have h4_6 := c6 4 _ (by decide) h4_5
  have h6_6 := c6 6 _ (by decide) h6_5
  have h7_6 := c6 7 _ (by decide) h7_5
  have h5_6 := c6 5 _ (by decide) h5_5
  refine win_setK (k8 L6 (g t ht) ⟨r1, r40⟩ h4_6 h5_6 h8_6) L6 b6 (by decide) fun ρ7 L7 h9_7 c7 b7 => ?_
  have h3_7 := c7 3 _ (by decide) h3_6
  have h4_7 := c7 4 _ (by decide) h4_6
  have h6_7 := c7 6 _ (by decide) h6_6
  have h7_7 := c7 7 _ (by decide) h7_6
  have h5_7 := c7 5 _ (by decide) h5_6
  have h8_7 := c7 8 _ (by decide) h8_6
  refine win_chk (k9 (g t ht) ⟨r1, r40⟩ h4_7 h5_7 h8_7 h9_7) ?_
  refine win_setK (k10 L7 g hl3 h3_7) L7 b7 (by decide) fun ρ8 L8 h10_8 c8 b8 => ?_
  have h3_8 := c8 3 _ (by decide) h3_7
  have h4_8 := c8 4 _ (by decide) h4_7
  have h6_8 := c8 6 _ (by decide) h6_7
  have h7_8 := c8 7 _ (by decide) h7_7
  have h5_8 := c8 5 _ (by decide) h5_7
  have h8_8 := c8 8 _ (by decide) h8_7
  have h9_8 := c8 9 _ (by decide) h9_7
  refine win_chk (k11 L8 g h3_8 h10_8) ?_
  refine win_setK (k12 L8 hl3 h3_8 h4_8) L8 b8 (by decide) fun ρ9 L9 h11_9 c9 b9 => ?_
  have h3_9 := c9 3 _ (by decide) h3_8
  have h4_9 := c9 4 _ (by decide) h4_8
  have h6_9 := c9 6 _ (by decide) h6_8
  have h7_9 := c9 7 _ (by decide) h7_8
  have h5_9 := c9 5 _ (by decide) h5_8
  have h8_9 := c9 8 _ (by decide) h8_8
  have h9_9 := c9 9 _ (by decide) h9_8
  have h10_9 := c9 10 _ (by decide) h10_8
  refine win_setK (k13 L9 g hl3 ⟨r1, r40⟩ h3_9 h10_9 h11_9) L9 b9 (by decide) fun ρ10 L10 h12_10 c10 b10 => ?_
  have h3_10 := c10 3 _ (by decide) h3_9
  have h4_10 := c10 4 _ (by decide) h4_9
  have h6_10 := c10 6 _ (by decide) h6_9
  have h7_10 := c10 7 _ (by decide) h7_9
  have h5_10 := c10 5 _ (by decide) h5_9
  have h8_10 := c10 8 _ (by decide) h8_9
  have h9_10 := c10 9 _ (by decide) h9_9
  have h10_10 := c10 10 _ (by decide) h10_9
  have h11_10 := c10 11 _ (by decide) h11_9
  refine win_chk (k14 g hl3 h3_10 h4_10 h12_10) ?_
  obtain ⟨ms, n4, hm, e15⟩ := k15 (R := R) (ρ := ρ10) (n := n3) L10 b10 g h3_10
  refine win_setK (e15) L10 b10 (by decide) fun ρ11 L11 h13_11 c11 b11 => ?_
  have h3_11 := c11 3 _ (by decide) h3_10
  have h4_11 := c11 4 _ (by decide) h4_10
  have h6_11 := c11 6 _ (by decide) h6_10
  have h7_11 := c11 7 _ (by decide) h7_10
  have h5_11 := c11 5 _ (by decide) h5_10
  have h8_11 := c11 8 _ (by decide) h8_10
  have h9_11 := c11 9 _ (by decide) h9_10
  have h10_11 := c11 10 _ (by decide) h10_10
  have h11_11 := c11 11 _ (by decide) h11_10
  have h12_11 := c11 12 _ (by decide) h12_10
  obtain ⟨last, n5, la1, la2, e16⟩ := k16 (R := R) (ρ := ρ11) (n := n4) b11 ⟨r1, r40⟩ h4_11
  refine win_setK (e16) L11 b11 (by decide) fun ρ12 L12 h14_12 c12 b12 => ?_
  have h3_12 := c12 3 _ (by decide) h3_11
  have h4_12 := c12 4 _ (by decide) h4_11
  have h6_12 := c12 6 _ (by decide) h6_11
  have h7_12 := c12 7 _ (by decide) h7_11
  have h5_12 := c12 5 _ (by decide) h5_11
  have h8_12 := c12 8 _ (by decide) h8_11
  have h9_12 := c12 9 _ (by decide) h9_11
  have h10_12 := c12 10 _ (by decide) h10_11
  have h11_12 := c12 11 _ (by decide) h11_11
  have h12_12 := c12 12 _ (by decide) h12_11
  have h13_12 := c12 13 _ (by decide) h13_11
  refine win_setK (k17) L12 b12 (by decide) fun ρ13 L13 h15_13 c13 b13 => ?_
  have h3_13 := c13 3 _ (by decide) h3_12
  have h4_13 := c13 4 _ (by decide) h4_12
  have h6_13 := c13 6 _ (by decide) h6_12
  have h7_13 := c13 7 _ (by decide) h7_12
  have h5_13 := c13 5 _ (by decide) h5_12
  have h8_13 := c13 8 _ (by decide) h8_12
  have h9_13 := c13 9 _ (by decide) h9_12
  have h10_13 := c13 10 _ (by decide) h10_12
  have h11_13 := c13 11 _ (by decide) h11_12
  have h12_13 := c13 12 _ (by decide) h12_12
  have h13_13 := c13 13 _ (by decide) h13_12
  have h14_13 := c13 14 _ (by decide) h14_12
  obtain ⟨ρQ, eq, LQ, hQ, oQ⟩ := k18 (ρ := ρ13) (n := n5) L13 g hm hl3 ⟨r1, r40⟩ ⟨la1, la2⟩ h3_13 h4_13 h13_13 h14_13 h15_13
  refine win_for eq ?_
  have bQ : Bx ρQ := (oQ 1 (by decide) (by decide) (by decide)).trans b13
  have h3_14 : Rd ρQ 3 _ := (oQ 3 (by decide) (by decide) (by decide)).trans h3_13
  have h4_14 : Rd ρQ 4 _ := (oQ 4 (by decide) (by decide) (by decide)).trans h4_13
  have h6_14 : Rd ρQ 6 _ := (oQ 6 (by decide) (by decide) (by decide)).trans h6_13
  have h7_14 : Rd ρQ 7 _ := (oQ 7 (by decide) (by decide) (by decide)).trans h7_13
  have h5_14 : Rd ρQ 5 _ := (oQ 5 (by decide) (by decide) (by decide)).trans h5_13
  have h8_14 : Rd ρQ 8 _ := (oQ 8 (by decide) (by decide) (by decide)).trans h8_13
  have h9_14 : Rd ρQ 9 _ := (oQ 9 (by decide) (by decide) (by decide)).trans h9_13
  have h10_14 : Rd ρQ 10 _ := (oQ 10 (by decide) (by decide) (by decide)).trans h10_13
  have h11_14 : Rd ρQ 11 _ := (oQ 11 (by decide) (by decide) (by decide)).trans h11_13
  have h12_14 : Rd ρQ 12 _ := (oQ 12 (by decide) (by decide) (by decide)).trans h12_13
  have h13_14 : Rd ρQ 13 _ := (oQ 13 (by decide) (by decide) (by decide)).trans h13_13
  have h14_14 : Rd ρQ 14 _ := (oQ 14 (by decide) (by decide) (by decide)).trans h14_13
  have h15_14 := hQ
  have L14 := LQ
  have b14 := bQ
  have bl := busy_len ts ms row (last + 1 - row).toNat
  refine win_setK (k19 (B := busyT ts ms row (last + 1 - row).toNat) L14 (by omega) h15_14) L14 b14 (by decide) fun ρ15 L15 h17_15 c15 b15 => ?_
  have h3_15 := c15 3 _ (by decide) h3_14
  have h4_15 := c15 4 _ (by decide) h4_14
  have h6_15 := c15 6 _ (by decide) h6_14
  have h7_15 := c15 7 _ (by decide) h7_14
  have h5_15 := c15 5 _ (by decide) h5_14
  have h8_15 := c15 8 _ (by decide) h8_14
  have h9_15 := c15 9 _ (by decide) h9_14
  have h10_15 := c15 10 _ (by decide) h10_14
  have h11_15 := c15 11 _ (by decide) h11_14
  have h12_15 := c15 12 _ (by decide) h12_14
  have h13_15 := c15 13 _ (by decide) h13_14
  have h14_15 := c15 14 _ (by decide) h14_14
  have h15_15 := c15 15 _ (by decide) h15_14
  refine win_chk (k20 L15 g hm ⟨r1, r40⟩ ⟨la1, la2⟩ h3_15 h4_15 h13_15 h14_15 h15_15 h17_15) ?_
  obtain ⟨ls, n6, hls, hsh, e21⟩ := k21 (R := R) (ρ := ρ15) (n := n5) (ts := ts) (row := row) L15 b15 h6_15
  refine win_setK (e21) L15 b15 (by decide) fun ρ16 L16 h18_16 c16 b16 => ?_
  have h3_16 := c16 3 _ (by decide) h3_15
  have h4_16 := c16 4 _ (by decide) h4_15
  have h6_16 := c16 6 _ (by decide) h6_15
  have h7_16 := c16 7 _ (by decide) h7_15
  have h5_16 := c16 5 _ (by decide) h5_15
  have h8_16 := c16 8 _ (by decide) h8_15
  have h9_16 := c16 9 _ (by decide) h9_15
  have h10_16 := c16 10 _ (by decide) h10_15
  have h11_16 := c16 11 _ (by decide) h11_15
  have h12_16 := c16 12 _ (by decide) h12_15
  have h13_16 := c16 13 _ (by decide) h13_15
  have h14_16 := c16 14 _ (by decide) h14_15
  have h15_16 := c16 15 _ (by decide) h15_15
  have h17_16 := c16 17 _ (by decide) h17_15
  refine win_setK (k22 L16 g h3_16) L16 b16 (by decide) fun ρ17 L17 h19_17 c17 b17 => ?_
  have h3_17 := c17 3 _ (by decide) h3_16
  have h4_17 := c17 4 _ (by decide) h4_16
  have h6_17 := c17 6 _ (by decide) h6_16
  have h7_17 := c17 7 _ (by decide) h7_16
  have h5_17 := c17 5 _ (by decide) h5_16
  have h8_17 := c17 8 _ (by decide) h8_16
  have h9_17 := c17 9 _ (by decide) h9_16
  have h10_17 := c17 10 _ (by decide) h10_16
  have h11_17 := c17 11 _ (by decide) h11_16
  have h12_17 := c17 12 _ (by decide) h12_16
  have h13_17 := c17 13 _ (by decide) h13_16
  have h14_17 := c17 14 _ (by decide) h14_16
  have h15_17 := c17 15 _ (by decide) h15_16
  have h17_17 := c17 17 _ (by decide) h17_16
  have h18_17 := c17 18 _ (by decide) h18_16
  refine win_chk (k23 L17 g ⟨r1, r40⟩ h3_17 h4_17 h6_17 h19_17) ?_
  refine win_chk (k24 L17 g hl3 hls hsh h3_17 h18_17 h19_17) ?_
  obtain ⟨tm, n7, ht0, htp, e25⟩ := k25 (R := R) (ρ := ρ17) (n := n6) L17 b17
  refine win_setK (e25) L17 b17 (by decide) fun ρ18 L18 h20_18 c18 b18 => ?_
  have h3_18 := c18 3 _ (by decide) h3_17
  have h4_18 := c18 4 _ (by decide) h4_17
  have h6_18 := c18 6 _ (by decide) h6_17
  have h7_18 := c18 7 _ (by decide) h7_17
  have h5_18 := c18 5 _ (by decide) h5_17
  have h8_18 := c18 8 _ (by decide) h8_17
  have h9_18 := c18 9 _ (by decide) h9_17
  have h10_18 := c18 10 _ (by decide) h10_17
  have h11_18 := c18 11 _ (by decide) h11_17
  have h12_18 := c18 12 _ (by decide) h12_17
  have h13_18 := c18 13 _ (by decide) h13_17
  have h14_18 := c18 14 _ (by decide) h14_17
  have h15_18 := c18 15 _ (by decide) h15_17
  have h17_18 := c18 17 _ (by decide) h17_17
  have h18_18 := c18 18 _ (by decide) h18_17
  have h19_18 := c18 19 _ (by decide) h19_17
  refine win_setK (k26 L18 ht0 ⟨r1, r40⟩ ⟨la1, la2⟩ h4_18 h14_18 h20_18) L18 b18 (by decide) fun ρ19 L19 h21_19 c19 b19 => ?_
  have h3_19 := c19 3 _ (by decide) h3_18
  have h4_19 := c19 4 _ (by decide) h4_18
  have h6_19 := c19 6 _ (by decide) h6_18
  have h7_19 := c19 7 _ (by decide) h7_18
  have h5_19 := c19 5 _ (by decide) h5_18
  have h8_19 := c19 8 _ (by decide) h8_18
  have h9_19 := c19 9 _ (by decide) h9_18
  have h10_19 := c19 10 _ (by decide) h10_18
  have h11_19 := c19 11 _ (by decide) h11_18
  have h12_19 := c19 12 _ (by decide) h12_18
  have h13_19 := c19 13 _ (by decide) h13_18
  have h14_19 := c19 14 _ (by decide) h14_18
  have h15_19 := c19 15 _ (by decide) h15_18
  have h17_19 := c19 17 _ (by decide) h17_18
  have h18_19 := c19 18 _ (by decide) h18_18
  have h19_19 := c19 19 _ (by decide) h19_18
  have h20_19 := c19 20 _ (by decide) h20_18
  obtain ⟨len, n8, ln1, ln2, e27⟩ := k27 (R := R) (ρ := ρ19) (n := n7) b19
  refine win_setK (e27) L19 b19 (by decide) fun ρ20 L20 h22_20 c20 b20 => ?_
  have h3_20 := c20 3 _ (by decide) h3_19
  have h4_20 := c20 4 _ (by decide) h4_19
  have h6_20 := c20 6 _ (by decide) h6_19
  have h7_20 := c20 7 _ (by decide) h7_19
  have h5_20 := c20 5 _ (by decide) h5_19
  have h8_20 := c20 8 _ (by decide) h8_19
  have h9_20 := c20 9 _ (by decide) h9_19
  have h10_20 := c20 10 _ (by decide) h10_19
  have h11_20 := c20 11 _ (by decide) h11_19
  have h12_20 := c20 12 _ (by decide) h12_19
  have h13_20 := c20 13 _ (by decide) h13_19
  have h14_20 := c20 14 _ (by decide) h14_19
  have h15_20 := c20 15 _ (by decide) h15_19
  have h17_20 := c20 17 _ (by decide) h17_19
  have h18_20 := c20 18 _ (by decide) h18_19
  have h19_20 := c20 19 _ (by decide) h19_19
  have h20_20 := c20 20 _ (by decide) h20_19
  have h21_20 := c20 21 _ (by decide) h21_19
  refine win_setK (k28 L20 ht0 h4_20 h20_20 h22_20) L20 b20 (by decide) fun ρ21 L21 h23_21 c21 b21 => ?_
  have h3_21 := c21 3 _ (by decide) h3_20
  have h4_21 := c21 4 _ (by decide) h4_20
  have h6_21 := c21 6 _ (by decide) h6_20
  have h7_21 := c21 7 _ (by decide) h7_20
  have h5_21 := c21 5 _ (by decide) h5_20
  have h8_21 := c21 8 _ (by decide) h8_20
  have h9_21 := c21 9 _ (by decide) h9_20
  have h10_21 := c21 10 _ (by decide) h10_20
  have h11_21 := c21 11 _ (by decide) h11_20
  have h12_21 := c21 12 _ (by decide) h12_20
  have h13_21 := c21 13 _ (by decide) h13_20
  have h14_21 := c21 14 _ (by decide) h14_20
  have h15_21 := c21 15 _ (by decide) h15_20
  have h17_21 := c21 17 _ (by decide) h17_20
  have h18_21 := c21 18 _ (by decide) h18_20
  have h19_21 := c21 19 _ (by decide) h19_20
  have h20_21 := c21 20 _ (by decide) h20_20
  have h21_21 := c21 21 _ (by decide) h21_20
  have h22_21 := c21 22 _ (by decide) h22_20
  refine win_chk (k29 ht0 htp ⟨r1, r40⟩ ⟨la1, la2⟩ ⟨ln1, ln2⟩ h4_21 h14_21 h20_21 h21_21 h22_21 h23_21) ?_
  obtain ⟨l, n9, e30⟩ := k30 (R := R) (ρ := ρ21) (n := n8) L21 b21
  refine win_setK (e30) L21 b21 (by decide) fun ρ22 L22 h24_22 c22 b22 => ?_
  have h3_22 := c22 3 _ (by decide) h3_21
  have h4_22 := c22 4 _ (by decide) h4_21
  have h6_22 := c22 6 _ (by decide) h6_21
  have h7_22 := c22 7 _ (by decide) h7_21
  have h5_22 := c22 5 _ (by decide) h5_21
  have h8_22 := c22 8 _ (by decide) h8_21
  have h9_22 := c22 9 _ (by decide) h9_21
  have h10_22 := c22 10 _ (by decide) h10_21
  have h11_22 := c22 11 _ (by decide) h11_21
  have h12_22 := c22 12 _ (by decide) h12_21
  have h13_22 := c22 13 _ (by decide) h13_21
  have h14_22 := c22 14 _ (by decide) h14_21
  have h15_22 := c22 15 _ (by decide) h15_21
  have h17_22 := c22 17 _ (by decide) h17_21
  have h18_22 := c22 18 _ (by decide) h18_21
  have h19_22 := c22 19 _ (by decide) h19_21
  have h20_22 := c22 20 _ (by decide) h20_21
  have h21_22 := c22 21 _ (by decide) h21_21
  have h22_22 := c22 22 _ (by decide) h22_21
  have h23_22 := c22 23 _ (by decide) h23_21
  refine win_setK (k31) L22 b22 (by decide) fun ρ23 L23 h25_23 c23 b23 => ?_
  have h3_23 := c23 3 _ (by decide) h3_22
  have h4_23 := c23 4 _ (by decide) h4_22
  have h6_23 := c23 6 _ (by decide) h6_22
  have h7_23 := c23 7 _ (by decide) h7_22
  have h5_23 := c23 5 _ (by decide) h5_22
  have h8_23 := c23 8 _ (by decide) h8_22
  have h9_23 := c23 9 _ (by decide) h9_22
  have h10_23 := c23 10 _ (by decide) h10_22
  have h11_23 := c23 11 _ (by decide) h11_22
  have h12_23 := c23 12 _ (by decide) h12_22
  have h13_23 := c23 13 _ (by decide) h13_22
  have h14_23 := c23 14 _ (by decide) h14_22
  have h15_23 := c23 15 _ (by decide) h15_22
  have h17_23 := c23 17 _ (by decide) h17_22
  have h18_23 := c23 18 _ (by decide) h18_22
  have h19_23 := c23 19 _ (by decide) h19_22
  have h20_23 := c23 20 _ (by decide) h20_22
  have h21_23 := c23 21 _ (by decide) h21_22
  have h22_23 := c23 22 _ (by decide) h22_22
  have h23_23 := c23 23 _ (by decide) h23_22
  have h24_23 := c23 24 _ (by decide) h24_22
  obtain ⟨ρS, eS, LS, hS, oS⟩ := k32 (ρ := ρ23) (n := n9) L23 h24_23 h25_23
  refine win_for eS ?_
  have h24_24 : Rd ρS 24 _ := (oS 24 (by decide) (by decide)).trans h24_23
  have b24 : Bx ρS := (oS 1 (by decide) (by decide)).trans b23
  have h25_24 := hS
  have L24 := LS
  refine win_chk (k33 h24_24 h25_24) ?_
  obtain ⟨m, n10, hm24, e34⟩ := k34 (R := R) (ρ := ρS) (n := n9) b24
  refine win_setK (e34) L24 b24 (by decide) fun ρ25 L25 h27_25 c25 b25 => ?_
  have h24_25 := c25 24 _ (by decide) h24_24
  have h25_25 := c25 25 _ (by decide) h25_24
  refine win_setK (k35 hm24 h27_25) L25 b25 (by decide) fun ρ26 L26 h28_26 c26 b26 => ?_
  have h24_26 := c26 24 _ (by decide) h24_25
  have h25_26 := c26 25 _ (by decide) h25_25
  have h27_26 := c26 27 _ (by decide) h27_25
  refine win_chk (k36 hm24 h27_26 h28_26) ?_
  refine win_chk (k37 L26) ?_
  refine win_setK (k38) L26 b26 (by decide) fun ρ27 L27 h29_27 c27 b27 => ?_
  have h24_27 := c27 24 _ (by decide) h24_26
  have h25_27 := c27 25 _ (by decide) h25_26
  have h27_27 := c27 27 _ (by decide) h27_26
  have h28_27 := c27 28 _ (by decide) h28_26
  exact ⟨_, by rw [e_retS, k39 L27 h29_27]; rfl⟩
end K18
open PySem PySem.W PySem.Calls PyProof.Rows
theorem PySem.Challenge.cw_knittold_k18_counters_of_rows_holds : PySem.Challenge.rw_knittold_k18_counters_of_rows.Holds := by
  w_on; o_law
  refine HandSHeadRun.head_any (r := OpenLaw.row PySem.Challenge.rw_knittold_k18_counters_of_rows) (q := view (OpenLaw.row PySem.Challenge.rw_knittold_k18_counters_of_rows).prog [27]) (H := K18.hk_) (ob := K18.ob_) (M := 6000) (loose := K18.loose_) (d := HandSHeadRun.topDef (OpenLaw.row PySem.Challenge.rw_knittold_k18_counters_of_rows).prog 27) (kwd := []) K18.ob_eq_
    (by kernel_rfl) (fun s => by kernel_rfl) K18.run_ (by kernel_rfl) (by kernel_rfl) (by kernel_rfl) (by rfl) (by first | assumption | decide +kernel) (by decide +kernel) ⟨rfl, rfl, rfl, rfl, rfl, by decide +kernel⟩ ?hw ?hc
  case hw => w_witness2
  case hc =>
    refine DL.walk_ofTE (l := PySem.Challenge.rw_knittold_k18_counters_of_rows) (n := 63) (k := 4) (x := "script") rfl (by decide) (by kernel_rfl) ⟨rfl, by decide, by decide⟩ ?F
    intro w mg fa h Y G hmg0
    have hmg : mg ("law" : PySem.Str) = some (.ref fa) := by
      have e : (HandSHeadRun.topDef (OpenLaw.row PySem.Challenge.rw_knittold_k18_counters_of_rows).prog 27).name = ("law" : PySem.Str) := by kernel_rfl
      rw [← e]
      exact hmg0
    exact K18.at_law K18.draws_ok K18.pure_ok Y G hmg
