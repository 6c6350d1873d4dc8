import PyProof.Rows.All
import PySem.Challenge.RW_placetotals_k12_whole_unread_totals
import Wide.All
import OpenK.AllK
import Wide.FinOn
import HandS.ForMost
import HandS.Walk
import HandS.TupAny
import HandS.Deep
import HandS.IsInst
import HandS.Wide
import HandS.SortInts
import HandS.SortRule
import KE.DataEq
import KE.DataMinMax
import KE.DataFind
import KE.DataIsa
import KE.SortData
import HandS.TupMul
import HandS.TupLe
import KE.GoesNew
import KE.GoesMore
import HandS.SetFor
import HandS.Conv
import HandS.Style
import HandS.Iter
import KE.SortLaws
set_option Elab.async false
set_option linter.all false
set_option maxRecDepth 100000
set_option maxHeartbeats 1000000
/-! The data layer, part a: slots, environments, what they say of the abstract heap. -/
namespace DL
open PySem PySem.Spec PyProof.Rows L2

abbrev D := PyData

open Classical in
/-- the heap without the addresses of O -/
noncomputable def hide (O : Addr → Prop) (H : Hp) : Hp := fun p => if O p then none else H p
theorem hide_some {O : Addr → Prop} {H : Hp} {p : Addr} {o : HO} : hide O H p = some o ↔ (¬ O p ∧ H p = some o) := by
  by_cases h : O p
  · rw [show hide O H p = none from if_pos h]
    exact ⟨fun e => (nomatch e), fun e => absurd h e.1⟩
  · rw [show hide O H p = H p from if_neg h]
    exact ⟨fun e => ⟨h, e⟩, fun e => e.2⟩
theorem hide_sub {O : Addr → Prop} {H : Hp} : Same (hide O H) H := fun p o e => (hide_some.mp e).2
theorem same_hide {O O' : Addr → Prop} {H H' : Hp} (h : ∀ p o, ¬ O p → H p = some o → ¬ O' p ∧ H' p = some o) : Same (hide O H) (hide O' H') := fun p o e =>
  hide_some.mpr (h p o (hide_some.mp e).1 (hide_some.mp e).2)
theorem sqt_same {K : PySem.W.Frag} {H H' : Hp} {a : Addr} {xs : List V} (e : Same H H') (h : SqT K H a xs) : SqT K H' a xs := by
  rcases h with (h | ⟨o, h⟩) | h
  · exact .inl (.inl (e _ _ h))
  · exact .inl (.inr ⟨o, e _ _ h⟩)
  · exact .inr h

mutual
/-- a value is a datum: lists stand tracked, tuples as they may be read -/
inductive Dv (K : PySem.W.Frag) (H : Hp) : V → D → Prop
  | non : Dv K H .non .none
  | bl (b : Bool) : Dv K H (.bl b) (.bool b)
  | int (i : Int) : Dv K H (.int i) (.int i)
  | str (x : Str) : Dv K H (.str x) (.str x)
  | lst {a : Addr} {xs : List V} {ds : List D} : H a = some (.lst xs) → DvAll K H xs ds → Dv K H (.ref a) (.list ds)
  | tup {a : Addr} {xs : List V} {ds : List D} : SqT K H a xs → DvAll K H xs ds → Dv K H (.ref a) (.tuple ds)
inductive DvAll (K : PySem.W.Frag) (H : Hp) : List V → List D → Prop
  | nil : DvAll K H [] []
  | cons {v : V} {vs : List V} {d : D} {ds : List D} : Dv K H v d → DvAll K H vs ds → DvAll K H (v :: vs) (d :: ds)
end
mutual
theorem Dv.dp {K : PySem.W.Frag} {H : Hp} : ∀ {v : V} {d : D}, Dv K H v d → Dp K H v d
  | _, _, .non => .non
  | _, _, .bl b => .bl b
  | _, _, .int i => .int i
  | _, _, .str x => .str x
  | _, _, .lst h ha => .lst (.inl (.inl h)) (DvAll.dp ha)
  | _, _, .tup h ha => .tup h (DvAll.dp ha)
theorem DvAll.dp {K : PySem.W.Frag} {H : Hp} : ∀ {vs : List V} {ds : List D}, DvAll K H vs ds → DpAll K H vs ds
  | _, _, .nil => .nil
  | _, _, .cons h t => .cons (Dv.dp h) (DvAll.dp t)
end
mutual
theorem dp_same {K : PySem.W.Frag} {H H' : Hp} (e : Same H H') : ∀ {v : V} {d : D}, Dv K H v d → Dv K H' v d
  | _, _, .non => .non
  | _, _, .bl b => .bl b
  | _, _, .int i => .int i
  | _, _, .str x => .str x
  | _, _, .lst h ha => .lst (e _ _ h) (dpa_same e ha)
  | _, _, .tup h ha => .tup (sqt_same e h) (dpa_same e ha)
theorem dpa_same {K : PySem.W.Frag} {H H' : Hp} (e : Same H H') : ∀ {vs : List V} {ds : List D}, DvAll K H vs ds → DvAll K H' vs ds
  | _, _, .nil => .nil
  | _, _, .cons h t => .cons (dp_same e h) (dpa_same e t)
end
theorem dpa_len {K : PySem.W.Frag} {H : Hp} : ∀ {vs : List V} {ds : List D}, DvAll K H vs ds → vs.length = ds.length
  | _, _, .nil => rfl
  | _, _, .cons _ t => by rw [List.length_cons, List.length_cons, dpa_len t]
theorem dpa_get {K : PySem.W.Frag} {H : Hp} : ∀ {vs : List V} {ds : List D} {i : Nat} {d : D}, DvAll K H vs ds → ds[i]? = some d → ∃ v, vs[i]? = some v ∧ Dv K H v d
  | _, _, _, _, .nil, e => by simp at e
  | _, _, 0, _, .cons h _, e => by simp at e; subst e; exact ⟨_, rfl, h⟩
  | _, _, i + 1, _, .cons _ t, e => by
    obtain ⟨v, h1, h2⟩ := dpa_get (i := i) t (by simpa using e)
    exact ⟨v, by simpa using h1, h2⟩
theorem dpa_get' {K : PySem.W.Frag} {H : Hp} : ∀ {vs : List V} {ds : List D} {i : Nat} {v : V}, DvAll K H vs ds → vs[i]? = some v → ∃ d, ds[i]? = some d ∧ Dv K H v d
  | _, _, _, _, .nil, e => by simp at e
  | _, _, 0, _, .cons h _, e => by simp at e; subst e; exact ⟨_, rfl, h⟩
  | _, _, i + 1, _, .cons _ t, e => by
    obtain ⟨v, h1, h2⟩ := dpa_get' (i := i) t (by simpa using e)
    exact ⟨v, by simpa using h1, h2⟩
theorem dpa_app {K : PySem.W.Frag} {H : Hp} : ∀ {vs ws : List V} {ds es : List D}, DvAll K H vs ds → DvAll K H ws es → DvAll K H (vs ++ ws) (ds ++ es)
  | _, _, _, _, .nil, s => s
  | _, _, _, _, .cons h t, s => .cons h (dpa_app t s)
theorem dpa_take {K : PySem.W.Frag} {H : Hp} : ∀ {vs : List V} {ds : List D} (n : Nat), DvAll K H vs ds → DvAll K H (vs.take n) (ds.take n)
  | _, _, 0, _ => .nil
  | _, _, _ + 1, .nil => .nil
  | _, _, n + 1, .cons h t => .cons h (dpa_take n t)
theorem dpa_drop {K : PySem.W.Frag} {H : Hp} : ∀ {vs : List V} {ds : List D} (n : Nat), DvAll K H vs ds → DvAll K H (vs.drop n) (ds.drop n)
  | _, _, 0, h => h
  | _, _, _ + 1, .nil => .nil
  | _, _, n + 1, .cons _ t => dpa_drop n t
theorem dpa_set {K : PySem.W.Frag} {H : Hp} {v : V} {d : D} (h : Dv K H v d) : ∀ {vs : List V} {ds : List D} (n : Nat), DvAll K H vs ds → DvAll K H (vs.set n v) (ds.set n d)
  | _, _, _, .nil => .nil
  | _, _, 0, .cons _ t => .cons h t
  | _, _, n + 1, .cons q t => .cons q (dpa_set h n t)
theorem dpa_ints {K : PySem.W.Frag} {H : Hp} : ∀ {vs : List V} {ns : List Int}, DvAll K H vs (ns.map .int) → vs = ns.map V.int
  | [], [], _ => rfl
  | _, n :: ns, h => by
    cases h with
    | cons h t =>
      cases h
      rw [dpa_ints t]
      rfl
theorem ints_dpa {K : PySem.W.Frag} {H : Hp} : ∀ (ns : List Int), DvAll K H (ns.map V.int) (ns.map .int)
  | [] => .nil
  | n :: ns => .cons (.int n) (ints_dpa ns)
theorem dpa_bools {K : PySem.W.Frag} {H : Hp} : ∀ {vs : List V} {ns : List Bool}, DvAll K H vs (ns.map .bool) → vs = ns.map V.bl
  | [], [], _ => rfl
  | _, n :: ns, h => by
    cases h with
    | cons h t =>
      cases h
      rw [dpa_bools t]
      rfl

/-! ### slots -/
structure Exc where
  cls : Str
  lim : Option Int
inductive Slot where
  | un
  | dat (d : D)
  | own (ds : List D)
  | bag
  | raw (v : V)
def Slot.isOwn : Slot → Bool
  | .own _ => true
  | _ => false
structure DEnv where
  sl : List Slot
  m : Nat
  F : Exc → Prop

def BagAt (H : Hp) (p : Addr) (m : Nat) : Prop := ∃ a b c : Int, H p = some (.lst [.int a, .int b, .int c]) ∧ (0 ≤ b ∧ b < 2305843009213693951) ∧ 0 ≤ c ∧ c ≤ m
theorem BagAt.le {H : Hp} {p : Addr} {m m' : Nat} (h : BagAt H p m) (l : m ≤ m') : BagAt H p m' := by
  obtain ⟨a, b, c, e, h1, h2, h3⟩ := h
  exact ⟨a, b, c, e, h1, h2, by omega⟩
theorem BagAt.same {H H' : Hp} {p : Addr} {m : Nat} (h : BagAt H p m) (k : ∀ o, H p = some o → H' p = some o) : BagAt H' p m := by
  obtain ⟨a, b, c, e, h⟩ := h
  exact ⟨a, b, c, k _ e, h⟩
def OwnAt (σ : L2.St) (sl : List Slot) (p : Addr) : Prop := ∃ (i : Nat) (s : Slot), σ[i]? = some (some (.ref p)) ∧ sl[i]? = some s ∧ s.isOwn = true
def BagOf (σ : L2.St) (sl : List Slot) (p : Addr) : Prop := ∃ i : Nat, σ[i]? = some (some (.ref p)) ∧ sl[i]? = some .bag
def Ow (O : Addr → Prop) (σ : L2.St) (sl : List Slot) (p : Addr) : Prop := O p ∨ OwnAt σ sl p
def SlotOk (K : PySem.W.Frag) (O : Addr → Prop) (Hh H : Hp) (m : Nat) (v : Option V) : Slot → Prop
  | .un => True
  | .dat d => ∃ x, v = some x ∧ Dv K Hh x d
  | .own ds => ∃ p xs, v = some (.ref p) ∧ ¬ O p ∧ H p = some (.lst xs) ∧ DvAll K Hh xs ds
  | .bag => ∃ p, v = some (.ref p) ∧ O p ∧ BagAt H p m
  | .raw w => v = some w
structure Rel (K : PySem.W.Frag) (O : Addr → Prop) (H : Hp) (σ : L2.St) (ρ : DEnv) : Prop where
  len : ρ.sl.length = σ.length
  trk : ∀ p, O p → ∃ o, H p = some o
  ok : ∀ (i : Nat) (s : Slot), ρ.sl[i]? = some s → SlotOk K O (hide (Ow O σ ρ.sl) H) H ρ.m (σ[i]?.join) s
  sep : ∀ (i j : Nat) (p : Addr) (s t : Slot), i ≠ j → σ[i]? = some (some (.ref p)) → ρ.sl[i]? = some s → s.isOwn = true → σ[j]? = some (some (.ref p)) → ρ.sl[j]? = some t → t.isOwn = true → False
/-- an expression's step: B the bags that may turn -/
structure Step (B : Addr → Prop) (H H' : Hp) (m m' : Nat) : Prop where
  keep : ∀ p o, H p = some o → ¬ B p → H' p = some o
  bag : ∀ p, B p → BagAt H p m → BagAt H' p m'
  le : m ≤ m'
theorem Step.refl (B : Addr → Prop) (H : Hp) (m : Nat) : Step B H H m m := ⟨fun _ _ e _ => e, fun _ _ h => h, Nat.le_refl _⟩
theorem Step.trans {B : Addr → Prop} {H H1 H2 : Hp} {m m1 m2 : Nat} (a : Step B H H1 m m1) (b : Step B H1 H2 m1 m2) : Step B H H2 m m2 :=
  ⟨fun p o e n => b.keep p o (a.keep p o e n) n, fun p h q => b.bag p h (a.bag p h q), Nat.le_trans a.le b.le⟩
theorem Step.same {B : Addr → Prop} {H H' : Hp} {m : Nat} (s : Same H H') : Step B H H' m m :=
  ⟨fun p o e _ => s p o e, fun p _ q => q.same fun o e => s p o e, Nat.le_refl _⟩

section
variable {K : PySem.W.Frag} {O : Addr → Prop} {H H' : Hp} {σ : L2.St} {ρ : DEnv} {m' : Nat}
theorem join_get {i : Nat} {x : V} : (σ[i]?.join = some x) ↔ σ[i]? = some (some x) := by
  cases h : σ[i]? with
  | none => simp
  | some o => simp
theorem Rel.bagO (r : Rel K O H σ ρ) {p : Addr} (b : BagOf σ ρ.sl p) : O p ∧ BagAt H p ρ.m := by
  obtain ⟨i, e, f⟩ := b
  obtain ⟨q, h1, h2, h3⟩ := r.ok i _ f
  rw [join_get, e] at h1
  cases h1
  exact ⟨h2, h3⟩
theorem Rel.ownO (r : Rel K O H σ ρ) {p : Addr} (b : OwnAt σ ρ.sl p) : ¬ O p ∧ ∃ xs, H p = some (.lst xs) := by
  obtain ⟨i, s, e, f, g⟩ := b
  have h := r.ok i _ f
  cases s <;> first | cases g | skip
  obtain ⟨q, xs, h1, h2, h3, _⟩ := h
  rw [join_get, e] at h1
  cases h1
  exact ⟨h2, xs, h3⟩
theorem Rel.owTrk (r : Rel K O H σ ρ) {p : Addr} (b : Ow O σ ρ.sl p) : ∃ o, H p = some o := by
  rcases b with b | b
  · exact r.trk p b
  · obtain ⟨_, xs, e⟩ := r.ownO b
    exact ⟨_, e⟩
theorem Rel.newNot (r : Rel K O H σ ρ) {p : Addr} (n : H p = none) : ¬ Ow O σ ρ.sl p := fun b => by
  obtain ⟨o, e⟩ := r.owTrk b
  rw [n] at e
  cases e
theorem Rel.sameHide (r : Rel K O H σ ρ) (s : Step (BagOf σ ρ.sl) H H' ρ.m m') : Same (hide (Ow O σ ρ.sl) H) (hide (Ow O σ ρ.sl) H') := same_hide fun p o n e =>
  ⟨n, s.keep p o e fun b => n (.inl (r.bagO b).1)⟩
theorem Rel.step (r : Rel K O H σ ρ) (s : Step (BagOf σ ρ.sl) H H' ρ.m m') : Rel K O H' σ { ρ with m := m' } where
  len := r.len
  trk := fun p h => by
    obtain ⟨o, e⟩ := r.trk p h
    by_cases b : BagOf σ ρ.sl p
    · obtain ⟨_, _, _, e', _⟩ := s.bag p b (r.bagO b).2
      exact ⟨_, e'⟩
    · exact ⟨o, s.keep p o e b⟩
  ok := fun i sl f => by
    have h := r.ok i sl f
    have sh := r.sameHide s
    cases sl with
    | un => trivial
    | dat d =>
      obtain ⟨x, e, q⟩ := h
      exact ⟨x, e, dp_same sh q⟩
    | own ds =>
      obtain ⟨p, xs, e, n, e2, q⟩ := h
      exact ⟨p, xs, e, n, s.keep p _ e2 (fun b => n (r.bagO b).1), dpa_same sh q⟩
    | bag =>
      obtain ⟨p, e, n, q⟩ := h
      exact ⟨p, e, n, s.bag p ⟨i, join_get.mp e, f⟩ q⟩
    | raw w => exact h
  sep := r.sep
theorem Rel.newOf (r : Rel K O H σ ρ) (s : Step (BagOf σ ρ.sl) H H' ρ.m m') {p : Addr} (n : H' p = none) : H p = none := by
  cases e : H p with
  | none => rfl
  | some o =>
    by_cases b : BagOf σ ρ.sl p
    · obtain ⟨_, _, _, e', _⟩ := s.bag p b (r.bagO b).2
      rw [n] at e'
      cases e'
    · rw [s.keep p o e b] at n
      cases n
/-- a new list is owned by nobody: it may be given as data -/
theorem dp_new {O : Addr → Prop} {p : Addr} {xs : List V} {ds : List D} (n : ¬ O p) (e : H p = some (.lst xs)) (h : DvAll K (hide (fun q => O q ∨ q = p) H) xs ds) : Dv K (hide O H) (.ref p) (.list ds) :=
  .lst (hide_some.mpr ⟨n, e⟩) (dpa_same (same_hide fun q o h e => ⟨fun z => h (.inl z), e⟩) h)
end
end DL
set_option maxHeartbeats 1000000
/-! The data layer, part b: meanings of expressions and tests; the rules. -/
namespace DL
open PySem PySem.Spec PyProof.Rows L2

/-- what an expression means: from an environment, what is wanted of its datum and of the bags' bound -/
abbrev SE := DEnv → (D → Nat → Prop) → Prop
abbrev ST := DEnv → (Bool → Nat → Prop) → Prop
abbrev SA := DEnv → (List Slot → Nat → Prop) → Prop
abbrev XRT := Exc → Value → Option Addr → Hp → Prop
def MutAt (σ : L2.St) (sl : List Slot) (p : Addr) : Prop := OwnAt σ sl p ∨ BagOf σ sl p
def XOk (XR : XRT) (E : XK) (σ : L2.St) (ρ : DEnv) (H : Hp) : Prop := ∀ x c a H', ρ.F x → XR x c a H' → (∀ p o, H p = some o → ¬ MutAt σ ρ.sl p → H' p = some o) → E c a H'
theorem XOk.step {XR : XRT} {E : XK} {σ : L2.St} {ρ : DEnv} {H H' : Hp} {m' : Nat} (h : XOk XR E σ ρ H) (s : Step (BagOf σ ρ.sl) H H' ρ.m m') : XOk XR E σ { ρ with m := m' } H' := fun x c a H2 f r k =>
  h x c a H2 f r fun p o e n => k p o (s.keep p o e fun b => n (.inr b)) n
def liftE (K : PySem.W.Frag) (XR : XRT) (E : XK) (s : SE) : TE := fun σ H Q => ∃ (O : Addr → Prop) (ρ : DEnv) (R : D → Nat → Prop), Rel K O H σ ρ ∧ s ρ R ∧
  (∀ v H' d m', Step (BagOf σ ρ.sl) H H' ρ.m m' → Dv K (hide (Ow O σ ρ.sl) H') v d → R d m' → Q v H') ∧ XOk XR E σ ρ H
def liftT (K : PySem.W.Frag) (XR : XRT) (E : XK) (s : ST) : TT := fun σ H Q => ∃ (O : Addr → Prop) (ρ : DEnv) (R : Bool → Nat → Prop), Rel K O H σ ρ ∧ s ρ R ∧
  (∀ b H' m', Step (BagOf σ ρ.sl) H H' ρ.m m' → R b m' → Q b H') ∧ XOk XR E σ ρ H
/-- arguments as slots of the callee -/
def ArgOk (K : PySem.W.Frag) (Hh : Hp) (B : Addr → Prop) (v : V) : Slot → Prop
  | .un => True
  | .dat d => Dv K Hh v d
  | .own _ => False
  | .bag => ∃ p, v = .ref p ∧ B p
  | .raw w => v = w
def liftA (K : PySem.W.Frag) (XR : XRT) (E : XK) (s : SA) : TA := fun σ H Q => ∃ (O : Addr → Prop) (ρ : DEnv) (R : List Slot → Nat → Prop), Rel K O H σ ρ ∧ s ρ R ∧
  (∀ vs H' ss m', Step (BagOf σ ρ.sl) H H' ρ.m m' → Paired (ArgOk K (hide (Ow O σ ρ.sl) H') (BagOf σ ρ.sl)) vs ss → R ss m' → Q vs H') ∧ XOk XR E σ ρ H

structure DE (X : Cx) (XR : XRT) (E : XK) (e : Expr) (s : SE) : Prop where
  run : PE X e (liftE X.K XR E s)
structure DT (X : Cx) (XR : XRT) (E : XK) (e : Expr) (s : ST) : Prop where
  run : PT X e (liftT X.K XR E s)
structure DW (X : Cx) (XR : XRT) (E : XK) (e : Expr) (s : ST) : Prop where
  run : PW X e (liftT X.K XR E s)
structure DA (X : Cx) (XR : XRT) (E : XK) (e : List Expr) (s : SA) : Prop where
  run : PA X e (liftA X.K XR E s)
theorem pe_imp {X : Cx} {e : Expr} {t t' : TE} (h : PE X e t) (i : ∀ σ H Q, t' σ H Q → t σ H Q) : PE X e t' := ⟨fun pins s σ H Q I q => h.run pins s σ H Q I (i σ H Q q)⟩
theorem pt_imp {X : Cx} {e : Expr} {t t' : TT} (h : PT X e t) (i : ∀ σ H Q, t' σ H Q → t σ H Q) : PT X e t' := ⟨fun pins s σ H Q I q => h.run pins s σ H Q I (i σ H Q q)⟩
theorem pw_imp {X : Cx} {e : Expr} {t t' : TT} (h : PW X e t) (i : ∀ σ H Q, t' σ H Q → t σ H Q) : PW X e t' := ⟨fun wh pins s σ H Q I q => h.run wh pins s σ H Q I (i σ H Q q)⟩
theorem pa_imp {X : Cx} {e : List Expr} {t t' : TA} (h : PA X e t) (i : ∀ σ H Q, t' σ H Q → t σ H Q) : PA X e t' := ⟨fun pos pins s σ H Q I q => h.run pos pins s σ H Q I (i σ H Q q)⟩

section
variable {X : Cx} {XR : XRT} {E : XK} {a b c e : Expr} {es : List Expr} {sa sb sc s : SE} {st st' : ST} {sas : SA} {pos : Pos}

/-! ### names, constants -/
def sVar (i : Nat) : SE := fun ρ R => match ρ.sl[i]? with
  | some (.dat d) => R d ρ.m
  | _ => False
theorem de_var {i : Nat} (h : PE X e (tVar i)) : DE X XR E e (sVar i) := ⟨pe_imp h fun σ H Q h => by
  obtain ⟨O, ρ, R, rel, hs, q, hx⟩ := h
  unfold sVar at hs
  split at hs
  · rename_i d hd
    obtain ⟨x, e1, dv⟩ := rel.ok i _ hd
    exact ⟨x, join_get.mp e1, q x H d ρ.m (Step.refl _ _ _) dv hs⟩
  · exact hs.elim⟩
def sC (d : D) : SE := fun ρ R => R d ρ.m
theorem de_c {v : V} {d : D} (h : PE X e (tC v)) (hd : ∀ H, Dv X.K H v d) : DE X XR E e (sC d) := ⟨pe_imp h fun σ H Q h => by
  obtain ⟨O, ρ, R, rel, hs, q, hx⟩ := h
  exact q v H d ρ.m (Step.refl _ _ _) (hd _) hs⟩
theorem de_int {i j} : DE X XR E (.Constant (.int i) j pos) (sC (.int i)) := de_c pe_int fun _ => .int i
theorem de_bl {i j} : DE X XR E (.Constant (.bool i) j pos) (sC (.bool i)) := de_c pe_bl fun _ => .bl i
theorem de_non {j} : DE X XR E (.Constant .none j pos) (sC .none) := de_c pe_non fun _ => .non
theorem de_str {i j} : DE X XR E (.Constant (.str i) j pos) (sC (.str i)) := de_c pe_str fun _ => .str i
theorem de_globI {i : Int} {x : Str} (h : PE X (.Name x pos) (tC (.int i))) : DE X XR E (.Name x pos) (sC (.int i)) := de_c h fun _ => .int i

/-! ### operators -/
def OpD (K : PySem.W.Frag) (r : R2) (g : D → D → Option D) : Prop := ∀ (O : Addr → Prop) (H : Hp) (x y : V) (d e z : D) (Q : VK), (∀ p, O p → ∃ o, H p = some o) →
  Dv K (hide O H) x d → Dv K (hide O H) y e → g d e = some z → (∀ v H', Same H H' → Dv K (hide O H') v z → Q v H') → r x y H Q
def sBin (g : D → D → Option D) (sa sb : SE) : SE := fun ρ R => sa ρ fun x m1 => sb { ρ with m := m1 } fun y m2 => ∃ z, g x y = some z ∧ R z m2
theorem bin_lift {K : PySem.W.Frag} {r : R2} {g : D → D → Option D} (hd : OpD K r g) (σ : L2.St) (H : Hp) (Q : VK) (h : liftE K XR E (sBin g sa sb) σ H Q) : tOp r (liftE K XR E sa) (liftE K XR E sb) σ H Q := by
  obtain ⟨O, ρ, R, rel, hs, q, hx⟩ := h
  refine ⟨O, ρ, _, rel, hs, fun v H1 d m1 st dv hs1 => ⟨O, { ρ with m := m1 }, _, rel.step st, hs1, fun w H2 e m2 st2 ew hz => ?_, hx.step st⟩, hx⟩
  obtain ⟨z, hz, rz⟩ := hz
  exact hd _ H2 v w d e z Q (fun p hp => ((rel.step st).step st2).owTrk hp) (dp_same ((rel.step st).sameHide st2) dv) ew hz fun v' H' sm dv' => q v' H' z m2 ((st.trans st2).trans (Step.same sm)) dv' rz
theorem de_bin {op : Operator} {r : R2} {g : D → D → Option D} (ho : OpR X (binaryOp op) r) (hd : OpD X.K r g) (ha : DE X XR E a sa) (hb : DE X XR E b sb) : DE X XR E (.BinOp a op b pos) (sBin g sa sb) :=
  ⟨pe_imp (pe_op ho ha.run hb.run) (bin_lift hd)⟩
theorem de_cmp {op : CmpOp} {r : R2} {g : D → D → Option D} (ho : OpR X (compareOp op) r) (hd : OpD X.K r g) (ha : DE X XR E a sa) (hb : DE X XR E b sb) (hm : behindInMarks op b = false) : DE X XR E (.Compare a [op] [b] pos) (sBin g sa sb) :=
  ⟨pe_imp (pe_cmpR ho ha.run hb.run hm) (bin_lift hd)⟩
def sTest (s : SE) : ST := fun ρ R => s ρ fun d m => ∃ b, d = .bool b ∧ R b m
theorem dv_bool {K : PySem.W.Frag} {H : Hp} {v : V} {b : Bool} (h : Dv K H v (.bool b)) : v = .bl b := by
  cases h
  rfl
theorem test_lift {K : PySem.W.Frag} {te : TE} (ht : ∀ σ H Q, liftE K XR E s σ H Q → te σ H Q) (σ : L2.St) (H : Hp) (Q : Bool → Hp → Prop) (h : liftT K XR E (sTest s) σ H Q) : te σ H (fun x H1 => ∃ c, x = .bl c ∧ Q c H1) := by
  obtain ⟨O, ρ, R, rel, hs, q, hx⟩ := h
  refine ht σ H _ ⟨O, ρ, _, rel, hs, fun v H1 d m1 st dv hr => ?_, hx⟩
  obtain ⟨b, rfl, hr⟩ := hr
  exact ⟨b, dv_bool dv, q b H1 m1 st hr⟩
theorem dt_cmp {op : CmpOp} {r : R2} {g : D → D → Option D} (ho : OpR X (compareOp op) r) (hd : OpD X.K r g) (ha : DE X XR E a sa) (hb : DE X XR E b sb) (hm : behindInMarks op b = false) : DT X XR E (.Compare a [op] [b] pos) (sTest (sBin g sa sb)) :=
  ⟨pt_imp (pt_cmpR ho ha.run hb.run hm) fun σ H Q h => test_lift (bin_lift hd) σ H Q h⟩
/-- a call, a name, a subscript as a test: a bool -/
theorem dt_val (h : DE X XR E e s) (he : ∀ whole, isTrue e X.env whole = (do let v ← whole; standAt e.pos; holding [v] (truthy v)) := by intro _; rfl) : DT X XR E e (sTest s) :=
  ⟨pt_imp (pt_val h.run he) fun σ H Q h => test_lift (fun _ _ _ z => z) σ H Q h⟩
def sNotT (t : ST) : ST := fun ρ R => t ρ fun b m => R (!b) m
theorem dt_not (h : DT X XR E a st) : DT X XR E (.UnaryOp .Not a pos) (sNotT st) := ⟨pt_imp (pt_not h.run) fun σ H Q h => by
  obtain ⟨O, ρ, R, rel, hs, q, hx⟩ := h
  exact ⟨O, ρ, _, rel, hs, fun b H1 m1 st hr => q (!b) H1 m1 st hr, hx⟩⟩
def sAndT (t u : ST) : ST := fun ρ R => t ρ fun b m => if b = true then u { ρ with m := m } R else R false m
def sOrT (t u : ST) : ST := fun ρ R => t ρ fun b m => if b = true then R true m else u { ρ with m := m } R
theorem dt_bool (h : DW X XR E e st) : DT X XR E e st := ⟨h.run.pt⟩
theorem dw_and1 (h : DT X XR E a st) : DW X XR E (.BoolOp .And [a] pos) st := ⟨pw_and1 h.run⟩
theorem dw_or1 (h : DT X XR E a st) : DW X XR E (.BoolOp .Or [a] pos) st := ⟨pw_or1 h.run⟩
theorem dw_and {rest : List Expr} (h : DT X XR E a st) (h2 : DW X XR E (.BoolOp .And (b :: rest) pos) st') : DW X XR E (.BoolOp .And (a :: b :: rest) pos) (sAndT st st') := ⟨pw_imp (pw_and h.run h2.run) fun σ H Q h => by
  obtain ⟨O, ρ, R, rel, hs, q, hx⟩ := h
  refine ⟨O, ρ, _, rel, hs, fun b H1 m1 st hr => ?_, hx⟩
  cases b with
  | true => exact iteT ⟨O, { ρ with m := m1 }, R, rel.step st, hr, fun b H2 m2 st2 hr2 => q b H2 m2 (st.trans st2) hr2, hx.step st⟩
  | false => exact iteF (q false H1 m1 st hr)⟩
theorem dw_or {rest : List Expr} (h : DT X XR E a st) (h2 : DW X XR E (.BoolOp .Or (b :: rest) pos) st') : DW X XR E (.BoolOp .Or (a :: b :: rest) pos) (sOrT st st') := ⟨pw_imp (pw_or h.run h2.run) fun σ H Q h => by
  obtain ⟨O, ρ, R, rel, hs, q, hx⟩ := h
  refine ⟨O, ρ, _, rel, hs, fun b H1 m1 st hr => ?_, hx⟩
  cases b with
  | false => exact iteF ⟨O, { ρ with m := m1 }, R, rel.step st, hr, fun b H2 m2 st2 hr2 => q b H2 m2 (st.trans st2) hr2, hx.step st⟩
  | true => exact iteT (q true H1 m1 st hr)⟩
/-- and, or, not as values of bools -/
def sAndV (sa sb : SE) : SE := fun ρ R => sa ρ fun d m => ∃ b, d = .bool b ∧ if b = true then sb { ρ with m := m } R else R (.bool false) m
def sOrV (sa sb : SE) : SE := fun ρ R => sa ρ fun d m => ∃ b, d = .bool b ∧ if b = true then R (.bool true) m else sb { ρ with m := m } R
def sNotV (sa : SE) : SE := fun ρ R => sa ρ fun d m => ∃ b, d = .bool b ∧ R (.bool (!b)) m
theorem de_one {op} (h : DE X XR E a sa) : DE X XR E (.BoolOp op [a] pos) sa := ⟨pe_one h.run⟩
theorem de_and {rest : List Expr} (h : DE X XR E a sa) (h2 : DE X XR E (.BoolOp .And (b :: rest) pos) sb) : DE X XR E (.BoolOp .And (a :: b :: rest) pos) (sAndV sa sb) := ⟨pe_imp (pe_and h.run h2.run) fun σ H Q h => by
  obtain ⟨O, ρ, R, rel, hs, q, hx⟩ := h
  refine ⟨O, ρ, _, rel, hs, fun v H1 d m1 st dv hr => ?_, hx⟩
  obtain ⟨b, rfl, hr⟩ := hr
  refine ⟨b, dv_bool dv, ?_⟩
  cases b with
  | true => exact iteT ⟨O, { ρ with m := m1 }, R, rel.step st, hr, fun v H2 d m2 st2 dv2 hr2 => q v H2 d m2 (st.trans st2) dv2 hr2, hx.step st⟩
  | false => exact iteF (q _ H1 _ m1 st (.bl false) hr)⟩
theorem de_or {rest : List Expr} (h : DE X XR E a sa) (h2 : DE X XR E (.BoolOp .Or (b :: rest) pos) sb) : DE X XR E (.BoolOp .Or (a :: b :: rest) pos) (sOrV sa sb) := ⟨pe_imp (pe_or h.run h2.run) fun σ H Q h => by
  obtain ⟨O, ρ, R, rel, hs, q, hx⟩ := h
  refine ⟨O, ρ, _, rel, hs, fun v H1 d m1 st dv hr => ?_, hx⟩
  obtain ⟨b, rfl, hr⟩ := hr
  refine ⟨b, dv_bool dv, ?_⟩
  cases b with
  | false => exact iteF ⟨O, { ρ with m := m1 }, R, rel.step st, hr, fun v H2 d m2 st2 dv2 hr2 => q v H2 d m2 (st.trans st2) dv2 hr2, hx.step st⟩
  | true => exact iteT (q _ H1 _ m1 st (.bl true) hr)⟩
theorem de_not (h : DE X XR E a sa) : DE X XR E (.UnaryOp .Not a pos) (sNotV sa) := ⟨pe_imp (pe_not h.run) fun σ H Q h => by
  obtain ⟨O, ρ, R, rel, hs, q, hx⟩ := h
  refine ⟨O, ρ, _, rel, hs, fun v H1 d m1 st dv hr => ?_, hx⟩
  obtain ⟨b, rfl, hr⟩ := hr
  exact ⟨b, dv_bool dv, q _ H1 _ m1 st (.bl _) hr⟩⟩
def sIf (t : ST) (sa sb : SE) : SE := fun ρ R => t ρ fun b m => if b = true then sa { ρ with m := m } R else sb { ρ with m := m } R
theorem de_if (hc : DT X XR E c st) (ha : DE X XR E a sa) (hb : DE X XR E b sb) : DE X XR E (.IfExp c a b pos) (sIf st sa sb) := ⟨pe_imp (pe_ifExp hc.run ha.run hb.run) fun σ H Q h => by
  obtain ⟨O, ρ, R, rel, hs, q, hx⟩ := h
  refine ⟨O, ρ, _, rel, hs, fun b H1 m1 st hr => ?_, hx⟩
  cases b with
  | true => exact iteT ⟨O, { ρ with m := m1 }, R, rel.step st, hr, fun v H2 d m2 st2 dv2 hr2 => q v H2 d m2 (st.trans st2) dv2 hr2, hx.step st⟩
  | false => exact iteF ⟨O, { ρ with m := m1 }, R, rel.step st, hr, fun v H2 d m2 st2 dv2 hr2 => q v H2 d m2 (st.trans st2) dv2 hr2, hx.step st⟩⟩
/-- a op1 b op2 c -/
def sChain (g g' : D → D → Option D) (sa sb sc : SE) : SE := fun ρ R => sa ρ fun x m1 => sb { ρ with m := m1 } fun y m2 => ∃ k, g x y = some (.bool k) ∧
  if k = true then sc { ρ with m := m2 } fun z m3 => ∃ w, g' y z = some w ∧ R w m3 else R (.bool false) m2
theorem chain_lift {K : PySem.W.Frag} {r r' : R2} {g g' : D → D → Option D} (hd : OpD K r g) (hd' : OpD K r' g') (σ : L2.St) (H : Hp) (Q : VK) (h : liftE K XR E (sChain g g' sa sb sc) σ H Q) :
    liftE K XR E sa σ H fun x H1 => liftE K XR E sb σ H1 fun y H2 => r x y H2 fun z H3 => ∃ k, z = .bl k ∧ if k = true then liftE K XR E sc σ H3 fun w H4 => r' y w H4 Q else Q (.bl false) H3 := by
  obtain ⟨O, ρ, R, rel, hs, q, hx⟩ := h
  refine ⟨O, ρ, _, rel, hs, fun v H1 d m1 st dv hs1 => ⟨O, { ρ with m := m1 }, _, rel.step st, hs1, fun w H2 e m2 st2 ew hz => ?_, hx.step st⟩, hx⟩
  obtain ⟨k, hz, hr⟩ := hz
  refine hd _ H2 v w d e _ _ (fun p hp => ((rel.step st).step st2).owTrk hp) (dp_same ((rel.step st).sameHide st2) dv) ew hz fun v' H' sm dv' => ?_
  have s3 : Step (BagOf σ ρ.sl) H2 H' m2 m2 := Step.same sm
  have s02 := (st.trans st2).trans s3
  refine ⟨k, dv_bool dv', ?_⟩
  cases k with
  | false => exact iteF (q _ H' _ m2 s02 (.bl false) hr)
  | true =>
    refine iteT ⟨O, { ρ with m := m2 }, _, rel.step s02, hr, fun w2 H4 e2 m4 st4 ew2 hz2 => ?_, hx.step s02⟩
    obtain ⟨z, hz2, rz⟩ := hz2
    exact hd' _ H4 w w2 e e2 z Q (fun p hp => ((rel.step s02).step st4).owTrk hp) (dp_same (((rel.step (st.trans st2)).step s3).sameHide st4) (dp_same ((rel.step (st.trans st2)).sameHide s3) ew)) ew2 hz2 fun v' H'' sm' dv' => q v' H'' z m4 ((s02.trans st4).trans (Step.same sm')) dv' rz
theorem de_chain {op op' : CmpOp} {r r' : R2} {g g' : D → D → Option D} (ho : OpR X (compareOp op) r) (ho' : OpR X (compareOp op') r') (hd : OpD X.K r g) (hd' : OpD X.K r' g') (ha : DE X XR E a sa) (hb : DE X XR E b sb) (hc : DE X XR E c sc)
    (hm : lastMarks [op, op'] [b, c] = false := by with_unfolding_all rfl) : DE X XR E (.Compare a [op, op'] [b, c] pos) (sChain g g' sa sb sc) :=
  ⟨pe_imp (pe_chain ho ho' ha.run hb.run hc.run hm) fun σ H Q h => chain_lift hd hd' σ H Q h⟩
theorem dt_chain {op op' : CmpOp} {r r' : R2} {g g' : D → D → Option D} (ho : OpR X (compareOp op) r) (ho' : OpR X (compareOp op') r') (hd : OpD X.K r g) (hd' : OpD X.K r' g') (ha : DE X XR E a sa) (hb : DE X XR E b sb) (hc : DE X XR E c sc)
    (hm : lastMarks [op, op'] [b, c] = false := by with_unfolding_all rfl) : DT X XR E (.Compare a [op, op'] [b, c] pos) (sTest (sChain g g' sa sb sc)) :=
  ⟨pt_imp (pt_chain ho ho' ha.run hb.run hc.run hm) fun σ H Q h => test_lift (fun σ H Q h => chain_lift hd hd' σ H Q h) σ H Q h⟩
end
end DL
set_option maxHeartbeats 1000000
/-! The data layer, part c: operators and built-ins on data. -/
namespace DL
open PySem PySem.Spec PyProof.Rows L2

mutual
theorem dv_plain {K : PySem.W.Frag} {H : Hp} : ∀ {v : V} {d : D}, Dv K H v d → d.plain = true
  | _, _, .non => rfl
  | _, _, .bl _ => rfl
  | _, _, .int _ => rfl
  | _, _, .str _ => rfl
  | _, _, .lst _ h => by show PyData.plainAll _ = true; exact dva_plain h
  | _, _, .tup _ h => by show PyData.plainAll _ = true; exact dva_plain h
theorem dva_plain {K : PySem.W.Frag} {H : Hp} : ∀ {vs : List V} {ds : List D}, DvAll K H vs ds → PyData.plainAll ds = true
  | _, _, .nil => rfl
  | _, _, .cons h t => by
    show (PyData.plain _ && PyData.plainAll _) = true
    rw [dv_plain h, dva_plain t]
    rfl
end

section
variable {K : PySem.W.Frag} {O : Addr → Prop} {H : Hp}
theorem dv_int {v : V} {i : Int} (h : Dv K H v (.int i)) : v = .int i := by
  cases h
  rfl
theorem dv_str {v : V} {i : Str} (h : Dv K H v (.str i)) : v = .str i := by
  cases h
  rfl
theorem dv_non {v : V} (h : Dv K H v .none) : v = .non := by
  cases h
  rfl
theorem dv_lst {v : V} {ds : List D} (h : Dv K (hide O H) v (.list ds)) : ∃ a xs, v = .ref a ∧ ¬ O a ∧ H a = some (.lst xs) ∧ DvAll K (hide O H) xs ds := by
  cases h with
  | lst h ha => exact ⟨_, _, rfl, (hide_some.mp h).1, (hide_some.mp h).2, ha⟩
theorem dv_tup {v : V} {ds : List D} (h : Dv K (hide O H) v (.tuple ds)) : ∃ a xs, v = .ref a ∧ SqT K H a xs ∧ SqT K (hide O H) a xs ∧ DvAll K (hide O H) xs ds := by
  cases h with
  | tup h ha => exact ⟨_, _, rfl, sqt_same hide_sub h, h, ha⟩
theorem same_new {p : Addr} {o : HO} (n : H p = none) : Same H (upd H p o) := fun b u e => by
  rw [upd_ne (ne_of_none e n)]
  exact e
theorem trk_new {p : Addr} (t : ∀ p, O p → ∃ o, H p = some o) (n : H p = none) : ¬ O p := fun h => by
  obtain ⟨o, e⟩ := t p h
  rw [n] at e
  cases e
theorem same_hide_new {p : Addr} {o : HO} (n : H p = none) : Same (hide O H) (hide O (upd H p o)) := same_hide fun q u h e => ⟨h, same_new n q u e⟩
theorem dv_newL {p : Addr} {xs : List V} {ds : List D} (t : ∀ p, O p → ∃ o, H p = some o) (n : H p = none) (h : DvAll K (hide O H) xs ds) : Dv K (hide O (upd H p (.lst xs))) (.ref p) (.list ds) :=
  .lst (hide_some.mpr ⟨trk_new t n, upd_same⟩) (dpa_same (same_hide_new n) h)
theorem dv_newT {p : Addr} {xs : List V} {ds : List D} (t : ∀ p, O p → ∃ o, H p = some o) (n : H p = none) (h : DvAll K (hide O H) xs ds) : Dv K (hide O (upd H p (.tup xs))) (.ref p) (.tuple ds) :=
  .tup (.inl (.inl (hide_some.mpr ⟨trk_new t n, upd_same⟩))) (dpa_same (same_hide_new n) h)
end

/-! ### arithmetic -/
def lenOk (n : Nat) : Prop := n ≤ 16000000
instance (n : Nat) : Decidable (lenOk n) := inferInstanceAs (Decidable (n ≤ 16000000))
theorem lenOk.le {n : Nat} (h : lenOk n) : n ≤ sizeLine := by
  have : n ≤ 16000000 := h
  rw [sizeLine_eq]
  omega
theorem lenOk.lt {n : Nat} (h : lenOk n) : n < sizeLine := by
  have : n ≤ 16000000 := h
  rw [sizeLine_eq]
  omega
def addD : D → D → Option D
  | .int i, .int j => some (.int (i + j))
  | .int i, .bool k => some (.int (i + b2i k))
  | .tuple xs, .tuple ys => if lenOk (xs.length + ys.length) then some (.tuple (xs ++ ys)) else none
  | .list xs, .list ys => if lenOk (xs.length + ys.length) then some (.list (xs ++ ys)) else none
  | .str x, .str y => if lenOk (x.length + y.length) then some (.str (x ++ y)) else none
  | _, _ => none
def subD : D → D → Option D
  | .int i, .int j => some (.int (i - j))
  | _, _ => none
def mulOk (i j : Int) : Prop := (-(2 ^ 64) < i ∧ i < 2 ^ 64) ∨ (-(2 ^ 64) < j ∧ j < 2 ^ 64) ∨ i.natAbs.log2 + j.natAbs.log2 < 1000000
instance (i j : Int) : Decidable (mulOk i j) := inferInstanceAs (Decidable (_ ∨ _ ∨ _))
def mulD : D → D → Option D
  | .int i, .int j => if mulOk i j then some (.int (i * j)) else none
  | .list xs, .int k => if k ≤ 1000000 ∧ -1000000 ≤ k ∧ lenOk (xs.length * k.toNat) then some (.list (List.replicate k.toNat xs).flatten) else none
  | .tuple xs, .int k => if xs ≠ [] ∧ 2 ≤ k ∧ k ≤ 1000 ∧ xs.length ≤ 1000 then some (.tuple (List.replicate k.toNat xs).flatten) else none
  | _, _ => none
def fdivD : D → D → Option D
  | .int i, .int j => if 0 < j ∧ j < 1073741824 then some (.int (i / j)) else none
  | _, _ => none
def modD : D → D → Option D
  | .int i, .int j => if 0 < j then some (.int (i % j)) else none
  | _, _ => none
def powD : D → D → Option D
  | .int i, .int j => if 0 ≤ j ∧ j ≤ 1000000 ∧ i.natAbs < 2 ^ 64 then some (.int (i ^ j.toNat)) else none
  | _, _ => none

section
variable {X : Cx} {K : PySem.W.Frag}
def rAddA (K : PySem.W.Frag) : R2 := fun x y H Q => ((rI0 fun i j => .int (i + j)) x y H Q ∨ (∃ i k, x = .int i ∧ y = .bl k ∧ Q (.int (i + b2i k)) H)) ∨ (rCatA K x y H Q ∨ rCat x y H Q) ∨ (∃ i j, x = .str i ∧ y = .str j ∧ i.length + j.length ≤ sizeLine ∧ Q (.str (i ++ j)) H)
theorem op_addA : OpR X (binaryOp .Add) (rAddA X.K) := OpR.or (OpR.or op_add op_add_ib) (OpR.or (OpR.or op_catA op_cat) op_add_str)
theorem od_add : OpD K (rAddA K) addD := by
  intro O H x y d e z Q trk hx hy hz q
  cases d <;> cases e <;> simp only [addD] at hz <;> try (cases hz; done)
  · cases hz
    cases hx
    cases hy
    exact .inl (.inr ⟨_, _, rfl, rfl, q _ H (Same.refl H) (.int _)⟩)
  · cases hz
    cases hx
    cases hy
    exact .inl (.inl ⟨_, _, rfl, rfl, q _ H (Same.refl H) (.int _)⟩)
  · split at hz <;> cases hz
    rename_i h
    cases hx
    cases hy
    exact .inr (.inr ⟨_, _, rfl, rfl, h.le, q _ H (Same.refl H) (.str _)⟩)
  · split at hz <;> cases hz
    rename_i h
    obtain ⟨a, xs, rfl, _, e1, h1⟩ := dv_lst hx
    obtain ⟨b, ys, rfl, _, e2, h2⟩ := dv_lst hy
    exact .inr (.inl (.inr ⟨a, b, xs, ys, rfl, rfl, e1, e2, by rw [dpa_len h1, dpa_len h2]; exact h.le, fun p n => q _ _ (same_new n) (dv_newL trk n (dpa_app h1 h2))⟩))
  · split at hz <;> cases hz
    rename_i h
    obtain ⟨a, xs, rfl, e1, e1', h1⟩ := dv_tup hx
    obtain ⟨b, ys, rfl, e2, e2', h2⟩ := dv_tup hy
    refine .inr (.inl (.inl ⟨a, b, xs, ys, rfl, rfl, e1, e2, by rw [dpa_len h1, dpa_len h2]; exact h.le, fun e => ?_, fun _ e => ?_, fun _ _ p n => q _ _ (same_new n) (dv_newT trk n (dpa_app h1 h2))⟩))
    · subst e
      cases h1
      exact q _ H (Same.refl H) (.tup e2' h2)
    · subst e
      cases h2
      rw [List.append_nil] at q
      exact q _ H (Same.refl H) (.tup e1' h1)
theorem od_sub : OpD K (rI0 fun i j => .int (i - j)) subD := by
  intro O H x y d e z Q trk hx hy hz q
  cases d <;> cases e <;> simp only [subD] at hz <;> try (cases hz; done)
  cases hz
  exact ⟨_, _, dv_int hx, dv_int hy, q _ H (Same.refl H) (.int _)⟩
def rMulA (K : PySem.W.Frag) : R2 := fun x y H Q => (rI CMul (fun i j => .int (i * j)) x y H Q ∨ rI CMulW (fun i j => .int (i * j)) x y H Q) ∨ rRep x y H Q ∨ rRepT K x y H Q
theorem op_mulA : OpR X (binaryOp .Mult) (rMulA X.K) := OpR.or (OpR.or op_mul op_mulW) (OpR.or op_rep op_repT)
theorem dpa_rep {H : Hp} {xs : List V} {ds : List D} (h : DvAll K H xs ds) : ∀ n : Nat, DvAll K H (List.replicate n xs).flatten (List.replicate n ds).flatten
  | 0 => .nil
  | n + 1 => by
    rw [List.replicate_succ, List.replicate_succ, List.flatten_cons, List.flatten_cons]
    exact dpa_app h (dpa_rep h n)
theorem od_mul : OpD K (rMulA K) mulD := by
  intro O H x y d e z Q trk hx hy hz q
  cases d <;> cases e <;> simp only [mulD] at hz <;> try (cases hz; done)
  · split at hz <;> cases hz
    rename_i h
    rcases h with h | h | h
    · exact .inl (.inl ⟨_, _, dv_int hx, dv_int hy, .inl h, q _ H (Same.refl H) (.int _)⟩)
    · exact .inl (.inl ⟨_, _, dv_int hx, dv_int hy, .inr h, q _ H (Same.refl H) (.int _)⟩)
    · exact .inl (.inr ⟨_, _, dv_int hx, dv_int hy, h, q _ H (Same.refl H) (.int _)⟩)
  · split at hz <;> cases hz
    rename_i h
    obtain ⟨a, xs, rfl, _, e1, h1⟩ := dv_lst hx
    exact .inr (.inl ⟨a, _, xs, rfl, dv_int hy, e1, by omega, by omega, by rw [dpa_len h1]; exact h.2.2.le, fun p n => q _ _ (same_new n) (dv_newL trk n (dpa_rep h1 _))⟩)
  · split at hz <;> cases hz
    rename_i h
    obtain ⟨a, xs, rfl, e1, _, h1⟩ := dv_tup hx
    refine .inr (.inr ⟨a, _, xs, rfl, dv_int hy, e1, fun z => h.1 ?_, h.2.1, h.2.2.1, by rw [dpa_len h1]; exact h.2.2.2, fun p n => q _ _ (same_new n) (dv_newT trk n (dpa_rep h1 _))⟩)
    subst z
    cases h1
    rfl
theorem od_fdiv : OpD K (rI CDiv fun i j => .int (i / j)) fdivD := by
  intro O H x y d e z Q trk hx hy hz q
  cases d <;> cases e <;> simp only [fdivD] at hz <;> try (cases hz; done)
  split at hz <;> cases hz
  rename_i h
  exact ⟨_, _, dv_int hx, dv_int hy, h, q _ H (Same.refl H) (.int _)⟩
theorem od_mod : OpD K (rI (fun _ j => 0 < j) fun i j => .int (i % j)) modD := by
  intro O H x y d e z Q trk hx hy hz q
  cases d <;> cases e <;> simp only [modD] at hz <;> try (cases hz; done)
  split at hz <;> cases hz
  rename_i h
  exact ⟨_, _, dv_int hx, dv_int hy, h, q _ H (Same.refl H) (.int _)⟩
theorem od_pow : OpD K (rI CPow fun i j => .int (i ^ j.toNat)) powD := by
  intro O H x y d e z Q trk hx hy hz q
  cases d <;> cases e <;> simp only [powD] at hz <;> try (cases hz; done)
  split at hz <;> cases hz
  rename_i h
  exact ⟨_, _, dv_int hx, dv_int hy, h, q _ H (Same.refl H) (.int _)⟩

/-! ### comparisons -/
def ltD : D → D → Option D
  | .int i, .int j => some (.bool (decide (i < j)))
  | _, _ => none
def leD : D → D → Option D
  | .int i, .int j => some (.bool (decide (i ≤ j)))
  | _, _ => none
def gtD : D → D → Option D
  | .int i, .int j => some (.bool (decide (j < i)))
  | _, _ => none
def geD : D → D → Option D
  | .int i, .int j => some (.bool (decide (j ≤ i)))
  | _, _ => none
theorem od_lt : OpD K (rI0 fun i j => .bl (decide (i < j))) ltD := by
  intro O H x y d e z Q trk hx hy hz q
  cases d <;> cases e <;> simp only [ltD] at hz <;> try (cases hz; done)
  cases hz
  exact ⟨_, _, dv_int hx, dv_int hy, q _ H (Same.refl H) (.bl _)⟩
theorem od_le : OpD K (rI0 fun i j => .bl (decide (i ≤ j))) leD := by
  intro O H x y d e z Q trk hx hy hz q
  cases d <;> cases e <;> simp only [leD] at hz <;> try (cases hz; done)
  cases hz
  exact ⟨_, _, dv_int hx, dv_int hy, q _ H (Same.refl H) (.bl _)⟩
theorem od_gt : OpD K (rI0 fun i j => .bl (decide (j < i))) gtD := by
  intro O H x y d e z Q trk hx hy hz q
  cases d <;> cases e <;> simp only [gtD] at hz <;> try (cases hz; done)
  cases hz
  exact ⟨_, _, dv_int hx, dv_int hy, q _ H (Same.refl H) (.bl _)⟩
theorem od_ge : OpD K (rI0 fun i j => .bl (decide (j ≤ i))) geD := by
  intro O H x y d e z Q trk hx hy hz q
  cases d <;> cases e <;> simp only [geD] at hz <;> try (cases hz; done)
  cases hz
  exact ⟨_, _, dv_int hx, dv_int hy, q _ H (Same.refl H) (.bl _)⟩
/-- == at any depth -/
def shal (d e : D) : Prop := min d.depth e.depth ≤ 100
instance (d e : D) : Decidable (shal d e) := inferInstanceAs (Decidable (_ ≤ 100))
def eqD (d e : D) : Option D := if shal d e then some (.bool (PyData.eqv d e)) else none
def neD (d e : D) : Option D := if shal d e then some (.bool (!PyData.eqv d e)) else none
def rEqP (K : PySem.W.Frag) : R2 := fun x y H Q => ∃ d e, Dv K H x d ∧ Dv K H y e ∧ shal d e ∧ Q (.bl (PyData.eqv d e)) H
def rNeP (K : PySem.W.Frag) : R2 := fun x y H Q => ∃ d e, Dv K H x d ∧ Dv K H y e ∧ shal d e ∧ Q (.bl (!PyData.eqv d e)) H
theorem op_eqP {k : Nat} (hr : Room k X.A) : OpR X (compareOp .Eq) (rEqP X.K) := by
  intro pins s σ H x y v u Q I rx ry h
  obtain ⟨d, e, hd, he, sh, q⟩ := h
  obtain ⟨as, r1⟩ := Dp.reads I d x v hd.dp rx
  obtain ⟨bs, r2⟩ := Dp.reads I e y u he.dp ry
  have hu := hr.un
  have sh' : min d.depth e.depth ≤ 100 := sh
  exact SeqAt.eq_plain r1 r2 (dv_plain hd) (dv_plain he) (by omega) ⟨.bl _, H, I, rfl, q⟩
theorem op_neP {k : Nat} (hr : Room k X.A) : OpR X (compareOp .NotEq) (rNeP X.K) := by
  intro pins s σ H x y v u Q I rx ry h
  obtain ⟨d, e, hd, he, sh, q⟩ := h
  obtain ⟨as, r1⟩ := Dp.reads I d x v hd.dp rx
  obtain ⟨bs, r2⟩ := Dp.reads I e y u he.dp ry
  have hu := hr.un
  have sh' : min d.depth e.depth ≤ 100 := sh
  exact SeqAt.ne_plain r1 r2 (dv_plain hd) (dv_plain he) (by omega) ⟨.bl _, H, I, rfl, q⟩
theorem od_eq : OpD K (rEqP K) eqD := by
  intro O H x y d e z Q trk hx hy hz q
  unfold eqD at hz
  split at hz <;> cases hz
  rename_i h
  exact ⟨d, e, dp_same hide_sub hx, dp_same hide_sub hy, h, q _ H (Same.refl H) (.bl _)⟩
theorem od_ne : OpD K (rNeP K) neD := by
  intro O H x y d e z Q trk hx hy hz q
  unfold neD at hz
  split at hz <;> cases hz
  rename_i h
  exact ⟨d, e, dp_same hide_sub hx, dp_same hide_sub hy, h, q _ H (Same.refl H) (.bl _)⟩
/-- x in a list, a tuple -/
def inB (d : D) (xs : List D) : Bool := xs.any fun y => PyData.eqv y d
def inD (neg : Bool) (d : D) : D → Option D
  | .list xs => if d.depth ≤ 100 then some (.bool (if neg then !inB d xs else inB d xs)) else none
  | .tuple xs => if d.depth ≤ 100 then some (.bool (if neg then !inB d xs else inB d xs)) else none
  | _ => none
def rInP (K : PySem.W.Frag) (neg : Bool) : R2 := fun x y H Q => ∃ d xs, Dv K H x d ∧ (Dv K H y (.list xs) ∨ Dv K H y (.tuple xs)) ∧ d.depth ≤ 100 ∧ Q (.bl (if neg then !inB d xs else inB d xs)) H
theorem op_inP {k : Nat} (hr : Room k X.A) : OpR X (compareOp .In) (rInP X.K false) := by
  intro pins s σ H x y v u Q I rx ry h
  obtain ⟨d, xs, hd, he, sh, q⟩ := h
  obtain ⟨as, r1⟩ := Dp.reads I d x v hd.dp rx
  have hu := hr.un
  rcases he with he | he
  · obtain ⟨bs, r2⟩ := Dp.reads I _ y u he.dp ry
    exact SeqAt.in_list_data r2 r1 (dv_plain he) (dv_plain hd) (by omega) ⟨.bl _, H, I, rfl, q⟩
  · obtain ⟨bs, r2⟩ := Dp.reads I _ y u he.dp ry
    exact SeqAt.in_tuple_data r2 r1 (dv_plain he) (dv_plain hd) (by omega) ⟨.bl _, H, I, rfl, q⟩
theorem op_ninP {k : Nat} (hr : Room k X.A) : OpR X (compareOp .NotIn) (rInP X.K true) := by
  intro pins s σ H x y v u Q I rx ry h
  obtain ⟨d, xs, hd, he, sh, q⟩ := h
  obtain ⟨as, r1⟩ := Dp.reads I d x v hd.dp rx
  have hu := hr.un
  rcases he with he | he
  · obtain ⟨bs, r2⟩ := Dp.reads I _ y u he.dp ry
    exact SeqAt.notIn_list_data r2 r1 (dv_plain he) (dv_plain hd) (by omega) ⟨.bl _, H, I, rfl, q⟩
  · obtain ⟨bs, r2⟩ := Dp.reads I _ y u he.dp ry
    exact SeqAt.notIn_tuple_data r2 r1 (dv_plain he) (dv_plain hd) (by omega) ⟨.bl _, H, I, rfl, q⟩
theorem od_in {neg : Bool} : OpD K (rInP K neg) (inD neg) := by
  intro O H x y d e z Q trk hx hy hz q
  cases e <;> simp only [inD] at hz <;> try (cases hz; done)
  · split at hz <;> cases hz
    rename_i h
    exact ⟨d, _, dp_same hide_sub hx, .inl (dp_same hide_sub hy), h, q _ H (Same.refl H) (.bl _)⟩
  · split at hz <;> cases hz
    rename_i h
    exact ⟨d, _, dp_same hide_sub hx, .inr (dp_same hide_sub hy), h, q _ H (Same.refl H) (.bl _)⟩
/-- is None; is True, is False of bools -/
def isD (neg : Bool) (d : D) : D → Option D
  | .none => some (.bool (if neg then !(PyData.eqv d .none) else PyData.eqv d .none))
  | .bool b => match d with
    | .bool a => some (.bool (if neg then !decide (a = b) else decide (a = b)))
    | _ => none
  | _ => none
theorem isNone_eqv {H : Hp} {v : V} {d : D} (h : Dv K H v d) : decide (v = V.non) = PyData.eqv d .none := by
  cases h <;> simp [PyData.eqv]
theorem od_is : OpD K (fun x y H Q => (y = V.non ∧ Q (.bl (decide (x = .non))) H) ∨ (∃ a b : Bool, x = .bl a ∧ y = .bl b ∧ Q (.bl (decide (a = b))) H)) (isD false) := by
  intro O H x y d e z Q trk hx hy hz q
  cases e <;> simp only [isD] at hz <;> try (cases hz; done)
  · cases hz
    refine .inl ⟨dv_non hy, ?_⟩
    rw [isNone_eqv hx]
    exact q _ H (Same.refl H) (.bl _)
  · cases d <;> simp at hz
    subst hz
    exact .inr ⟨_, _, dv_bool hx, dv_bool hy, q _ H (Same.refl H) (.bl _)⟩
theorem od_isnot : OpD K (fun x y H Q => (y = V.non ∧ Q (.bl (!decide (x = .non))) H) ∨ (∃ a b : Bool, x = .bl a ∧ y = .bl b ∧ Q (.bl (!decide (a = b))) H)) (isD true) := by
  intro O H x y d e z Q trk hx hy hz q
  cases e <;> simp only [isD] at hz <;> try (cases hz; done)
  · cases hz
    refine .inl ⟨dv_non hy, ?_⟩
    rw [isNone_eqv hx]
    exact q _ H (Same.refl H) (.bl _)
  · cases d <;> simp at hz
    subst hz
    exact .inr ⟨_, _, dv_bool hx, dv_bool hy, q _ H (Same.refl H) (.bl _)⟩
end
end DL
set_option maxHeartbeats 1000000
/-! The data layer, part d: sums, least, greatest, sorted over lists and tuples of data. -/
namespace PySem.W
open PySem PyProof.Rows
section
variable {prog : Program} {w : World} {A : Around} {E : Value → Shared → Prop} {s : Shared}
/-- the items of a tuple, collected into a new list -/
theorem dl_collectT {l : Addr} {vs : List Value} {Q : List Value → Shared → Prop} (hl : s.heap.IsTuple l vs.toArray)
    (hq : Q vs { s with heap := (s.heap.push (seqObj "list" #[] 0)).update s.heap.objs.size (Obj.mapSeq (· ++ vs.toArray)) }) (hz : vs.length ≤ sizeLine) :
    wpAny (model prog w) A (collect (.ref l)) Q E s := by
  obtain ⟨ob, e0, ec, n, ed⟩ := id hl
  unfold collect
  refine wpAny_bind (wpAny_runValue (codeAny_builtin entry_proto_collect' ?_))
  show wpAny _ _ (do again (.builtin "list.__iadd__" ⟨[← newList [], .ref l], []⟩)) _ _ s
  refine wpAny_bind (wpAny_newList (wpAny_pure ⟨Code.quiet_builtin _ (by decide +kernel), codeAny_builtin entry_list_iadd' ?_⟩))
  show wpAny _ _ (Builtin.List.listExtendWith (.ref s.heap.objs.size) (.ref l) (.ref s.heap.objs.size)) _ _ { s with heap := s.heap.push (seqObj "list" #[] 0) }
  unfold Builtin.List.listExtendWith
  have e1 : (s.heap.push (seqObj "list" #[] 0)).get? l = some ob := Heap.get?_push_of_some _ e0
  refine wpAny_bind (wpAny_typeOf (T := "tuple") ⟨ob, e1, ec⟩ ?_)
  have et : (Value.type "tuple" == Value.type "tuple") = true := rfl
  rw [if_pos (by rw [et]; simp)]
  refine wpAny_bind (listItems_at e1 ed ?_)
  refine wpAny_bind (listItems_at (xs := #[]) (n := 0) (Heap.get?_push_size _ rfl) rfl ?_)
  rw [if_neg (by simp)]
  refine wpAny_bind (listUpdate_at (xs := #[]) (n := 0) (Heap.get?_push_size _ rfl) rfl ?_ (Nat.zero_le _) (by show (#[] ++ vs.toArray).size ≤ sizeLine + 1; simp only [Array.size_append, List.size_toArray, List.length_nil]; omega))
  refine wpAny_pure ?_
  show wpAny (model prog w) A (do
      let o ← load s.heap.objs.size
      match o.data with
      | .seq xs _ => pure xs.toList
      | _ => unsupported "internal:collect") Q E { s with heap := (s.heap.push (seqObj "list" #[] 0)).update s.heap.objs.size (Obj.mapSeq (· ++ vs.toArray)) }
  refine wpAny_bind (wpAny_load (get?_update_seq (Heap.get?_push_size _ rfl) _) ?_)
  show wpAny _ _ (pure ((#[] : Array Value) ++ vs.toArray).toList) Q E _
  rw [show ((#[] : Array Value) ++ vs.toArray).toList = vs by simp]
  exact wpAny_pure hq
theorem dl_sortT0 {l : Addr} {vs : List Value} {Q : Value → Shared → Prop} (hl : s.heap.IsTuple l vs.toArray) (hL : vs.length ≤ sizeLine)
    (body : ∀ E' : Value → Shared → Prop, wpAny (model prog w) A.in1.in1 (Builtin.«list.sort» ⟨[.ref (s.heap.objs.size + 1)], []⟩) (fun f s' => f = .done (.ret .none) ∧ Q (.ref (s.heap.objs.size + 1)) s') E' { s with heap := copyHeap s.heap vs }) :
    wpAny (model prog w) A (call (.builtin "sorted") [.ref l] []) Q E s := by
  refine call_function_entry_kw kind_sorted plain_sorted entry_sorted (args_sorted1 _) ?_
  unfold Builtin.«sorted»
  refine wpAny_bind (m := checkCount "sorted" 1 1 _) (wpAny_pure ?_)
  refine wpAny_bind (dl_collectT hl ?_ hL)
  refine wpAny_bind (wpAny_newList ?_ hL)
  have hs2 : ((s.heap.push (seqObj "list" #[] 0)).update s.heap.objs.size (Obj.mapSeq (· ++ vs.toArray))).objs.size = s.heap.objs.size + 1 := by
    rw [Heap.size_update, size_push']
  show wpAny _ _ _ _ _ { s with heap := copyHeap s.heap vs }
  rw [hs2]
  refine wpAny_bind (wpAny_holding (wpAny_call_entry_kw slot_list_sort ⟨_, copyHeap_at s.heap vs, rfl⟩ entry_list_sort ?body (args_list_sort _)))
  case body =>
    show wpAny (model prog w) A.in1.in1 (Builtin.«list.sort» ⟨[.ref (s.heap.objs.size + 1)], []⟩) _ _ _
    refine wpAny_mono (body _) (fun f s' hf => ?_) fun _ _ e => e
    obtain ⟨rfl, hq⟩ := hf
    exact ⟨_, rfl, wpAny_pure ⟨_, rfl, hq⟩⟩
theorem dl_sortT {β : Type} {R : Value → β → Prop} {enc : β → PyData} {vs : List Value} {bs : List β} {l : Addr} {Q : Value → Shared → Prop} (hl : s.heap.IsTuple l vs.toArray) (e : EachIs R vs bs) (er : EachIs (fun v b => ∃ as, Reads s.heap v (enc b) as) vs bs) (hal : AllAlike (bs.map enc)) (hk : Sortable (bs.map enc)) (hL : bs.length ≤ sizeLine)
    (hu : ∀ b, b ∈ bs → A.units + 2 + (enc b).depth < cLine) (h : ∀ out, out.length = bs.length → EachIs R out (bs.mergeSort (dataLe false enc)) → Q (.ref (s.heap.objs.size + 1)) { s with heap := sortedAll s.heap vs (List.toArray out) }) :
    wpAny (model prog w) A (call (.builtin "sorted") [.ref l]) Q E s := by
  have er' : EachIs (fun v b => ∃ as, Reads (sortingHeap (copyHeap s.heap vs) (s.heap.objs.size + 1) vs) v (enc b) as) vs bs := er.mono fun _ _ ⟨as, r⟩ => ⟨as, PyProof.Rows.Reads.keeps (fun _ _ => sorting_copy_old) r⟩
  have S := SortsAt.data (prog := prog) (w := w) (A := A.in1.in1) (s := { s with heap := sortingHeap (copyHeap s.heap vs) (s.heap.objs.size + 1) vs }) (each_map (R := fun v d => ∃ as, Reads (sortingHeap (copyHeap s.heap vs) (s.heap.objs.size + 1) vs) v d as) enc er') hal hk (bound_map hu)
  have hvl : vs.length ≤ sizeLine := by rw [e.length]; exact hL
  refine dl_sortT0 hl hvl fun _ => list_sort_vals (s := { s with heap := copyHeap s.heap vs }) (copyHeap_at s.heap vs) S hvl ⟨rfl, ?_⟩
  exact h _ (by rw [sortVals_length false rfl]; exact e.length) (sortVals_data false e er' hal)
end
end PySem.W
set_option maxHeartbeats 1000000
/-! The data layer, part e: built-in functions on data. -/
namespace DL
open PySem PySem.Spec PyProof.Rows L2

/-! ### sum of a tuple -/
theorem preSum_list (ns : List Int) : ∀ j, j ≤ ns.length → preSum (fun i => ns.getD i 0) j = (ns.take j).sum
  | 0, _ => rfl
  | j + 1, h => by
    have h1 : j < ns.length := by omega
    show preSum (fun i => ns.getD i 0) j + ns.getD j 0 = _
    rw [preSum_list ns j (by omega), sum_take (z := ns[j]) (List.getElem?_eq_getElem h1)]
    simp [h1]
theorem vals_at {ns : List Int} {us : List Value} (r : Vals (ns.map V.int) us) {i : Nat} {v : Value} (e : us[i]? = some v) : ∃ t, v = .int (ns.getD i 0) t := by
  have hl := r.length
  rw [List.length_map] at hl
  have hi : i < us.length := (List.getElem?_eq_some_iff.mp e).1
  have hn : i < ns.length := by omega
  obtain ⟨u, h1, h2⟩ := r.get (i := i) (x := .int ns[i]) (by rw [List.getElem?_map, List.getElem?_eq_getElem hn]; rfl)
  rw [e] at h1
  cases h1
  obtain ⟨t, rfl⟩ := h2
  exact ⟨t, by simp [hn]⟩
section
variable {X : Cx}
def rSumT (K : PySem.W.Frag) : List V → Hp → VK → Prop := fun vs H Q => ∃ (a : Addr) (ns : List Int), vs = [V.ref a] ∧ SqT K H a (ns.map V.int) ∧ Q (.int ns.sum) H
theorem cr_sumT (hc : X.calm = true) : CallR X (.builtin "sum") (rSumT X.K) := by
  intro pins s σ H vs us Q I r h
  obtain ⟨a, ns, rfl, hs, q⟩ := h
  obtain ⟨its, rv, ht, hz⟩ := I.tuple hs
  obtain ⟨u, rfl, ru⟩ := vals1 r
  cases ru
  have hl := rv.length
  rw [List.length_map] at hl
  have hal : a < s.heap.objs.size := by obtain ⟨_, e, _⟩ := (show s.heap.IsTuple a its.toArray from ht); exact Heap.lt_size e
  refine call_sum_walkG (wpAny_pyIter_tuple (show s.heap.IsTuple a its.toArray from ht) ?_)
  refine ⟨_, _, _, _, _, _, (fun i => ns.getD i 0), rfl, Walks.tuple (A := X.A.in1) (I.ok.hd hc) _ a (Nat.ne_of_lt hal) its.toArray, ⟨⟨_, Heap.get?_push_size _ rfl, rfl, rfl⟩, ?_⟩, fun b hb => ?_, fun i v hv => ?_, fun h' tk t' hk => ?_⟩
  · obtain ⟨o, e, c, n, d⟩ := (show s.heap.IsTuple a its.toArray from ht)
    exact ⟨o, Heap.get?_push_of_some _ e, c, n, d⟩
  · have hp : (s.heap.push { cls := .type "tuple_iterator", data := .fields #[.ref a, .int 0 0] }).objs.size = s.heap.objs.size + 1 := by simp [Heap.push]
    show b < (s.heap.push _).objs.size
    rw [hp]
    rcases List.mem_cons.mp hb with e | hb
    · rw [e]
      exact Nat.lt_succ_self _
    · rcases List.mem_cons.mp hb with e | hb
      · rw [e]
        exact Nat.lt_succ_of_lt hal
      · cases hb
  · exact vals_at rv (by simpa using hv)
  · have e : preSum (fun i => ns.getD i 0) its.toArray.size = ns.sum := by
      rw [show its.toArray.size = ns.length by simp; omega, preSum_list ns _ (Nat.le_refl _), List.take_length]
    rw [e]
    exact ⟨.int ns.sum, H, I.kept fun b o eb => hk b o (fun z => absurd (Heap.lt_size eb) ((List.mem_singleton.mp z) ▸ Nat.lt_irrefl _)) (Heap.get?_push_of_some _ eb), ⟨_, rfl⟩, q⟩

/-! ### least, greatest -/
theorem readsAll_dp {pins : List (Addr × Obj)} {σ : L2.St} {H : Hp} {s : Shared} (I : Inv X pins σ H s) {vs : List V} {ds : List D} {us : List Value} (h : DvAll X.K H vs ds) (r : Vals vs us) : ∃ as, ReadsAll s.heap us ds as := Dp.readsAll I ds vs us h.dp r
theorem reads_int {h : Heap} {v : Value} {n : Int} {as : List Addr} (r : Reads h v (.int n) as) : ∃ t, v = .int n t := by
  cases r
  exact ⟨_, rfl⟩
theorem alikeInts (ns : List Int) : PySem.W.AlikeAll (ns.map PyData.int) := by
  refine ⟨fun x hx y hy => ?_, fun x hx => ?_⟩
  · obtain ⟨a, _, rfl⟩ := List.mem_map.mp hx
    obtain ⟨b, _, rfl⟩ := List.mem_map.mp hy
    rfl
  · obtain ⟨a, _, rfl⟩ := List.mem_map.mp hx
    intro z
    cases z
def rMinP (K : PySem.W.Frag) : List V → Hp → VK → Prop := fun vs H Q => ∃ (x : V) (n : Int) (ns : List Int), vs = [x] ∧ (Dv K H x (.list ((n :: ns).map .int)) ∨ Dv K H x (.tuple ((n :: ns).map .int))) ∧ Q (.int (ns.foldl min n)) H
def rMaxP (K : PySem.W.Frag) : List V → Hp → VK → Prop := fun vs H Q => ∃ (x : V) (n : Int) (ns : List Int), vs = [x] ∧ (Dv K H x (.list ((n :: ns).map .int)) ∨ Dv K H x (.tuple ((n :: ns).map .int))) ∧ Q (.int (ns.foldl max n)) H
theorem depth_intsD (ns : List Int) : PyData.depthAll (ns.map PyData.int) = 0 := PySem.W.depth_ints ns
theorem cr_minP {k : Nat} (hc : X.calm = true) (hr : Room k X.A) : CallR X (.builtin "min") (rMinP X.K) := by
  intro pins s σ H vs us Q I r h
  obtain ⟨x, n, ns, rfl, hd, q⟩ := h
  obtain ⟨u, rfl, ru⟩ := vals1 r
  have hu := hr.un
  have al := alikeInts (n :: ns)
  have dep := depth_intsD (n :: ns)
  have fin : ∀ (i : Nat) v h' tk bs, Reads h' v (PySem.W.minD (.int n) (ns.map .int)) bs → (∀ b o, s.heap.get? b = some o → h'.get? b = some o) → EP X pins σ Q v { s with heap := h', toks := tk } := fun i v h' tk bs hv hk => by
    rw [PySem.W.minD_ints] at hv
    obtain ⟨t, rfl⟩ := reads_int hv
    exact ⟨.int _, H, I.kept hk, ⟨t, rfl⟩, q⟩
  rcases hd with hd | hd
  · cases hd with
    | lst ha hall =>
      cases ru
      obtain ⟨its, rv, hl, _⟩ := I.list (.inl (.inl ha))
      obtain ⟨as, hr2⟩ := readsAll_dp I hall rv
      exact PySem.W.min_list_data (I.ok.hd hc) hl.isList (by simpa using hr2) al (by show X.A.units + 1 + PyData.depthAll ((n :: ns).map PyData.int) < cLine; omega) fun i v h' tk bs _ hv hk => fin i v h' tk bs hv hk
  · cases hd with
    | tup ha hall =>
      cases ru
      obtain ⟨its, rv, hl, _⟩ := I.tuple ha
      obtain ⟨as, hr2⟩ := readsAll_dp I hall rv
      exact PySem.W.min_tuple_data (I.ok.hd hc) (show s.heap.IsTuple _ its.toArray from hl) (by simpa using hr2) al (by show X.A.units + 1 + PyData.depthAll ((n :: ns).map PyData.int) < cLine; omega) fun i v h' tk bs _ hv hk => fin i v h' tk bs hv hk
theorem cr_maxP {k : Nat} (hc : X.calm = true) (hr : Room k X.A) : CallR X (.builtin "max") (rMaxP X.K) := by
  intro pins s σ H vs us Q I r h
  obtain ⟨x, n, ns, rfl, hd, q⟩ := h
  obtain ⟨u, rfl, ru⟩ := vals1 r
  have hu := hr.un
  have al := alikeInts (n :: ns)
  have dep := depth_intsD (n :: ns)
  have fin : ∀ (i : Nat) v h' tk bs, Reads h' v (PySem.W.maxD (.int n) (ns.map .int)) bs → (∀ b o, s.heap.get? b = some o → h'.get? b = some o) → EP X pins σ Q v { s with heap := h', toks := tk } := fun i v h' tk bs hv hk => by
    rw [PySem.W.maxD_ints] at hv
    obtain ⟨t, rfl⟩ := reads_int hv
    exact ⟨.int _, H, I.kept hk, ⟨t, rfl⟩, q⟩
  rcases hd with hd | hd
  · cases hd with
    | lst ha hall =>
      cases ru
      obtain ⟨its, rv, hl, _⟩ := I.list (.inl (.inl ha))
      obtain ⟨as, hr2⟩ := readsAll_dp I hall rv
      exact PySem.W.max_list_data (I.ok.hd hc) hl.isList (by simpa using hr2) al (by show X.A.units + 1 + PyData.depthAll ((n :: ns).map PyData.int) < cLine; omega) fun i v h' tk bs _ hv hk => fin i v h' tk bs hv hk
  · cases hd with
    | tup ha hall =>
      cases ru
      obtain ⟨its, rv, hl, _⟩ := I.tuple ha
      obtain ⟨as, hr2⟩ := readsAll_dp I hall rv
      exact PySem.W.max_tuple_data (I.ok.hd hc) (show s.heap.IsTuple _ its.toArray from hl) (by simpa using hr2) al (by show X.A.units + 1 + PyData.depthAll ((n :: ns).map PyData.int) < cLine; omega) fun i v h' tk bs _ hv hk => fin i v h' tk bs hv hk

/-! ### sorted -/
open PySem.W in
def SortOk (ds : List D) : Prop := AllAlike ds ∧ Sortable ds ∧ (∀ d ∈ ds, d.depth ≤ 100)
open PySem.W in
def rSortP (K : PySem.W.Frag) : List V → Hp → VK → Prop := fun vs H Q => ∃ (O : Addr → Prop) (x : V) (ds : List D), vs = [x] ∧ (Dv K (hide O H) x (.list ds) ∨ Dv K (hide O H) x (.tuple ds)) ∧ SortOk ds ∧
  ∀ p xs, H p = none → DvAll K (hide O H) xs (ds.mergeSort (dataLe false (fun d : D => d))) → Q (.ref p) (upd H p (.lst xs))
open PySem.W in
theorem each_of {pins : List (Addr × Obj)} {σ : L2.St} {H : Hp} {s : Shared} {O : Addr → Prop} (I : Inv X pins σ H s) : ∀ {vs : List V} {ds : List D} {us : List Value}, DvAll X.K (hide O H) vs ds → Vals vs us →
    EachIs (fun u d => ∃ v, RelV v u ∧ Dv X.K (hide O H) v d) us ds ∧ EachIs (fun v b => ∃ as, Reads s.heap v ((fun d : D => d) b) as) us ds
  | _, _, _, .nil, .nil => ⟨.nil, .nil⟩
  | _, _, _, .cons h t, .cons r rs => by
    obtain ⟨a, b⟩ := each_of I t rs
    exact ⟨.cons ⟨_, r, h⟩ a, .cons (Dp.reads I _ _ _ (dp_same hide_sub h).dp r) b⟩
open PySem.W in
theorem of_each {K : PySem.W.Frag} {H : Hp} : ∀ {us : List Value} {ds : List D}, EachIs (fun u d => ∃ v, RelV v u ∧ Dv K H v d) us ds → ∃ vs, Vals vs us ∧ DvAll K H vs ds
  | _, _, .nil => ⟨[], .nil, .nil⟩
  | _, _, .cons ⟨v, r, h⟩ t => by
    obtain ⟨vs, a, b⟩ := of_each t
    exact ⟨v :: vs, .cons r a, .cons h b⟩
open PySem.W in
theorem cr_sortP {k : Nat} (hr : Room k X.A) : CallR X (.builtin "sorted") (rSortP X.K) := by
  intro pins s σ H vs us Q I r h
  obtain ⟨O, x, ds, rfl, hd, ⟨h1, h2, h3⟩, q⟩ := h
  obtain ⟨u, rfl, ru⟩ := vals1 r
  have hu := hr.un
  have fin : ∀ (its out : List Value), ds.length ≤ sizeLine → out.length = ds.length → EachIs (fun u d => ∃ v, RelV v u ∧ Dv X.K (hide O H) v d) out (ds.mergeSort (dataLe false (fun d : D => d))) →
      EP X pins σ Q (.ref (s.heap.objs.size + 1)) { s with heap := sortedAll s.heap its (List.toArray out) } := fun its out hz hl he => by
    obtain ⟨xs, rv, hv⟩ := of_each he
    obtain ⟨ep, he'⟩ := PyProof.Rows.sortedAll_at s.heap its out.toArray
    have hlen : xs.length ≤ sizeLine := by rw [rv.length, hl]; exact hz
    exact ⟨.ref _, upd H (s.heap.objs.size + 1) (.lst xs), I.laid (t' := s.toks) (fun _ _ => PyProof.Rows.sortedAll_old) (Nat.le_succ _) ⟨hlen, out, ep, rv, he'⟩, rfl, q _ _ (I.hok.fresh (Nat.le_succ _)) hv⟩
  have e1 : ds.map (fun d : D => d) = ds := List.map_id ds
  rcases hd with hd | hd
  · obtain ⟨a, xs, rfl, no, ha, hall⟩ := dv_lst hd
    cases ru
    obtain ⟨its, rv, hl, hz⟩ := I.list (.inl (.inl ha))
    obtain ⟨ea, eb⟩ := each_of I hall rv
    have hz' : ds.length ≤ sizeLine := by rw [← dpa_len hall]; exact hz
    exact sorted_data (enc := fun d : D => d) hl.isList ea eb (by rw [e1]; exact h1) (by rw [e1]; exact h2) hz' (fun b hb => by have := h3 b hb; show X.A.units + 2 + b.depth < cLine; omega) fun out ho he => fin its out hz' ho he
  · obtain ⟨a, xs, rfl, ha, _, hall⟩ := dv_tup hd
    cases ru
    obtain ⟨its, rv, hl, hz⟩ := I.tuple ha
    obtain ⟨ea, eb⟩ := each_of I hall rv
    have hz' : ds.length ≤ sizeLine := by rw [← dpa_len hall]; exact hz
    exact dl_sortT (enc := fun d : D => d) (show s.heap.IsTuple _ its.toArray from hl) ea eb (by rw [e1]; exact h1) (by rw [e1]; exact h2) hz' (fun b hb => by have := h3 b hb; show X.A.units + 2 + b.depth < cLine; omega) fun out ho he => fin its out hz' ho he

/-! ### isinstance of a built-in class -/
def rIsaP (K : PySem.W.Frag) (T : String) (f : D → Bool) : List V → Hp → VK → Prop := fun vs H Q => ∃ (x : V) (d : D), vs = [x, .ty T] ∧ Dv K H x d ∧ Q (.bl (f d)) H
theorem isa_rule {T : String} {f : D → Bool} (rule : ∀ {prog : Program} {w : World} {A : Around} {E : Value → Shared → Prop} {s : Shared} {v : Value} {d : D} {as : List Addr} {Q : Value → Shared → Prop}, Reads s.heap v d as → (∀ tk, s.toks ≤ tk → Q (.bool (f d)) { s with toks := tk }) →
    wpAny (model prog w) A (call (.builtin "isinstance") [v, .type T]) Q E s) : CallR X (.builtin "isinstance") (rIsaP X.K T f) := by
  intro pins s σ H vs us Q I r h
  obtain ⟨x, d, rfl, hd, q⟩ := h
  obtain ⟨u, w, rfl, ru, rw'⟩ := vals2 r
  cases rw'
  obtain ⟨as, hr⟩ := Dp.reads I d x u hd.dp ru
  exact rule hr fun tk _ => ⟨.bl _, H, I.tok tk, rfl, q⟩
theorem cr_isaInt : CallR X (.builtin "isinstance") (rIsaP X.K "int" PyData.isInt) := isa_rule PySem.W.isinstance_int_data
theorem cr_isaBool : CallR X (.builtin "isinstance") (rIsaP X.K "bool" PyData.isBool) := isa_rule PySem.W.isinstance_bool_data
theorem cr_isaList : CallR X (.builtin "isinstance") (rIsaP X.K "list" PyData.isList) := isa_rule PySem.W.isinstance_list_data
theorem cr_isaTuple : CallR X (.builtin "isinstance") (rIsaP X.K "tuple" PyData.isTuple) := isa_rule PySem.W.isinstance_tuple_data
theorem cr_isaStr : CallR X (.builtin "isinstance") (rIsaP X.K "str" PyData.isStr) := isa_rule PySem.W.isinstance_str_data
end
end DL
set_option maxHeartbeats 1000000
/-! The data layer, part f: subscripts, slices, displays, calls of built-ins. -/
namespace DL
open PySem PySem.Spec PyProof.Rows L2

abbrev SD := DEnv → (List D → Nat → Prop) → Prop
def liftD (K : PySem.W.Frag) (XR : XRT) (E : XK) (s : SD) : TA := fun σ H Q => ∃ (O : Addr → Prop) (ρ : DEnv) (R : List D → Nat → Prop), Rel K O H σ ρ ∧ s ρ R ∧
  (∀ vs H' ds m', Step (BagOf σ ρ.sl) H H' ρ.m m' → DvAll K (hide (Ow O σ ρ.sl) H') vs ds → R ds m' → Q vs H') ∧ XOk XR E σ ρ H
structure DD (X : Cx) (XR : XRT) (E : XK) (e : List Expr) (s : SD) : Prop where
  run : PA X e (liftD X.K XR E s)
/-- an expression that makes a new list, nobody else's: its items -/
def liftF (K : PySem.W.Frag) (XR : XRT) (E : XK) (s : SD) : TE := fun σ H Q => ∃ (O : Addr → Prop) (ρ : DEnv) (R : List D → Nat → Prop), Rel K O H σ ρ ∧ s ρ R ∧
  (∀ p xs H' ds m', Step (BagOf σ ρ.sl) H H' ρ.m m' → H p = none → H' p = some (.lst xs) → DvAll K (hide (fun q => Ow O σ ρ.sl q ∨ q = p) H') xs ds → R ds m' → Q (.ref p) H') ∧ XOk XR E σ ρ H
structure DF (X : Cx) (XR : XRT) (E : XK) (e : Expr) (s : SD) : Prop where
  run : PE X e (liftF X.K XR E s)
def sLst (s : SD) : SE := fun ρ R => s ρ fun ds m => R (.list ds) m

section
variable {X : Cx} {XR : XRT} {E : XK} {a b c e : Expr} {es : List Expr} {sa sb sc s : SE} {st st' : ST} {sd : SD} {pos : Pos}
theorem de_f (h : DF X XR E e sd) : DE X XR E e (sLst sd) := ⟨pe_imp h.run fun σ H Q h => by
  obtain ⟨O, ρ, R, rel, hs, q, hx⟩ := h
  refine ⟨O, ρ, _, rel, hs, fun p xs H1 ds m1 st n ep hd hr => ?_, hx⟩
  exact q _ H1 _ m1 st (dp_new (rel.newNot n) ep hd) hr⟩
def sdNil : SD := fun ρ R => R [] ρ.m
def sdCons (s : SE) (t : SD) : SD := fun ρ R => s ρ fun d m1 => t { ρ with m := m1 } fun ds m2 => R (d :: ds) m2
theorem dd_nil : DD X XR E [] sdNil := ⟨pa_imp pa_nil fun σ H Q h => by
  obtain ⟨O, ρ, R, rel, hs, q, hx⟩ := h
  exact q [] H [] ρ.m (Step.refl _ _ _) .nil hs⟩
theorem dd_cons (h : DE X XR E e s) (h2 : DD X XR E es sd) (hs : starEach (e :: es) X.env = (false, eval e X.env) :: starEach es X.env := by rfl) : DD X XR E (e :: es) (sdCons s sd) := ⟨pa_imp (pa_cons h.run h2.run hs) fun σ H Q h => by
  obtain ⟨O, ρ, R, rel, hs, q, hx⟩ := h
  exact ⟨O, ρ, _, rel, hs, fun v H1 d m1 st dv hr => ⟨O, { ρ with m := m1 }, _, rel.step st, hr, fun vs H2 ds m2 st2 dvs hr2 => q _ H2 _ m2 (st.trans st2) (.cons (dp_same ((rel.step st).sameHide st2) dv) dvs) hr2, hx.step st⟩, hx⟩⟩

/-! ### subscripts -/
def ixD : D → D → Option D
  | .list xs, .int i => atI xs i
  | .tuple xs, .int i => atI xs i
  | _, _ => none
theorem atI_all {K : PySem.W.Frag} {H : Hp} {vs : List V} {ds : List D} {i : Int} {d : D} (h : DvAll K H vs ds) (e : atI ds i = some d) : ∃ v, atI vs i = some v ∧ Dv K H v d := by
  unfold atI at e ⊢
  rw [dpa_len h]
  cases q : ixN ds.length i with
  | none =>
    rw [q] at e
    cases e
  | some j =>
    rw [q] at e
    exact dpa_get h e
theorem od_ix {K : PySem.W.Frag} : OpD K (fun x y H Q => rIxL K x y H Q ∨ rIxT K x y H Q) ixD := by
  intro O H x y d e z Q trk hx hy hz q
  cases d <;> cases e <;> simp only [ixD] at hz <;> try (cases hz; done)
  · obtain ⟨p, xs, rfl, no, hp, ha⟩ := dv_lst hx
    obtain ⟨v, e1, hv⟩ := atI_all ha hz
    exact .inl ⟨p, xs, _, v, rfl, dv_int hy, .inl (.inl hp), e1, q v H (Same.refl H) hv⟩
  · obtain ⟨p, xs, rfl, hp, _, ha⟩ := dv_tup hx
    obtain ⟨v, e1, hv⟩ := atI_all ha hz
    exact .inr ⟨p, xs, _, v, rfl, dv_int hy, hp, e1, q v H (Same.refl H) hv⟩
theorem de_ix (ha : DE X XR E a sa) (hb : DE X XR E b sb) (hs : PlainIx b) : DE X XR E (.Subscript a b pos) (sBin ixD sa sb) :=
  ⟨pe_imp (pe_ix (IxR.or ix_list ix_tup) ha.run hb.run hs) (bin_lift od_ix)⟩
/-- own[i]: the list that the name's slot owns -/
def sOwnIx (i : Nat) (sb : SE) : SE := fun ρ R => match ρ.sl[i]? with
  | some (.own ds) => sb ρ fun y m => ∃ k z, y = .int k ∧ atI ds k = some z ∧ R z m
  | _ => False
theorem de_ownIx {i : Nat} (h : PE X a (tVar i)) (hb : DE X XR E b sb) (hs : PlainIx b) : DE X XR E (.Subscript a b pos) (sOwnIx i sb) := ⟨pe_imp (pe_ix ix_list h hb.run hs) fun σ H Q h => by
  obtain ⟨O, ρ, R, rel, hs, q, hx⟩ := h
  unfold sOwnIx at hs
  split at hs
  · rename_i ds hd
    obtain ⟨p, xs, e1, no, ep, da⟩ := rel.ok i _ hd
    refine ⟨_, join_get.mp e1, O, ρ, _, rel, hs, fun v H1 d m1 st dv hr => ?_, hx⟩
    obtain ⟨k, z, rfl, hk, hz⟩ := hr
    have da1 := dpa_same (rel.sameHide st) da
    obtain ⟨v', e2, hv⟩ := atI_all da1 hk
    have ep1 : H1 p = some (.lst xs) := st.keep p _ ep fun bb => no (rel.bagO bb).1
    exact ⟨p, xs, k, v', rfl, dv_int dv, .inl (.inl ep1), e2, q v' H1 z m1 st hv hz⟩
  · exact hs.elim⟩

/-! ### slices -/
abbrev SO := DEnv → (Option Int → Nat → Prop) → Prop
def liftO (K : PySem.W.Frag) (XR : XRT) (E : XK) (s : SO) : TO := fun σ H Q => ∃ (O : Addr → Prop) (ρ : DEnv) (R : Option Int → Nat → Prop), Rel K O H σ ρ ∧ s ρ R ∧
  (∀ o H' m', Step (BagOf σ ρ.sl) H H' ρ.m m' → R o m' → Q o H') ∧ XOk XR E σ ρ H
structure DO (X : Cx) (XR : XRT) (E : XK) (e : Option Expr) (s : SO) : Prop where
  run : PO X e (liftO X.K XR E s)
theorem po_imp {e : Option Expr} {t t' : TO} (h : PO X e t) (i : ∀ σ H Q, t' σ H Q → t σ H Q) : PO X e t' := ⟨fun pins s σ H Q I q => h.run pins s σ H Q I (i σ H Q q)⟩
def soNone : SO := fun ρ R => R none ρ.m
def soSome (s : SE) : SO := fun ρ R => s ρ fun d m => ∃ i, d = .int i ∧ R (some i) m
theorem do_none : DO X XR E none soNone := ⟨po_imp po_none fun σ H Q h => by
  obtain ⟨O, ρ, R, rel, hs, q, hx⟩ := h
  exact q none H ρ.m (Step.refl _ _ _) hs⟩
theorem do_some (h : DE X XR E e s) : DO X XR E (some e) (soSome s) := ⟨po_imp (po_some h.run) fun σ H Q h => by
  obtain ⟨O, ρ, R, rel, hs, q, hx⟩ := h
  refine ⟨O, ρ, _, rel, hs, fun v H1 d m1 st dv hr => ?_, hx⟩
  obtain ⟨i, rfl, hr⟩ := hr
  exact ⟨i, dv_int dv, q _ H1 m1 st hr⟩⟩
def cutD {α : Type} (xs : List α) (lo hi : Option Int) : List α := (xs.drop (HT.sIx xs.length 0 lo)).take (HT.sIx xs.length xs.length hi - HT.sIx xs.length 0 lo)
theorem dpa_cut {K : PySem.W.Frag} {H : Hp} {vs : List V} {ds : List D} (h : DvAll K H vs ds) (lo hi : Option Int) : DvAll K H (cutV vs lo hi) (cutD ds lo hi) := by
  unfold cutV cutD
  rw [dpa_len h]
  exact dpa_take _ (dpa_drop _ h)
def sliceD : D → Option Int → Option Int → Option D
  | .list xs, lo, hi => some (.list (cutD xs lo hi))
  | .tuple xs, lo, hi => some (.tuple (cutD xs lo hi))
  | _, _, _ => none
def sSlice (s : SE) (lo hi : SO) : SE := fun ρ R => s ρ fun d m1 => lo { ρ with m := m1 } fun i m2 => hi { ρ with m := m2 } fun j m3 => ∃ z, sliceD d i j = some z ∧ R z m3
theorem de_slice {lo hi : Option Expr} {slo shi : SO} {p2 : Pos} (h : DE X XR E e s) (hl : DO X XR E lo slo) (hh : DO X XR E hi shi) : DE X XR E (.Subscript e (.Slice lo hi none p2) pos) (sSlice s slo shi) :=
  ⟨pe_imp (pe_slice (SlR.or sl_list sl_tupA) h.run hl.run hh.run) fun σ H Q h => by
    obtain ⟨O, ρ, R, rel, hs, q, hx⟩ := h
    refine ⟨O, ρ, _, rel, hs, fun v H1 d m1 st dv hr => ⟨O, { ρ with m := m1 }, _, rel.step st, hr, fun i H2 m2 st2 hr2 => ⟨O, { ρ with m := m2 }, _, rel.step (st.trans st2), hr2, fun j H3 m3 st3 hr3 => ?_, hx.step (st.trans st2)⟩, hx.step st⟩, hx⟩
    obtain ⟨z, hz, hR⟩ := hr3
    have s13 : Step (BagOf σ ρ.sl) H1 H3 m1 m3 := st2.trans st3
    have dv3 := dp_same ((rel.step st).sameHide s13) dv
    have s03 := st.trans s13
    have r3 := rel.step s03
    cases d <;> simp only [sliceD] at hz <;> try (cases hz; done)
    · cases hz
      obtain ⟨p, xs, rfl, no, ep, da⟩ := dv_lst dv3
      exact .inl ⟨p, xs, rfl, .inl (.inl ep), fun p' n => q _ _ _ m3 (s03.trans (Step.same (same_new n))) (dv_newL (fun p hp => r3.owTrk hp) n (dpa_cut da i j)) hR⟩
    · cases hz
      obtain ⟨p, xs, rfl, et, et', da⟩ := dv_tup dv3
      refine .inr ⟨p, xs, rfl, et, fun e => ?_, fun _ p' n => q _ _ _ m3 (s03.trans (Step.same (same_new n))) (dv_newT (fun p hp => r3.owTrk hp) n (dpa_cut da i j)) hR⟩
      have ec := dpa_cut da i j
      have e1 : cutV xs i j = xs := by
        unfold cutV
        rw [e.1, e.2, Nat.sub_zero]
        exact List.take_length
      rw [e1] at ec
      exact q _ H3 _ m3 s03 (.tup et' ec) hR⟩

/-! ### displays -/
def sTup (s : SD) : SE := fun ρ R => s ρ fun ds m => lenOk ds.length ∧ R (.tuple ds) m
def sLen (s : SD) : SD := fun ρ R => s ρ fun ds m => lenOk ds.length ∧ R ds m
theorem de_tup {x1} (h : DD X XR E es sd) : DE X XR E (.Tuple es x1 pos) (sTup sd) := ⟨pe_imp (pe_tup h.run) fun σ H Q h => by
  obtain ⟨O, ρ, R, rel, hs, q, hx⟩ := h
  refine ⟨O, ρ, _, rel, hs, fun vs H1 ds m1 st dvs hr => ?_, hx⟩
  obtain ⟨hl, hr⟩ := hr
  exact ⟨by rw [dpa_len dvs]; exact hl.le, fun p n => q _ _ _ m1 (st.trans (Step.same (same_new n))) (dv_newT (fun p hp => (rel.step st).owTrk hp) n dvs) hr⟩⟩
/-- a list just laid: nobody else's -/
theorem newF {K : PySem.W.Frag} {O : Addr → Prop} {H : Hp} {p : Addr} {xs : List V} {ds : List D} (n : H p = none) (h : DvAll K (hide O H) xs ds) : DvAll K (hide (fun q => O q ∨ q = p) (upd H p (.lst xs))) xs ds :=
  dpa_same (same_hide fun q u ho e => ⟨fun z => z.elim ho (ne_of_none e n), same_new n q u e⟩) h
theorem df_lst (h : DD X XR E es sd) : DF X XR E (.List es pos) (sLen sd) := ⟨pe_imp (pe_lst h.run) fun σ H Q h => by
  obtain ⟨O, ρ, R, rel, hs, q, hx⟩ := h
  refine ⟨O, ρ, _, rel, hs, fun vs H1 ds m1 st dvs hr => ?_, hx⟩
  obtain ⟨hl, hr⟩ := hr
  exact ⟨by rw [dpa_len dvs]; exact hl.le, fun p n => q p vs _ ds m1 (st.trans (Step.same (same_new n))) (rel.newOf st n) upd_same (newF n dvs) hr⟩⟩

/-! ### calls of built-ins -/
def CallD (K : PySem.W.Frag) (r : List V → Hp → VK → Prop) (g : List D → Option D) : Prop := ∀ (O : Addr → Prop) (H : Hp) (vs : List V) (ds : List D) (z : D) (Q : VK), (∀ p, O p → ∃ o, H p = some o) →
  DvAll K (hide O H) vs ds → g ds = some z → (∀ v H', Same H H' → Dv K (hide O H') v z → Q v H') → r vs H Q
def CallF (K : PySem.W.Frag) (r : List V → Hp → VK → Prop) (g : List D → Option (List D)) : Prop := ∀ (O : Addr → Prop) (H : Hp) (vs : List V) (ds zs : List D) (Q : VK), (∀ p, O p → ∃ o, H p = some o) →
  DvAll K (hide O H) vs ds → g ds = some zs → (∀ p xs H', Same H H' → H p = none → H' p = some (.lst xs) → DvAll K (hide (fun q => O q ∨ q = p) H') xs zs → Q (.ref p) H') → r vs H Q
def sCallB (g : List D → Option D) (s : SD) : SE := fun ρ R => s ρ fun ds m => ∃ z, g ds = some z ∧ R z m
def sCallL (g : List D → Option (List D)) (s : SD) : SD := fun ρ R => s ρ fun ds m => ∃ z, g ds = some z ∧ R z m
theorem callB_lift {K : PySem.W.Frag} {r : List V → Hp → VK → Prop} {g : List D → Option D} (hd : CallD K r g) (σ : L2.St) (H : Hp) (Q : VK) (h : liftE K XR E (sCallB g sd) σ H Q) : tCB r (liftD K XR E sd) σ H Q := by
  obtain ⟨O, ρ, R, rel, hs, q, hx⟩ := h
  refine ⟨O, ρ, _, rel, hs, fun vs H1 ds m1 st dvs hr => ?_, hx⟩
  obtain ⟨z, hz, hr⟩ := hr
  exact hd _ H1 vs ds z Q (fun p hp => (rel.step st).owTrk hp) dvs hz fun v H2 sm dv => q v H2 z m1 (st.trans (Step.same sm)) dv hr
theorem callF_lift {K : PySem.W.Frag} {r : List V → Hp → VK → Prop} {g : List D → Option (List D)} (hd : CallF K r g) (σ : L2.St) (H : Hp) (Q : VK) (h : liftF K XR E (sCallL g sd) σ H Q) : tCB r (liftD K XR E sd) σ H Q := by
  obtain ⟨O, ρ, R, rel, hs, q, hx⟩ := h
  refine ⟨O, ρ, _, rel, hs, fun vs H1 ds m1 st dvs hr => ?_, hx⟩
  obtain ⟨z, hz, hr⟩ := hr
  exact hd _ H1 vs ds z Q (fun p hp => (rel.step st).owTrk hp) dvs hz fun p xs H2 sm n e dv => q p xs H2 z m1 (st.trans (Step.same sm)) (rel.newOf st n) e dv hr
variable {x : Str} {p : Pos} {id T : String} {r : List V → Hp → VK → Prop} {g : List D → Option D} {gf : List D → Option (List D)}
theorem de_callB (hc : CallR X (.builtin id) r) (hd : CallD X.K r g) (hg : Gl X x) (hm : X.mg x = none) (hv : bootBuiltins x = some (.builtin id)) (ha : DD X XR E (e :: es) sd) (hn : x ≠ "__name__" := by decide) (hdb : (x == ("__debug__" : Str)) = false := by decide)
    (he : starEach (e :: es) X.env = (false, eval e X.env) :: starEach es X.env := by rfl) (hpl : (backTo pos (starEach es X.env)).any (·.1) = false := by rfl) : DE X XR E (.Call (.Name x p) (e :: es) [] pos) (sCallB g sd) :=
  ⟨pe_imp (pe_callB hc hg hm hv ha.run hn hdb he hpl) (callB_lift hd)⟩
theorem df_callB (hc : CallR X (.builtin id) r) (hd : CallF X.K r gf) (hg : Gl X x) (hm : X.mg x = none) (hv : bootBuiltins x = some (.builtin id)) (ha : DD X XR E (e :: es) sd) (hn : x ≠ "__name__" := by decide) (hdb : (x == ("__debug__" : Str)) = false := by decide)
    (he : starEach (e :: es) X.env = (false, eval e X.env) :: starEach es X.env := by rfl) (hpl : (backTo pos (starEach es X.env)).any (·.1) = false := by rfl) : DF X XR E (.Call (.Name x p) (e :: es) [] pos) (sCallL gf sd) :=
  ⟨pe_imp (pe_callB hc hg hm hv ha.run hn hdb he hpl) (callF_lift hd)⟩
theorem de_callTy (hc : CallR X (.type T) r) (hd : CallD X.K r g) (hg : Gl X x) (hm : X.mg x = none) (hv : bootBuiltins x = some (.type T)) (ha : DD X XR E (e :: es) sd) (hn : x ≠ "__name__" := by decide) (hdb : (x == ("__debug__" : Str)) = false := by decide)
    (he : starEach (e :: es) X.env = (false, eval e X.env) :: starEach es X.env := by rfl) (hpl : (backTo pos (starEach es X.env)).any (·.1) = false := by rfl) : DE X XR E (.Call (.Name x p) (e :: es) [] pos) (sCallB g sd) :=
  ⟨pe_imp (pe_callTy hc hg hm hv ha.run hn hdb he hpl) (callB_lift hd)⟩
theorem df_callTy (hc : CallR X (.type T) r) (hd : CallF X.K r gf) (hg : Gl X x) (hm : X.mg x = none) (hv : bootBuiltins x = some (.type T)) (ha : DD X XR E (e :: es) sd) (hn : x ≠ "__name__" := by decide) (hdb : (x == ("__debug__" : Str)) = false := by decide)
    (he : starEach (e :: es) X.env = (false, eval e X.env) :: starEach es X.env := by rfl) (hpl : (backTo pos (starEach es X.env)).any (·.1) = false := by rfl) : DF X XR E (.Call (.Name x p) (e :: es) [] pos) (sCallL gf sd) :=
  ⟨pe_imp (pe_callTy hc hg hm hv ha.run hn hdb he hpl) (callF_lift hd)⟩

/-! the built-ins -/
def itemsD : D → Option (List D)
  | .list xs => some xs
  | .tuple xs => some xs
  | _ => none
def intsOf : List D → Option (List Int)
  | [] => some []
  | .int i :: ds => (intsOf ds).map (i :: ·)
  | _ => none
theorem intsOf_map : ∀ ns : List Int, intsOf (ns.map .int) = some ns
  | [] => rfl
  | n :: ns => by
    show (intsOf (ns.map .int)).map (n :: ·) = _
    rw [intsOf_map ns]
    rfl
theorem of_intsOf : ∀ {ds : List D} {ns : List Int}, intsOf ds = some ns → ds = ns.map .int
  | [], _, h => by cases h; rfl
  | .int i :: ds, ns, h => by
    unfold intsOf at h
    cases q : intsOf ds with
    | none =>
      rw [q] at h
      cases h
    | some ms =>
      rw [q] at h
      cases h
      rw [of_intsOf q]
      rfl
  | .none :: _, _, h => by cases h
  | .bool _ :: _, _, h => by cases h
  | .str _ :: _, _, h => by cases h
  | .list _ :: _, _, h => by cases h
  | .tuple _ :: _, _, h => by cases h
  | .dict _ :: _, _, h => by cases h
def boolsOf : List D → Option (List Bool)
  | [] => some []
  | .bool i :: ds => (boolsOf ds).map (i :: ·)
  | _ => none
theorem boolsOf_map : ∀ ns : List Bool, boolsOf (ns.map .bool) = some ns
  | [] => rfl
  | n :: ns => by
    show (boolsOf (ns.map .bool)).map (n :: ·) = _
    rw [boolsOf_map ns]
    rfl
theorem of_boolsOf : ∀ {ds : List D} {ns : List Bool}, boolsOf ds = some ns → ds = ns.map .bool
  | [], _, h => by cases h; rfl
  | .bool i :: ds, ns, h => by
    unfold boolsOf at h
    cases q : boolsOf ds with
    | none =>
      rw [q] at h
      cases h
    | some ms =>
      rw [q] at h
      cases h
      rw [of_boolsOf q]
      rfl
  | .none :: _, _, h => by cases h
  | .int _ :: _, _, h => by cases h
  | .str _ :: _, _, h => by cases h
  | .list _ :: _, _, h => by cases h
  | .tuple _ :: _, _, h => by cases h
  | .dict _ :: _, _, h => by cases h
theorem dva_one {K : PySem.W.Frag} {H : Hp} {vs : List V} {d : D} (h : DvAll K H vs [d]) : ∃ v, vs = [v] ∧ Dv K H v d := by
  cases h with
  | cons h t =>
    cases t
    exact ⟨_, rfl, h⟩
def lenB : List D → Option D
  | [.list xs] => some (.int xs.length)
  | [.tuple xs] => some (.int xs.length)
  | _ => none
theorem cd_len {K : PySem.W.Frag} : CallD K (fun xs H Q => ∃ p ys, xs = [V.ref p] ∧ (SqL K H p ys ∨ SqT K H p ys) ∧ Q (.int ys.length) H) lenB := by
  intro O H vs ds z Q trk hv hz q
  unfold lenB at hz
  split at hz <;> cases hz
  · obtain ⟨v, rfl, h⟩ := dva_one hv
    obtain ⟨p, xs, rfl, no, ep, da⟩ := dv_lst h
    refine ⟨p, xs, rfl, .inl (.inl (.inl ep)), ?_⟩
    rw [dpa_len da]
    exact q _ H (Same.refl H) (.int _)
  · obtain ⟨v, rfl, h⟩ := dva_one hv
    obtain ⟨p, xs, rfl, ep, _, da⟩ := dv_tup h
    refine ⟨p, xs, rfl, .inr ep, ?_⟩
    rw [dpa_len da]
    exact q _ H (Same.refl H) (.int _)
def sumB : List D → Option D
  | [.list xs] => (intsOf xs).map fun ns => .int ns.sum
  | [.tuple xs] => (intsOf xs).map fun ns => .int ns.sum
  | _ => none
theorem cd_sum {K : PySem.W.Frag} : CallD K (fun xs H Q => rSum K xs H Q ∨ rSumT K xs H Q) sumB := by
  intro O H vs ds z Q trk hv hz q
  unfold sumB at hz
  split at hz
  · obtain ⟨v, rfl, h⟩ := dva_one hv
    obtain ⟨p, xs, rfl, no, ep, da⟩ := dv_lst h
    obtain ⟨ns, e, rfl⟩ := Option.map_eq_some_iff.mp hz
    cases of_intsOf e
    rw [dpa_ints da] at ep
    exact .inl ⟨p, ns, rfl, .inl (.inl ep), q _ H (Same.refl H) (.int _)⟩
  · obtain ⟨v, rfl, h⟩ := dva_one hv
    obtain ⟨p, xs, rfl, ep, _, da⟩ := dv_tup h
    obtain ⟨ns, e, rfl⟩ := Option.map_eq_some_iff.mp hz
    cases of_intsOf e
    rw [dpa_ints da] at ep
    exact .inr ⟨p, ns, rfl, ep, q _ H (Same.refl H) (.int _)⟩
  · cases hz
def foldB (f : Int → Int → Int) : List D → Option D
  | [d] => match (itemsD d).bind intsOf with
    | some (n :: ns) => some (.int (ns.foldl f n))
    | _ => none
  | _ => none
theorem foldB_some {f : Int → Int → Int} {ds : List D} {z : D} (h : foldB f ds = some z) : ∃ n ns, (ds = [.list ((n :: ns).map .int)] ∨ ds = [.tuple ((n :: ns).map .int)]) ∧ z = .int (ns.foldl f n) := by
  unfold foldB at h
  split at h
  · rename_i d
    split at h
    · rename_i n ns e
      cases h
      refine ⟨n, ns, ?_, rfl⟩
      cases d <;> simp only [itemsD, Option.bind_some, Option.bind_none] at e <;> try (cases e; done)
      · exact .inl (by rw [of_intsOf e])
      · exact .inr (by rw [of_intsOf e])
    · cases h
  · cases h
theorem cd_min {K : PySem.W.Frag} : CallD K (rMinP K) (foldB min) := by
  intro O H vs ds z Q trk hv hz q
  obtain ⟨n, ns, h, rfl⟩ := foldB_some hz
  rcases h with rfl | rfl
  · obtain ⟨v, rfl, h⟩ := dva_one hv
    exact ⟨v, n, ns, rfl, .inl (dp_same hide_sub h), q _ H (Same.refl H) (.int _)⟩
  · obtain ⟨v, rfl, h⟩ := dva_one hv
    exact ⟨v, n, ns, rfl, .inr (dp_same hide_sub h), q _ H (Same.refl H) (.int _)⟩
theorem cd_max {K : PySem.W.Frag} : CallD K (rMaxP K) (foldB max) := by
  intro O H vs ds z Q trk hv hz q
  obtain ⟨n, ns, h, rfl⟩ := foldB_some hz
  rcases h with rfl | rfl
  · obtain ⟨v, rfl, h⟩ := dva_one hv
    exact ⟨v, n, ns, rfl, .inl (dp_same hide_sub h), q _ H (Same.refl H) (.int _)⟩
  · obtain ⟨v, rfl, h⟩ := dva_one hv
    exact ⟨v, n, ns, rfl, .inr (dp_same hide_sub h), q _ H (Same.refl H) (.int _)⟩
/-- max, min of two ints -/
def fold2B (f : Int → Int → Int) : List D → Option D
  | [.int i, .int j] => some (.int (f i j))
  | _ => none
theorem dva_two {K : PySem.W.Frag} {H : Hp} {vs : List V} {d e : D} (h : DvAll K H vs [d, e]) : ∃ v w, vs = [v, w] ∧ Dv K H v d ∧ Dv K H w e := by
  cases h with
  | cons h t =>
    obtain ⟨w, rfl, h2⟩ := dva_one t
    exact ⟨_, _, rfl, h, h2⟩
theorem cd_max2 {K : PySem.W.Frag} : CallD K (fun xs H Q => ∃ i j, xs = [V.int i, .int j] ∧ Q (.int (if j > i then j else i)) H) (fold2B max) := by
  intro O H vs ds z Q trk hv hz q
  unfold fold2B at hz
  split at hz <;> cases hz
  obtain ⟨v, w, rfl, h1, h2⟩ := dva_two hv
  refine ⟨_, _, by rw [dv_int h1, dv_int h2], ?_⟩
  rename_i i j
  rw [show (if j > i then j else i) = max i j by split <;> omega]
  exact q _ H (Same.refl H) (.int _)
theorem cd_min2 {K : PySem.W.Frag} : CallD K (fun xs H Q => ∃ i j, xs = [V.int i, .int j] ∧ Q (.int (if j < i then j else i)) H) (fold2B min) := by
  intro O H vs ds z Q trk hv hz q
  unfold fold2B at hz
  split at hz <;> cases hz
  obtain ⟨v, w, rfl, h1, h2⟩ := dva_two hv
  refine ⟨_, _, by rw [dv_int h1, dv_int h2], ?_⟩
  rename_i i j
  rw [show (if j < i then j else i) = min i j by split <;> omega]
  exact q _ H (Same.refl H) (.int _)
open Classical in
noncomputable def sortB : List D → Option (List D)
  | [d] => match itemsD d with
    | some xs => if SortOk xs then some (xs.mergeSort (PySem.W.dataLe false fun d : D => d)) else none
    | none => none
  | _ => none
theorem one_items {K : PySem.W.Frag} {H : Hp} {v : V} {d : D} {xs : List D} (h : Dv K H v d) (e : itemsD d = some xs) : Dv K H v (.list xs) ∨ Dv K H v (.tuple xs) := by
  cases d <;> simp only [itemsD] at e <;> try (cases e; done)
  · cases e; exact .inl h
  · cases e; exact .inr h
theorem cf_sort {K : PySem.W.Frag} : CallF K (rSortP K) sortB := by
  intro O H vs ds z Q trk hv hz q
  unfold sortB at hz
  split at hz
  · rename_i d
    split at hz
    · rename_i xs e
      split at hz <;> cases hz
      rename_i so
      obtain ⟨v, rfl, h⟩ := dva_one hv
      exact ⟨O, v, xs, rfl, one_items h e, so, fun p ws n hw => q p ws _ (same_new n) n upd_same (newF n hw)⟩
    · cases hz
  · cases hz
/-- list(x), tuple(x) of a list or a tuple -/
def listB : List D → Option (List D)
  | [d] => itemsD d
  | _ => none
theorem cf_list {K : PySem.W.Frag} : CallF K (fun xs H Q => ∃ p ys, xs = [V.ref p] ∧ (SqL K H p ys ∨ SqT K H p ys) ∧ ∀ l, H l = none → Q (.ref l) (upd H l (.lst ys))) listB := by
  intro O H vs ds z Q trk hv hz q
  unfold listB at hz
  split at hz
  · obtain ⟨v, rfl, h⟩ := dva_one hv
    rcases one_items h hz with h | h
    · obtain ⟨a, xs, rfl, no, ha, hall⟩ := dv_lst h
      exact ⟨a, xs, rfl, .inl (.inl (.inl ha)), fun p n => q p xs _ (same_new n) n upd_same (newF n hall)⟩
    · obtain ⟨a, xs, rfl, ha, _, hall⟩ := dv_tup h
      exact ⟨a, xs, rfl, .inr ha, fun p n => q p xs _ (same_new n) n upd_same (newF n hall)⟩
  · cases hz
def tupleB : List D → Option D
  | [d] => (itemsD d).map .tuple
  | _ => none
theorem cd_tuple {K : PySem.W.Frag} : CallD K (fun xs H Q => ∃ p ys, xs = [V.ref p] ∧ ((SqL K H p ys ∧ ∀ l, H l = none → Q (.ref l) (upd H l (.tup ys))) ∨ (SqT K H p ys ∧ Q (.ref p) H))) tupleB := by
  intro O H vs ds z Q trk hv hz q
  unfold tupleB at hz
  split at hz
  · obtain ⟨v, rfl, h⟩ := dva_one hv
    obtain ⟨xs, e, rfl⟩ := Option.map_eq_some_iff.mp hz
    rcases one_items h e with h | h
    · obtain ⟨a, xs, rfl, no, ha, hall⟩ := dv_lst h
      exact ⟨a, xs, rfl, .inl ⟨.inl (.inl ha), fun p n => q _ _ (same_new n) (dv_newT trk n hall)⟩⟩
    · obtain ⟨a, xs, rfl, ha, ha', hall⟩ := dv_tup h
      exact ⟨a, xs, rfl, .inr ⟨ha, q _ H (Same.refl H) (.tup ha' hall)⟩⟩
  · cases hz
def allB : List D → Option D
  | [.list xs] => (boolsOf xs).map fun bs => .bool (bs.all _root_.id)
  | _ => none
theorem cd_all {K : PySem.W.Frag} : CallD K (rAll K) allB := by
  intro O H vs ds z Q trk hv hz q
  unfold allB at hz
  split at hz
  · obtain ⟨v, rfl, h⟩ := dva_one hv
    obtain ⟨p, xs, rfl, no, ep, da⟩ := dv_lst h
    obtain ⟨bs, e, rfl⟩ := Option.map_eq_some_iff.mp hz
    cases of_boolsOf e
    rw [dpa_bools da] at ep
    exact ⟨p, bs, rfl, .inl (.inl ep), q _ H (Same.refl H) (.bl _)⟩
  · cases hz
def intB : List D → Option D
  | [.int i] => some (.int i)
  | [.bool k] => some (.int (if k then 1 else 0))
  | _ => none
theorem cd_int {K : PySem.W.Frag} : CallD K (fun xs H Q => (∃ i, xs = [V.int i] ∧ Q (.int i) H) ∨ ∃ k, xs = [.bl k] ∧ Q (.int (if k then 1 else 0)) H) intB := by
  intro O H vs ds z Q trk hv hz q
  unfold intB at hz
  split at hz <;> cases hz
  · obtain ⟨v, rfl, h⟩ := dva_one hv
    exact .inl ⟨_, by rw [dv_int h], q _ H (Same.refl H) (.int _)⟩
  · obtain ⟨v, rfl, h⟩ := dva_one hv
    exact .inr ⟨_, by rw [dv_bool h], q _ H (Same.refl H) (.int _)⟩
/-- isinstance(e, T) -/
def sIsa (f : D → Bool) (s : SE) : SE := fun ρ R => s ρ fun d m => R (.bool (f d)) m
theorem isa_lift {K : PySem.W.Frag} {T : String} {f : D → Bool} (σ : L2.St) (H : Hp) (Q : VK) (h : liftE K XR E (sIsa f s) σ H Q) : tCB (rIsaP K T f) (tCons (liftE K XR E s) (tCons (tC (.ty T)) tNil)) σ H Q := by
  obtain ⟨O, ρ, R, rel, hs, q, hx⟩ := h
  exact ⟨O, ρ, _, rel, hs, fun v H1 d m1 st dv hr => ⟨v, d, rfl, dp_same hide_sub dv, q _ H1 _ m1 st (.bl _) hr⟩, hx⟩
theorem de_isa {t : Expr} {f : D → Bool} (hc : CallR X (.builtin "isinstance") (rIsaP X.K T f)) (hg : Gl X "isinstance") (hm : X.mg "isinstance" = none) (ha : DE X XR E e s) (ht : PE X t (tC (.ty T)))
    (he : starEach [e, t] X.env = (false, eval e X.env) :: starEach [t] X.env := by rfl) (he2 : starEach [t] X.env = (false, eval t X.env) :: starEach [] X.env := by rfl) (hpl : (backTo pos (starEach [t] X.env)).any (·.1) = false := by rfl) : DE X XR E (.Call (.Name "isinstance" p) [e, t] [] pos) (sIsa f s) :=
  ⟨pe_imp (pe_callB hc hg hm (by decide +kernel) (pa_cons ha.run (pa_cons ht pa_nil he2) he) (by decide) (by decide) he hpl) isa_lift⟩
end
end DL
set_option maxHeartbeats 1000000
/-! The data layer, part g: what a loop walks: lists and tuples, ranges, enumerate, zip in any mix. -/
namespace PySem
section
set_option maxHeartbeats 1000000 in
theorem dl_meets_enum1 {v : Value} {o : Obj} {H : Heap → Prop} (B : Begins v o H) :
    Meets (Builtin.«enumerate.__new__» ⟨[.type "enumerate", v], []⟩) (fun _ R s => H s.heap ∧
      R (.ok (.ret (.ref (s.heap.push o).objs.size))) { s with heap := (s.heap.push o).push { cls := .type "enumerate", data := .fields #[.none, .bool false, .ref s.heap.objs.size, rawInt 0, .none, .none] } }) :=
  .of_wp fun prog w A R s h => by
    obtain ⟨hp, g, d, tk, os⟩ := s; obtain ⟨h1, h⟩ := h
    have hsub := sub_enumerate
    have q1 : ∀ {A' : Around} {E : Value → Shared → Prop} {Q : Value → Shared → Prop}, Q (.ref hp.objs.size) ⟨hp.push o, g, d, tk, os⟩ → wpAny (model prog w) A' (pyIter v) Q E ⟨hp, g, d, tk, os⟩ :=
      fun q => B.iter prog w _ _ ⟨hp, g, d, tk, os⟩ _ h1 q
    wp_walk using q1
    refine wpAny_stack_any fun st => wpAny_pure ?_
    split
    · rename_i c _ _ _ _ _
      cases (c == Value.type "enumerate")
      · wp_walk using q1
        exact ⟨_, rfl, h⟩
      · wp_walk using q1
        exact ⟨_, rfl, h⟩
    · wp_walk using q1
      exact ⟨_, rfl, h⟩
variable {prog : Program} {w : World} {A : Around} {E : Value → Shared → Prop} {s : Shared}
theorem dl_enum_begins {v : Value} {o : Obj} {H : Heap → Prop} {Q : Value → Shared → Prop} (B : Begins v o H) (h1 : H s.heap)
    (h : ∀ h', IsEnum h' (s.heap.objs.size + 1) s.heap.objs.size 0 .none → h'.get? s.heap.objs.size = some o → h'.objs.size = s.heap.objs.size + 2 →
      (∀ b o, s.heap.get? b = some o → h'.get? b = some o) → Q (.ref (s.heap.objs.size + 1)) { s with heap := h' }) :
    wpAny (model prog w) A (call (.type "enumerate") [v]) Q E s := by
  refine callType_new F.called_enumerate (by decide) (F.typeCall_enumerate_1 _) (F.newCall_enumerate_1 _) (fun obj => F.args_object_init_2 obj _) F.entry_enumerate_new
    (dl_meets_enum1 B) ⟨h1, ?_⟩
  have z1 : (s.heap.push o).objs.size = s.heap.objs.size + 1 := Heap.size_push ..
  show _ ∧ _
  rw [z1]
  have ie : IsEnum ((s.heap.push o).push { cls := .type "enumerate", data := .fields #[.none, .bool false, .ref s.heap.objs.size, rawInt 0, .none, .none] }) (s.heap.objs.size + 1) s.heap.objs.size 0 .none := by
    have q := Heap.get?_push_size (s.heap.push o) (o := { cls := .type "enumerate", data := .fields #[.none, .bool false, .ref s.heap.objs.size, rawInt 0, .none, .none] }) rfl
    rw [z1] at q
    exact q
  exact ⟨⟨_, ie, rfl⟩, h _ ie (Heap.get?_push_of_some _ (Heap.get?_push_size _ B.free)) (by rw [Heap.size_push, z1]) fun b o x => Heap.get?_push_of_some _ (Heap.get?_push_of_some _ x)⟩
end
end PySem
namespace DL
open PySem PySem.Spec PyProof.Rows L2

/-! ### sequences of one kind or the other -/
def SqK (K : PySem.W.Frag) (H : Hp) (k : Bool) (a : Addr) (xs : List V) : Prop := match k with
  | true => SqL K H a xs
  | false => SqT K H a xs
def SqC (h : Heap) (k : Bool) (a : Addr) (its : Array Value) : Prop := match k with
  | true => h.IsList a its
  | false => h.IsTuple a its
def ItC (h : Heap) (k : Bool) (it a : Addr) (i : Nat) : Prop := match k with
  | true => h.IsListIter it a i
  | false => h.IsTupleIter it a i
def itObj (k : Bool) (a : Addr) : Obj := match k with
  | true => { cls := .type "list_iterator", data := .fields #[.ref a, .int 0 0] }
  | false => { cls := .type "tuple_iterator", data := .fields #[.ref a, .int 0 0] }
section
variable {X : Cx} {pins : List (Addr × Obj)} {σ : L2.St} {H : Hp} {s : Shared} {h h' : Heap} {k : Bool} {a it : Addr} {xs ys : List V} {i : Nat}
theorem sqk_c (I : Inv X pins σ H s) (q : SqK X.K H k a xs) : ∃ its : List Value, Vals xs its ∧ SqC s.heap k a its.toArray := by
  cases k with
  | true =>
    obtain ⟨its, rv, hl, _⟩ := I.list q
    exact ⟨its, rv, hl.isList⟩
  | false =>
    obtain ⟨its, rv, hl, _⟩ := I.tuple q
    exact ⟨its, rv, hl⟩
theorem sqk_inj (I : Inv X pins σ H s) (q : SqK X.K H k a xs) (q' : SqK X.K H k a ys) : xs = ys := by
  cases k with
  | true => exact I.list_inj q q'
  | false => exact I.tuple_inj q q'
theorem SqC.lt {its : Array Value} (q : SqC h k a its) : a < h.objs.size := by
  cases k with
  | true => obtain ⟨_, e, _⟩ := q; exact Heap.lt_size e
  | false => obtain ⟨_, e, _⟩ := q; exact Heap.lt_size e
theorem SqC.keep {its : Array Value} (q : SqC h k a its) (kp : ∀ o, h.get? a = some o → h'.get? a = some o) : SqC h' k a its := by
  cases k with
  | true => obtain ⟨o, e, r⟩ := q; exact ⟨o, kp o e, r⟩
  | false => obtain ⟨o, e, r⟩ := q; exact ⟨o, kp o e, r⟩
theorem itc_keep (q : ItC h k it a i) (kp : ∀ o, h.get? it = some o → h'.get? it = some o) : ItC h' k it a i := by
  cases k with
  | true => exact Heap.IsListIter.at q fun o e => kp o e
  | false => exact Heap.IsTupleIter.at q fun o e => kp o e
theorem itc_obj (q : ItC h k it a i) : ∃ o, h.get? it = some o ∧ ∀ v, o.data ≠ .cell v := by
  cases k with
  | true => obtain ⟨o, e, _, d⟩ := q; exact ⟨o, e, fun v z => by rw [d] at z; cases z⟩
  | false => obtain ⟨o, e, _, d⟩ := q; exact ⟨o, e, fun v z => by rw [d] at z; cases z⟩
theorem itc_new (e : h.get? it = some (itObj k a)) : ItC h k it a 0 := by
  cases k with
  | true => exact ⟨_, e, rfl, rfl⟩
  | false => exact ⟨_, e, rfl, rfl⟩
theorem begins_k (k : Bool) (a : Addr) (its : Array Value) : Begins (.ref a) (itObj k a) (fun h => SqC h k a its) := by
  cases k with
  | true => exact begins_list a its
  | false => exact begins_tuple a its
theorem draws_k {prog : Program} {w : World} {A : Around} (hh : A.handled = none) (k : Bool) (it a : Addr) (hne : a ≠ it) (its : Array Value) :
    Draws prog w A it [it, a] its.size (fun i v => its[i]? = some v) (fun i h => ItC h k it a i ∧ SqC h k a its) := by
  cases k with
  | true => exact Draws.list hh it a hne its
  | false => exact Draws.tuple hh it a hne its
end

theorem turnedMany {X : Cx} {pins : List (Addr × Obj)} {σ : L2.St} {H : Hp} {s : Shared} {h' : Heap} {tk : Nat} {ch : List Addr} (I : Inv X pins σ H s) (hk : ∀ b o, b ∉ ch → s.heap.get? b = some o → h'.get? b = some o) (hf : ∀ b ∈ ch, FpOk X pins H b) :
    Inv X pins σ H { s with heap := h', toks := tk } := by
  refine I.step (g' := s.gens) (d' := s.drawn) (ch := ch) (fun b hb => ⟨(hf b hb).2.2.2.1, (hf b hb).2.1, (hf b hb).2.2.2.2.1, (hf b hb).2.2.2.2.2⟩) (fun b o _ _ hcb eb _ => hk b o hcb eb) (fun b o _ _ hcb eb _ => ⟨o.slots, hk b o hcb eb⟩)
    (fun _ _ _ _ n => n) (fun b o hcb eb => ⟨o, hk b o hcb eb⟩) (fun _ _ z => z) (fun _ _ _ z => z) (fun b ps z => ⟨#[], by rw [z]; simp⟩) (fun m hm => ?_) (fun b u eb => ?_) I.bare
  · obtain ⟨o, es, ep, ho, r⟩ := hm
    exact ⟨o, es, ep, hk _ o (fun z => (hf _ z).2.1 rfl) ho, r⟩
  · refine (I.hok b u eb).stay (fun c v hcc q => hk c v (fun z => ?_) q) (fun _ q => q) fun _ _ q => q
    have f0 := (hf c z).1
    rcases hcc with q | q
    · rw [q, eb] at f0
      cases f0
    · rw [q] at f0
      cases f0

/-! ### enumerate -/
def ItE (K : PySem.W.Frag) (k : Bool) (a : Addr) : It :=
  ⟨fun i H => ∃ xs x, SqK K H k a xs ∧ xs[i]? = some x,
    fun i H v H' => ∃ T x, v = .ref T ∧ H T = none ∧ H' = upd H T (.tup [.int (i : Nat), x]) ∧ ∀ xs, SqK K H k a xs → xs[i]? = some x,
    fun i H => ∃ xs : List V, SqK K H k a xs ∧ xs.length = i⟩
theorem turn_E {P : Program} {w : World} {K : PySem.W.Frag} {elts : List Expr} {kk : Nat} {tpos : Pos} {k : Bool} {a e it : Addr} :
    Turn P w K (.Tuple elts kk tpos) (ItE K k a) [e, it] e (fun i h => (e ≠ it ∧ a ≠ it ∧ a ≠ e) ∧ (∃ old, IsEnum h e it (0 + (i : Int)) old) ∧ ItC h k it a i) where
  mem := by simp
  obj := fun i h st b hb => by
    obtain ⟨_, ⟨old, he⟩, hi⟩ := st
    rcases List.mem_cons.mp hb with q | q
    · rw [q]
      exact ⟨_, he, fun v z => nomatch z⟩
    · rw [List.mem_singleton.mp q]
      exact itc_obj hi
  keep := fun i h h' st kp => by
    obtain ⟨ne, ⟨old, he⟩, hi⟩ := st
    exact ⟨ne, ⟨old, kp e (by simp) _ he⟩, itc_keep hi fun o q => kp it (by simp) o q⟩
  item := by
    intro X hP hw hK hc i pins s σ H E I hf st hg
    subst hP hw hK
    obtain ⟨ne, he, hi⟩ := st
    obtain ⟨xs, x, hq, hx⟩ := hg
    obtain ⟨its, rv, hs⟩ := sqk_c I hq
    obtain ⟨u, hu, ru⟩ := rv.get hx
    have G := GoesN.enumFrom (elts := elts) (x1 := kk) (pos := tpos) 0 (draws_k (prog := X.prog) (w := X.w) (A := X.A.in1) (I.ok.hd hc) k it a ne.2.1 its.toArray) e ne.1 (by simp [ne.1, Ne.symm ne.2.2]) (by simp)
    have hil : i < its.toArray.size := by
      have := (List.getElem?_eq_some_iff.mp hu).1
      simpa using this
    refine wpAny_mono (G.goes i s _ E hil ⟨he, hi, hs⟩ fun v h' tk hY hst hk htk => ?_) (fun r s1 q => q) (fun _ _ q => q)
    obtain ⟨T, t, x', rfl, hT, hx', hTT⟩ := hY
    have exu : x' = u := by
      have : its.toArray[i]? = some u := by simpa using hu
      rw [hx'] at this
      exact Option.some.inj this
    subst exu
    have new : ObjOk X.prog X.w (upd H T (.tup [.int (i : Nat), x])) h' T (.tup [.int (i : Nat), x]) :=
      ⟨by show 2 ≤ sizeLine; decide, [.int (0 + (i : Int)) t, x'], .cons ⟨t, by rw [Int.zero_add]⟩ (.cons ru .nil), hTT⟩
    have I1 : Inv X pins σ (upd H T (.tup [.int (i : Nat), x])) { s with heap := h', toks := tk } :=
      I.turnedNew (ch := [e, it]) (fun b o hb q => hk b o hb q) hf hT new
    refine ⟨.ref T, _, I1, rfl, ⟨T, x, rfl, I.hok.fresh hT, rfl, fun l hl => by rw [sqk_inj I hl hq]; exact hx⟩, ⟨ne, hst.1, hst.2.1⟩, fun b hb => ?_⟩
    obtain ⟨f0, _⟩ := hf b hb
    have nb : b ≠ T := by
      rintro rfl
      have hl : ∃ o, s.heap.get? b = some o := by
        rcases List.mem_cons.mp hb with q | q
        · rw [q]
          obtain ⟨old, he⟩ := he
          exact ⟨_, he⟩
        · rw [List.mem_singleton.mp q]
          obtain ⟨o, eo, _⟩ := itc_obj hi
          exact ⟨o, eo⟩
      obtain ⟨o, eo⟩ := hl
      exact absurd (Nat.lt_of_lt_of_le (Heap.lt_size eo) hT) (Nat.lt_irrefl _)
    rw [upd_ne nb]
    exact f0
  done := by
    intro X hP hw hK hc i pins s σ H E I hf st hg
    subst hP hw hK
    obtain ⟨ne, he, hi⟩ := st
    obtain ⟨xs, hq, hx⟩ := hg
    obtain ⟨its, rv, hs⟩ := sqk_c I hq
    have G := GoesN.enumFrom (elts := elts) (x1 := kk) (pos := tpos) 0 (draws_k (prog := X.prog) (w := X.w) (A := X.A.in1) (I.ok.hd hc) k it a ne.2.1 its.toArray) e ne.1 (by simp [ne.1, Ne.symm ne.2.2]) (by simp)
    have hl : its.toArray.size = i := by
      rw [← hx, rv.length]
      simp
    have q := G.stops s (fun s1 => Inv X pins σ H s1) E
    rw [hl] at q
    refine q ⟨he, hi, hs⟩ fun h' tk hk htk => ?_
    exact turnedMany I hk hf
  self := fun _ _ _ _ _ st h => by
    obtain ⟨_, ⟨old, he⟩, _⟩ := st
    exact wpAny_pyIter_enum he h

/-! ### zip of two -/
def ItZ (K : PySem.W.Frag) (k1 : Bool) (a : Addr) (k2 : Bool) (b : Addr) : It :=
  ⟨fun i H => ∃ xs ys x y, SqK K H k1 a xs ∧ SqK K H k2 b ys ∧ xs[i]? = some x ∧ ys[i]? = some y,
    fun i H v H' => ∃ T x y, v = .ref T ∧ H T = none ∧ H' = upd H T (.tup [x, y]) ∧ (∀ xs, SqK K H k1 a xs → xs[i]? = some x) ∧ (∀ ys, SqK K H k2 b ys → ys[i]? = some y),
    fun i H => ∃ xs ys : List V, SqK K H k1 a xs ∧ SqK K H k2 b ys ∧ min xs.length ys.length = i⟩
theorem turn_Z {P : Program} {w : World} {K : PySem.W.Frag} {elts : List Expr} {kk : Nat} {tpos : Pos} {k1 k2 : Bool} {a b z TI TO i1 i2 : Addr} :
    Turn P w K (.Tuple elts kk tpos) (ItZ K k1 a k2 b) [z, TI, TO, i1, i2] z
      (fun i h => (ZipSep2 z TI TO i1 i2 [i1, a] [i2, b] ∧ a ≠ i1 ∧ b ≠ i2) ∧ IsZip h z TI TO .none ∧ IsTupOf2 h TI (.ref i1) (.ref i2) ∧ (∃ a1 a2, IsTupOf2 h TO a1 a2) ∧ ItC h k1 i1 a i ∧ ItC h k2 i2 b i) where
  mem := by simp
  obj := fun i h st c hc => by
    obtain ⟨_, hz, hTI, ⟨x, y, hTO⟩, h1, h2⟩ := st
    simp only [List.mem_cons, List.not_mem_nil, or_false] at hc
    rcases hc with q | q | q | q | q
    · rw [q]; exact ⟨_, hz, fun v q => nomatch q⟩
    · rw [q]; exact ⟨_, hTI, fun v q => nomatch q⟩
    · rw [q]; exact ⟨_, hTO, fun v q => nomatch q⟩
    · rw [q]; exact itc_obj h1
    · rw [q]; exact itc_obj h2
  keep := fun i h h' st kp => by
    obtain ⟨ne, hz, hTI, ⟨x, y, hTO⟩, h1, h2⟩ := st
    exact ⟨ne, kp z (by simp) _ hz, kp TI (by simp) _ hTI, ⟨x, y, kp TO (by simp) _ hTO⟩, itc_keep h1 fun o q => kp i1 (by simp) o q, itc_keep h2 fun o q => kp i2 (by simp) o q⟩
  item := by
    intro X hP hw hK hc i pins s σ H E I hf st hg
    subst hP hw hK
    obtain ⟨ne, hz, hTI, hTO, h1, h2⟩ := id st
    obtain ⟨xs, ys, x, y, hqx, hqy, hx, hy⟩ := hg
    obtain ⟨its, rv, hs⟩ := sqk_c I hqx
    obtain ⟨u, hu, ru⟩ := rv.get hx
    obtain ⟨its2, rv2, hs2⟩ := sqk_c I hqy
    obtain ⟨u2, hu2, ru2⟩ := rv2.get hy
    have G := GoesN.zip2 (elts := elts) (x1 := kk) (pos := tpos) ne.1 (draws_k (prog := X.prog) (w := X.w) (A := X.A.in1) (I.ok.hd hc) k1 i1 a ne.2.1 its.toArray) (draws_k (prog := X.prog) (w := X.w) (A := X.A.in1) (I.ok.hd hc) k2 i2 b ne.2.2 its2.toArray)
    have hil : i < min its.toArray.size its2.toArray.size := by
      have q1 := (List.getElem?_eq_some_iff.mp hu).1
      have q2 := (List.getElem?_eq_some_iff.mp hu2).1
      simp only [List.size_toArray]
      exact Nat.lt_min.mpr ⟨q1, q2⟩
    refine wpAny_mono (G.goes i s _ E hil ⟨hz, hTI, hTO, ⟨h1, hs⟩, ⟨h2, hs2⟩⟩ fun v h' tk hY hst hk htk => ?_) (fun r s1 q => q) (fun _ _ q => q)
    obtain ⟨T, x', y', rfl, hT, hx', hy', hTT⟩ := hY
    have exu : x' = u := by
      have : its.toArray[i]? = some u := by simpa using hu
      rw [hx'] at this
      exact Option.some.inj this
    have eyu : y' = u2 := by
      have : its2.toArray[i]? = some u2 := by simpa using hu2
      rw [hy'] at this
      exact Option.some.inj this
    subst exu eyu
    have new : ObjOk X.prog X.w (upd H T (.tup [x, y])) h' T (.tup [x, y]) :=
      ⟨by show 2 ≤ sizeLine; decide, [x', y'], .cons ru (.cons ru2 .nil), hTT⟩
    have sub : ∀ c, c ∈ [z, TO, i1, i2] → c ∈ [z, TI, TO, i1, i2] := fun c hcm => by
      simp only [List.mem_cons, List.not_mem_nil, or_false] at hcm ⊢
      rcases hcm with q | q | q | q
      · exact .inl q
      · exact .inr (.inr (.inl q))
      · exact .inr (.inr (.inr (.inl q)))
      · exact .inr (.inr (.inr (.inr q)))
    have I1 : Inv X pins σ (upd H T (.tup [x, y])) { s with heap := h', toks := tk } :=
      I.turnedNew (ch := [z, TO, i1, i2]) (fun b o hb q => hk b o hb q) (fun c hcm => hf c (sub c hcm)) hT new
    refine ⟨.ref T, _, I1, rfl, ⟨T, x, y, rfl, I.hok.fresh hT, rfl, fun l hl => by rw [sqk_inj I hl hqx]; exact hx, fun l hl => by rw [sqk_inj I hl hqy]; exact hy⟩, ⟨ne, hst.1, hst.2.1, hst.2.2.1, hst.2.2.2.1.1, hst.2.2.2.2.1⟩, fun c hcm => ?_⟩
    obtain ⟨f0, _⟩ := hf c hcm
    have nb : c ≠ T := by
      rintro rfl
      have hl : ∃ o, s.heap.get? c = some o := by
        obtain ⟨x0, y0, hTO⟩ := hTO
        simp only [List.mem_cons, List.not_mem_nil, or_false] at hcm
        rcases hcm with q | q | q | q | q
        · rw [q]; exact ⟨_, hz⟩
        · rw [q]; exact ⟨_, hTI⟩
        · rw [q]; exact ⟨_, hTO⟩
        · rw [q]
          obtain ⟨o, eo, _⟩ := itc_obj h1
          exact ⟨o, eo⟩
        · rw [q]
          obtain ⟨o, eo, _⟩ := itc_obj h2
          exact ⟨o, eo⟩
      obtain ⟨o, eo⟩ := hl
      exact absurd (Nat.lt_of_lt_of_le (Heap.lt_size eo) hT) (Nat.lt_irrefl _)
    rw [upd_ne nb]
    exact f0
  done := by
    intro X hP hw hK hc i pins s σ H E I hf st hg
    subst hP hw hK
    obtain ⟨ne, hz, hTI, hTO, h1, h2⟩ := id st
    obtain ⟨xs, ys, hqx, hqy, hxy⟩ := hg
    obtain ⟨its, rv, hs⟩ := sqk_c I hqx
    obtain ⟨its2, rv2, hs2⟩ := sqk_c I hqy
    have G := GoesN.zip2 (elts := elts) (x1 := kk) (pos := tpos) ne.1 (draws_k (prog := X.prog) (w := X.w) (A := X.A.in1) (I.ok.hd hc) k1 i1 a ne.2.1 its.toArray) (draws_k (prog := X.prog) (w := X.w) (A := X.A.in1) (I.ok.hd hc) k2 i2 b ne.2.2 its2.toArray)
    have hl : min its.toArray.size its2.toArray.size = i := by
      rw [← hxy, rv.length, rv2.length]
      simp
    have q := G.stops s (fun s1 => Inv X pins σ H s1) E
    rw [hl] at q
    refine q ⟨hz, hTI, hTO, ⟨h1, hs⟩, ⟨h2, hs2⟩⟩ fun h' tk hk htk => ?_
    refine turnedMany (ch := [z, TO, i1, i2]) I hk fun c hcm => hf c ?_
    simp only [List.mem_cons, List.not_mem_nil, or_false] at hcm ⊢
    rcases hcm with q | q | q | q
    · exact .inl q
    · exact .inr (.inr (.inl q))
    · exact .inr (.inr (.inr (.inl q)))
    · exact .inr (.inr (.inr (.inr q)))
  self := fun _ _ _ _ _ st h => wpAny_pyIter_zip st.2.1 h
end DL
set_option maxHeartbeats 1000000
/-! The data layer, part h: loops' sources on data; list comprehensions. -/
namespace DL
open PySem PySem.Spec PyProof.Rows L2

section
variable {X : Cx} {tg : Expr}
def iSeqK (K : PySem.W.Frag) (tl : TE) : TI := fun σ H R => tl σ H fun x H1 => ∃ k a, x = .ref a ∧ (∃ xs, SqK K H1 k a xs) ∧ R (cond k (Itl K a) (Itt K a)) H1
theorem pi_seqK {l : Expr} {tl : TE} (hl : PE X l tl) : PI X tg l (iSeqK X.K tl) := by
  refine ⟨fun pins s σ H R I h => ?_⟩
  refine thn (hl.run pins s σ H _ I h) fun v s1 ⟨x, H1, I1, r1, q1⟩ => ?_
  obtain ⟨k, a, rfl, ⟨xs, hq⟩, q⟩ := q1
  cases r1
  cases k with
  | true =>
    obtain ⟨its, rv, p, hz⟩ := I1.list hq
    refine wpAny_pyIter_list p.isList ⟨s1.heap.objs.size, [s1.heap.objs.size], _, _, H1, rfl, I1.kept (t' := s1.toks) fun b o e => Heap.get?_push_of_some _ e, turn_list a _, ⟨_, Heap.get?_push_size _ rfl, rfl, rfl⟩, fun b hb => ?_, q⟩
    rw [List.mem_singleton.mp hb]
    exact I1.fpOk (Nat.le_refl _) (I1.hok.fresh (Nat.le_refl _))
  | false =>
    obtain ⟨its, rv, p, hz⟩ := I1.tuple hq
    refine wpAny_pyIter_tuple (show s1.heap.IsTuple a its.toArray from p) ⟨s1.heap.objs.size, [s1.heap.objs.size], _, _, H1, rfl, I1.kept (t' := s1.toks) fun b o e => Heap.get?_push_of_some _ e, turn_tuple a _, ⟨_, Heap.get?_push_size _ rfl, rfl, rfl⟩, fun b hb => ?_, q⟩
    rw [List.mem_singleton.mp hb]
    exact I1.fpOk (Nat.le_refl _) (I1.hok.fresh (Nat.le_refl _))
def iEnumK (K : PySem.W.Frag) (ta : TA) : TI := fun σ H R => ta σ H fun vs H1 => ∃ k a, vs = [.ref a] ∧ (∃ xs, SqK K H1 k a xs) ∧ R (ItE K k a) H1
theorem pi_enumK {e : Expr} {ta : TA} {p pos tpos : Pos} {elts : List Expr} {kk : Nat} (hg : Gl X "enumerate") (hm : X.mg "enumerate" = none) (ha : PA X [e] ta) (hs : starEach [e] X.env = [(false, eval e X.env)] := by rfl) :
    PI X (.Tuple elts kk tpos) (.Call (.Name "enumerate" p) [e] [] pos) (iEnumK X.K ta) := by
  refine ⟨fun pins s σ H R I h => ?_⟩
  refine Call_ (ld_blt I hg hm boot_enumerate (PyProof.Rows.callWith_type1 (thn (ha.run pos pins s σ H _ I h) fun us s1 ⟨vs, H1, I1, r1, q1⟩ => ?_) hs rfl))
  obtain ⟨k, a, rfl, ⟨xs, hq⟩, q⟩ := q1
  obtain ⟨u, rfl, ru⟩ := vals1 r1
  cases ru
  obtain ⟨its, rv, hc⟩ := sqk_c I1 hq
  refine dl_enum_begins (begins_k k a its.toArray) hc fun h' he hit hsz hk => wpAny_pyIter_enum he ?_
  have I2 : Inv X pins σ H1 { s1 with heap := h' } := I1.kept (t' := s1.toks) hk
  refine ⟨s1.heap.objs.size + 1, [s1.heap.objs.size + 1, s1.heap.objs.size], _, _, H1, rfl, I2, turn_E (k := k) (a := a) (e := s1.heap.objs.size + 1) (it := s1.heap.objs.size), ⟨⟨Nat.succ_ne_self _, Nat.ne_of_lt hc.lt, Nat.ne_of_lt (Nat.lt_succ_of_lt hc.lt)⟩, ⟨.none, he⟩, itc_new hit⟩, fun b hb => ?_, q⟩
  have hle : s1.heap.objs.size ≤ b := by
    rcases List.mem_cons.mp hb with z | z
    · rw [z]; exact Nat.le_add_right _ _
    · rw [List.mem_singleton.mp z]; exact Nat.le_refl _
  exact I1.fpOk hle (I1.hok.fresh hle)
def iZipK (K : PySem.W.Frag) (ta : TA) : TI := fun σ H R => ta σ H fun vs H1 => ∃ k1 a k2 b, vs = [.ref a, .ref b] ∧ (∃ xs, SqK K H1 k1 a xs) ∧ (∃ ys, SqK K H1 k2 b ys) ∧ R (ItZ K k1 a k2 b) H1
theorem pi_zipK {e e2 : Expr} {ta : TA} {p pos tpos : Pos} {elts : List Expr} {kk : Nat} (hg : Gl X "zip") (hm : X.mg "zip" = none) (ha : PA X [e, e2] ta) (hs : starEach [e, e2] X.env = [(false, eval e X.env), (false, eval e2 X.env)] := by rfl)
    (hs2 : starEach [e2] X.env = [(false, eval e2 X.env)] := by rfl) : PI X (.Tuple elts kk tpos) (.Call (.Name "zip" p) [e, e2] [] pos) (iZipK X.K ta) := by
  refine ⟨fun pins s σ H R I h => ?_⟩
  refine Call_ (ld_blt I hg hm boot_zip (PyProof.Rows.callWith_type1 (thn (ha.run pos pins s σ H _ I h) fun us s1 ⟨vs, H1, I1, r1, q1⟩ => ?_) (by rw [hs, hs2]) (by rw [hs2]; rfl)))
  obtain ⟨k1, a, k2, b, rfl, ⟨xs, hqx⟩, ⟨ys, hqy⟩, q⟩ := q1
  obtain ⟨u, u2, rfl, ru, ru2⟩ := vals2 r1
  cases ru
  cases ru2
  obtain ⟨its, rv, hc⟩ := sqk_c I1 hqx
  obtain ⟨its2, rv2, hc2⟩ := sqk_c I1 hqy
  refine zip_begins2 (begins_k k1 a its.toArray) (begins_k k2 b its2.toArray) hc hc2 fun h' hz hTI hTO h1 h2 hsz hk => wpAny_pyIter_zip hz ?_
  have I2 : Inv X pins σ H1 { s1 with heap := h' } := I1.kept (t' := s1.toks) hk
  have hb1 : ∀ c ∈ [a], c < s1.heap.objs.size := fun c hcm => by rw [List.mem_singleton.mp hcm]; exact hc.lt
  have hb2 : ∀ c ∈ [b], c < s1.heap.objs.size := fun c hcm => by rw [List.mem_singleton.mp hcm]; exact hc2.lt
  refine ⟨s1.heap.objs.size + 4, [s1.heap.objs.size + 4, s1.heap.objs.size + 2, s1.heap.objs.size + 3, s1.heap.objs.size, s1.heap.objs.size + 1], _, _, H1, rfl, I2,
    turn_Z (k1 := k1) (k2 := k2) (a := a) (b := b) (z := s1.heap.objs.size + 4) (TI := s1.heap.objs.size + 2) (TO := s1.heap.objs.size + 3) (i1 := s1.heap.objs.size) (i2 := s1.heap.objs.size + 1),
    ⟨⟨zip_sep2 hb1 hb2, Nat.ne_of_lt hc.lt, Nat.ne_of_lt (Nat.lt_succ_of_lt hc2.lt)⟩, hz, hTI, ⟨_, _, hTO⟩, itc_new h1, itc_new h2⟩, fun c hcm => ?_, q⟩
  have hle : s1.heap.objs.size ≤ c := by
    simp only [List.mem_cons, List.not_mem_nil, or_false] at hcm
    rcases hcm with z | z | z | z | z
    · rw [z]; exact Nat.le_add_right _ _
    · rw [z]; exact Nat.le_add_right _ _
    · rw [z]; exact Nat.le_add_right _ _
    · rw [z]; exact Nat.le_refl _
    · rw [z]; exact Nat.le_add_right _ _
  exact I1.fpOk hle (I1.hok.fresh hle)
end

/-! ### walked data -/
def YD (K : PySem.W.Frag) (O : Addr → Prop) (H0 : Hp) (ds : List D) : Nat → Hp → V → Hp → Prop := fun i H x H' => ∃ d, ds[i]? = some d ∧
  ((H' = H ∧ Dv K (hide O H0) x d) ∨ ∃ T ys es, x = .ref T ∧ H T = none ∧ H' = upd H T (.tup ys) ∧ d = .tuple es ∧ DvAll K (hide O H0) ys es)
def WalkD (K : PySem.W.Frag) (O : Addr → Prop) (J : It) (ds : List D) (H0 : Hp) : Prop := Walk J ds.length (fun H => Same (hide O H0) H) (YD K O H0 ds)
section
variable {K : PySem.W.Frag} {O : Addr → Prop} {H H0 : Hp}
theorem sqk_of {d : D} {v : V} {ds : List D} (h : Dv K (hide O H) v d) (e : itemsD d = some ds) : ∃ k a xs, v = .ref a ∧ SqK K H k a xs ∧ SqK K (hide O H) k a xs ∧ DvAll K (hide O H) xs ds := by
  rcases one_items h e with h | h
  · obtain ⟨a, xs, rfl, no, ha, hall⟩ := dv_lst h
    exact ⟨true, a, xs, rfl, .inl (.inl ha), .inl (.inl (hide_some.mpr ⟨no, ha⟩)), hall⟩
  · obtain ⟨a, xs, rfl, ha, ha', hall⟩ := dv_tup h
    exact ⟨false, a, xs, rfl, ha, ha', hall⟩
theorem sqk_same {k : Bool} {a : Addr} {xs : List V} {H' : Hp} (s : Same H H') (q : SqK K H k a xs) : SqK K H' k a xs := by
  cases k with
  | true => exact s.seq q
  | false => exact sqt_same s q
theorem walkD_seq {k : Bool} {a : Addr} {xs : List V} {ds : List D} (q : SqK K (hide O H) k a xs) (hall : DvAll K (hide O H) xs ds) : WalkD K O (cond k (Itl K a) (Itt K a)) ds H := by
  have hl := dpa_len hall
  have hy : ∀ i H1 x H2, YAt xs i H1 x H2 → YD K O H ds i H1 x H2 := fun i H1 x H2 y => by
    obtain ⟨d, e, hd⟩ := dpa_get' hall y.2
    exact ⟨d, e, .inl ⟨y.1, hd⟩⟩
  cases k with
  | true =>
    have w := (walk_list (K := K) (a := a) (xs := xs)).mono (G' := fun H1 => Same (hide O H) H1) (Y' := YD K O H ds) (fun H1 sm => sm.seq q) fun i H1 x H2 hi g y => hy i H1 x H2 y
    rw [hl] at w
    exact w
  | false =>
    have w := (walk_tup (K := K) (a := a) (xs := xs)).mono (G' := fun H1 => Same (hide O H) H1) (Y' := YD K O H ds) (fun H1 sm => sqt_same sm q) fun i H1 x H2 hi g y => hy i H1 x H2 y
    rw [hl] at w
    exact w
def enumD : Nat → List D → List D
  | _, [] => []
  | i, x :: xs => .tuple [.int (i : Int), x] :: enumD (i + 1) xs
theorem enumD_len : ∀ (xs : List D) (i : Nat), (enumD i xs).length = xs.length
  | [], _ => rfl
  | x :: xs, i => by
    show (enumD (i + 1) xs).length + 1 = xs.length + 1
    rw [enumD_len xs]
theorem enumD_get : ∀ (xs : List D) (j i : Nat) (x : D), xs[i]? = some x → (enumD j xs)[i]? = some (.tuple [.int ((j + i : Nat) : Int), x])
  | [], _, _, _, h => by simp at h
  | x :: xs, j, 0, y, h => by
    cases h
    rfl
  | x :: xs, j, i + 1, y, h => by
    have := enumD_get xs (j + 1) i y (by simpa using h)
    show (enumD (j + 1) xs)[i]? = _
    rw [this, show j + 1 + i = j + (i + 1) by omega]
theorem walkD_enum {k : Bool} {a : Addr} {xs : List V} {ds : List D} (q : SqK K (hide O H) k a xs) (hall : DvAll K (hide O H) xs ds) : WalkD K O (ItE K k a) (enumD 0 ds) H := by
  have hl := dpa_len hall
  refine ⟨fun i H1 hi sm => ?_, fun H1 sm => ?_, fun i H1 x H2 hi sm y => ?_⟩
  · rw [enumD_len] at hi
    have hi' : i < xs.length := by omega
    exact ⟨xs, xs[i], sqk_same sm q, List.getElem?_eq_getElem hi'⟩
  · exact ⟨xs, sqk_same sm q, by rw [enumD_len]; exact hl⟩
  · obtain ⟨T, x', rfl, hT, rfl, hx⟩ := y
    obtain ⟨d, e, hd⟩ := dpa_get' hall (hx xs (sqk_same sm q))
    refine ⟨_, enumD_get ds 0 i d e, .inr ⟨T, _, _, rfl, hT, rfl, rfl, .cons ?_ (.cons hd .nil)⟩⟩
    rw [Nat.zero_add]
    exact .int _
def zipD (xs ys : List D) : List D := List.zipWith (fun x y => .tuple [x, y]) xs ys
theorem walkD_zip {k1 k2 : Bool} {a b : Addr} {xs ys : List V} {ds es : List D} (q1 : SqK K (hide O H) k1 a xs) (h1 : DvAll K (hide O H) xs ds) (q2 : SqK K (hide O H) k2 b ys) (h2 : DvAll K (hide O H) ys es) : WalkD K O (ItZ K k1 a k2 b) (zipD ds es) H := by
  have l1 := dpa_len h1
  have l2 := dpa_len h2
  have hz : (zipD ds es).length = min xs.length ys.length := by
    unfold zipD
    rw [List.length_zipWith, l1, l2]
  refine ⟨fun i H1 hi sm => ?_, fun H1 sm => ?_, fun i H1 x H2 hi sm y => ?_⟩
  · rw [hz] at hi
    have i1 : i < xs.length := by omega
    have i2 : i < ys.length := by omega
    exact ⟨xs, ys, xs[i], ys[i], sqk_same sm q1, sqk_same sm q2, List.getElem?_eq_getElem i1, List.getElem?_eq_getElem i2⟩
  · exact ⟨xs, ys, sqk_same sm q1, sqk_same sm q2, hz.symm⟩
  · obtain ⟨T, x', y', rfl, hT, rfl, hx, hy⟩ := y
    obtain ⟨d, e, hd⟩ := dpa_get' h1 (hx xs (sqk_same sm q1))
    obtain ⟨d', e', hd'⟩ := dpa_get' h2 (hy ys (sqk_same sm q2))
    refine ⟨.tuple [d, d'], ?_, .inr ⟨T, _, _, rfl, hT, rfl, rfl, .cons hd (.cons hd' .nil)⟩⟩
    unfold zipD
    rw [List.getElem?_zipWith, e, e']
def rangeD (lo : Int) (n : Nat) : List D := (List.range n).map fun (i : Nat) => PyData.int (lo + (i : Int))
theorem rangeD_get (lo : Int) (n i : Nat) (h : i < n) : (rangeD lo n)[i]? = some (.int (lo + (i : Int))) := by
  unfold rangeD
  rw [List.getElem?_map, List.getElem?_range h]
  rfl
theorem walkD_range {lo : Int} {n : Nat} : WalkD K O (Itr lo n) (rangeD lo n) H := by
  have hl : (rangeD lo n).length = n := by simp [rangeD]
  refine ⟨fun i H1 hi sm => by rw [hl] at hi; exact hi, fun H1 sm => by rw [hl]; exact Nat.le_refl _, fun i H1 x H2 hi sm y => ?_⟩
  rw [hl] at hi
  obtain ⟨rfl, rfl⟩ := y
  exact ⟨_, rangeD_get lo n i hi, .inl ⟨rfl, .int _⟩⟩
end
/-! ### sources -/
def liftI (K : PySem.W.Frag) (XR : XRT) (E : XK) (s : SD) : TI := fun σ H R' => ∃ (O : Addr → Prop) (ρ : DEnv) (R : List D → Nat → Prop), Rel K O H σ ρ ∧ s ρ R ∧
  (∀ J H' ds m', Step (BagOf σ ρ.sl) H H' ρ.m m' → WalkD K (Ow O σ ρ.sl) J ds H' → R ds m' → R' J H') ∧ XOk XR E σ ρ H
structure DI (X : Cx) (XR : XRT) (E : XK) (tg iter : Expr) (s : SD) : Prop where
  run : PI X tg iter (liftI X.K XR E s)
theorem pi_imp {X : Cx} {tg iter : Expr} {t t' : TI} (h : PI X tg iter t) (i : ∀ σ H Q, t' σ H Q → t σ H Q) : PI X tg iter t' := ⟨fun pins s σ H Q I q => h.run pins s σ H Q I (i σ H Q q)⟩
def siSeq (s : SE) : SD := fun ρ R => s ρ fun d m => ∃ xs, itemsD d = some xs ∧ R xs m
def siEnum (s : SE) : SD := fun ρ R => s ρ fun d m => ∃ xs, itemsD d = some xs ∧ R (enumD 0 xs) m
def siZip (s t : SE) : SD := fun ρ R => s ρ fun d m1 => t { ρ with m := m1 } fun e m2 => ∃ xs ys, itemsD d = some xs ∧ itemsD e = some ys ∧ R (zipD xs ys) m2
def siRange1 (s : SE) : SD := fun ρ R => s ρ fun d m => ∃ j : Int, d = .int j ∧ (-1000000000 ≤ j ∧ j ≤ 1000000000) ∧ R (rangeD 0 j.toNat) m
def siRange2 (s t : SE) : SD := fun ρ R => s ρ fun d m1 => t { ρ with m := m1 } fun e m2 => ∃ i j : Int, d = .int i ∧ e = .int j ∧ (-1000000000 ≤ i ∧ i ≤ 1000000000) ∧ (-1000000000 ≤ j ∧ j ≤ 1000000000) ∧ R (rangeD i (j - i).toNat) m2
section
variable {X : Cx} {XR : XRT} {E : XK} {tg a b e : Expr} {s sa sb : SE} {p pos tpos : Pos} {elts : List Expr} {kk : Nat}
theorem di_seq (h : DE X XR E e s) : DI X XR E tg e (siSeq s) := ⟨pi_imp (pi_seqK h.run) fun σ H Q h => by
  obtain ⟨O, ρ, R, rel, hs, q, hx⟩ := h
  refine ⟨O, ρ, _, rel, hs, fun v H1 d m1 st dv hr => ?_, hx⟩
  obtain ⟨xs, e, hr⟩ := hr
  obtain ⟨k, a, ys, rfl, q1, q2, hall⟩ := sqk_of dv e
  exact ⟨k, a, rfl, ⟨ys, q1⟩, q _ H1 xs m1 st (walkD_seq q2 hall) hr⟩⟩
theorem di_enum (hg : Gl X "enumerate") (hm : X.mg "enumerate" = none) (h : DE X XR E e s) (hs : starEach [e] X.env = [(false, eval e X.env)] := by rfl) (hs' : starEach [e] X.env = (false, eval e X.env) :: starEach [] X.env := by rfl) :
    DI X XR E (.Tuple elts kk tpos) (.Call (.Name "enumerate" p) [e] [] pos) (siEnum s) := ⟨pi_imp (pi_enumK hg hm (pa_cons h.run pa_nil hs') hs) fun σ H Q h => by
  obtain ⟨O, ρ, R, rel, hs, q, hx⟩ := h
  refine ⟨O, ρ, _, rel, hs, fun v H1 d m1 st dv hr => ?_, hx⟩
  obtain ⟨xs, e, hr⟩ := hr
  obtain ⟨k, a, ys, rfl, q1, q2, hall⟩ := sqk_of dv e
  exact ⟨k, a, rfl, ⟨ys, q1⟩, q _ H1 _ m1 st (walkD_enum q2 hall) hr⟩⟩
theorem di_zip (hg : Gl X "zip") (hm : X.mg "zip" = none) (ha : DE X XR E a sa) (hb : DE X XR E b sb) (hs : starEach [a, b] X.env = [(false, eval a X.env), (false, eval b X.env)] := by rfl) (hs2 : starEach [b] X.env = [(false, eval b X.env)] := by rfl)
    (hs' : starEach [a, b] X.env = (false, eval a X.env) :: starEach [b] X.env := by rfl) (hs2' : starEach [b] X.env = (false, eval b X.env) :: starEach [] X.env := by rfl) :
    DI X XR E (.Tuple elts kk tpos) (.Call (.Name "zip" p) [a, b] [] pos) (siZip sa sb) := ⟨pi_imp (pi_zipK hg hm (pa_cons ha.run (pa_cons hb.run pa_nil hs2') hs') hs hs2) fun σ H Q h => by
  obtain ⟨O, ρ, R, rel, hs, q, hx⟩ := h
  refine ⟨O, ρ, _, rel, hs, fun v H1 d m1 st dv hr => ⟨O, { ρ with m := m1 }, _, rel.step st, hr, fun w H2 e m2 st2 dw hr2 => ?_, hx.step st⟩, hx⟩
  obtain ⟨xs, ys, e1, e2, hr2⟩ := hr2
  obtain ⟨k1, a, vs, rfl, q1, q1', hall⟩ := sqk_of (dp_same ((rel.step st).sameHide st2) dv) e1
  obtain ⟨k2, b, ws, rfl, q2, q2', hall2⟩ := sqk_of dw e2
  exact ⟨k1, a, k2, b, rfl, ⟨vs, q1⟩, ⟨ws, q2⟩, q _ H2 _ m2 (st.trans st2) (walkD_zip q1' hall q2' hall2) hr2⟩⟩
theorem di_range1 (hg : Gl X "range") (hm : X.mg "range" = none) (h : DE X XR E a s) (hs : starEach [a] X.env = [(false, eval a X.env)] := by rfl) (hs' : starEach [a] X.env = (false, eval a X.env) :: starEach [] X.env := by rfl) :
    DI X XR E tg (.Call (.Name "range" p) [a] [] pos) (siRange1 s) := ⟨pi_imp (pi_range1 hg hm (pa_cons h.run pa_nil hs') hs) fun σ H Q h => by
  obtain ⟨O, ρ, R, rel, hs, q, hx⟩ := h
  refine ⟨O, ρ, _, rel, hs, fun v H1 d m1 st dv hr => ?_, hx⟩
  obtain ⟨j, rfl, hj, hr⟩ := hr
  exact ⟨j, by rw [dv_int dv], by omega, by omega, q _ H1 _ m1 st walkD_range hr⟩⟩
theorem di_range2 (hg : Gl X "range") (hm : X.mg "range" = none) (ha : DE X XR E a sa) (hb : DE X XR E b sb) (hs : starEach [a, b] X.env = [(false, eval a X.env), (false, eval b X.env)] := by rfl) (hs2 : starEach [b] X.env = [(false, eval b X.env)] := by rfl)
    (hs' : starEach [a, b] X.env = (false, eval a X.env) :: starEach [b] X.env := by rfl) (hs2' : starEach [b] X.env = (false, eval b X.env) :: starEach [] X.env := by rfl) :
    DI X XR E tg (.Call (.Name "range" p) [a, b] [] pos) (siRange2 sa sb) := ⟨pi_imp (pi_range2 hg hm (pa_cons ha.run (pa_cons hb.run pa_nil hs2') hs') hs hs2) fun σ H Q h => by
  obtain ⟨O, ρ, R, rel, hs, q, hx⟩ := h
  refine ⟨O, ρ, _, rel, hs, fun v H1 d m1 st dv hr => ⟨O, { ρ with m := m1 }, _, rel.step st, hr, fun w H2 e m2 st2 dw hr2 => ?_, hx.step st⟩, hx⟩
  obtain ⟨i, j, rfl, rfl, hi, hj, hr2⟩ := hr2
  exact ⟨i, j, by rw [dv_int dv, dv_int dw], ⟨by omega, by omega, by omega, by omega⟩, q _ H2 _ m2 (st.trans st2) walkD_range hr2⟩⟩
end
end DL
set_option maxHeartbeats 1000000
/-! The data layer, part i: stores, comprehensions. -/
namespace DL
open PySem PySem.Spec PyProof.Rows L2

/-- a statement's step -/
structure StepS (σ : L2.St) (ρ : DEnv) (H : Hp) (σ' : L2.St) (ρ' : DEnv) (H' : Hp) : Prop where
  keep : ∀ p o, H p = some o → ¬ MutAt σ ρ.sl p → H' p = some o
  bag : ∀ p, BagOf σ ρ.sl p → BagAt H' p ρ'.m
  own : ∀ p, OwnAt σ' ρ'.sl p → OwnAt σ ρ.sl p ∨ H p = none
  bgs : ∀ p, BagOf σ' ρ'.sl p → BagOf σ ρ.sl p
  le : ρ.m ≤ ρ'.m
  F : ρ'.F = ρ.F
  nw : ∀ p, H' p = none → H p = none
section
variable {K : PySem.W.Frag} {O : Addr → Prop} {H H' H'' : Hp} {σ σ' σ'' : L2.St} {ρ ρ' ρ'' : DEnv} {m m' : Nat} {XR : XRT} {E : XK}
theorem StepS.of (r : Rel K O H σ ρ) (s : Step (BagOf σ ρ.sl) H H' ρ.m m') : StepS σ ρ H σ { ρ with m := m' } H' :=
  ⟨fun p o e n => s.keep p o e fun b => n (.inr b), fun p b => s.bag p b (r.bagO b).2, fun p o => .inl o, fun p b => b, s.le, rfl, fun p n => r.newOf s n⟩
theorem StepS.mut (s : StepS σ ρ H σ' ρ' H') {p : Addr} {o : HO} (e : H p = some o) (n : ¬ MutAt σ ρ.sl p) : ¬ MutAt σ' ρ'.sl p := fun z => by
  rcases z with z | z
  · rcases s.own p z with z | z
    · exact n (.inl z)
    · rw [e] at z
      cases z
  · exact n (.inr (s.bgs p z))
theorem StepS.trans (r : Rel K O H σ ρ) (a : StepS σ ρ H σ' ρ' H') (r' : Rel K O H' σ' ρ') (b : StepS σ' ρ' H' σ'' ρ'' H'') : StepS σ ρ H σ'' ρ'' H'' where
  keep := fun p o e n => b.keep p o (a.keep p o e n) (a.mut e n)
  bag := fun p h => by
    have h1 := a.bag p h
    by_cases z : BagOf σ' ρ'.sl p
    · exact b.bag p z
    · have nm : ¬ MutAt σ' ρ'.sl p := fun q => by
        rcases q with q | q
        · exact (r'.ownO q).1 (r.bagO h).1
        · exact z q
      exact (h1.same fun o e => b.keep p o e nm).le b.le
  own := fun p h => by
    rcases b.own p h with h | h
    · exact a.own p h
    · exact .inr (a.nw p h)
  bgs := fun p h => a.bgs p (b.bgs p h)
  le := Nat.le_trans a.le b.le
  F := b.F.trans a.F
  nw := fun p h => a.nw p (b.nw p h)
theorem XOk.stepS (h : XOk XR E σ ρ H) (s : StepS σ ρ H σ' ρ' H') : XOk XR E σ' ρ' H' := fun x c a H2 f r k =>
  h x c a H2 (s.F ▸ f) r fun p o e n => k p o (s.keep p o e n) (s.mut e n)

/-! ### a slot is set -/
theorem set_self {α : Type} {l : List α} {i : Nat} {x y : α} (h : (l.set i x)[i]? = some y) : y = x ∧ i < l.length := by
  by_cases e : i < l.length
  · rw [List.getElem?_set_self e] at h
    exact ⟨(Option.some.inj h).symm, e⟩
  · rw [List.getElem?_eq_none (by rw [List.length_set]; omega)] at h
    cases h
theorem set_ne {α : Type} {l : List α} {i j : Nat} {x y : α} (h : (l.set i x)[j]? = some y) (n : i ≠ j) : l[j]? = some y := by
  rw [List.getElem?_set_ne n] at h
  exact h
/-- the owned of the new environment: the old ones, and those that the new slot brings -/
theorem own_set {i : Nat} {v : V} {sl : List Slot} {s : Slot} {p : Addr} (h : OwnAt (σ.set i (some v)) (sl.set i s) p) : (s.isOwn = true ∧ v = .ref p) ∨ OwnAt σ sl p := by
  obtain ⟨j, t, h1, h2, h3⟩ := h
  by_cases e : i = j
  · subst e
    obtain ⟨e1, _⟩ := set_self h1
    obtain ⟨e2, _⟩ := set_self h2
    subst e2
    exact .inl ⟨h3, (Option.some.inj e1).symm⟩
  · exact .inr ⟨j, t, set_ne h1 e, set_ne h2 e, h3⟩
theorem bag_set {i : Nat} {v : V} {sl : List Slot} {s : Slot} {p : Addr} (h : BagOf (σ.set i (some v)) (sl.set i s) p) : (s = .bag ∧ v = .ref p) ∨ BagOf σ sl p := by
  obtain ⟨j, h1, h2⟩ := h
  by_cases e : i = j
  · subst e
    obtain ⟨e1, _⟩ := set_self h1
    obtain ⟨e2, _⟩ := set_self h2
    exact .inl ⟨e2.symm, (Option.some.inj e1).symm⟩
  · exact .inr ⟨j, set_ne h1 e, set_ne h2 e⟩
/-- a datum is stored -/
theorem Rel.setDat (r : Rel K O H σ ρ) {i : Nat} {v : V} {d : D} (hd : Dv K (hide (Ow O σ ρ.sl) H) v d) : Rel K O H (σ.set i (some v)) { ρ with sl := ρ.sl.set i (.dat d) } := by
  have ow : ∀ p, Ow O (σ.set i (some v)) (ρ.sl.set i (.dat d)) p → Ow O σ ρ.sl p := fun p h => by
    rcases h with h | h
    · exact .inl h
    · rcases own_set h with ⟨h, _⟩ | h
      · cases h
      · exact .inr h
  have sh : Same (hide (Ow O σ ρ.sl) H) (hide (Ow O (σ.set i (some v)) (ρ.sl.set i (.dat d))) H) := same_hide fun p o n e => ⟨fun z => n (ow p z), e⟩
  refine ⟨by simp [r.len], r.trk, fun j s f => ?_, fun a b p s t ne h1 h2 h3 h4 h5 h6 => ?_⟩
  · by_cases e : i = j
    · subst e
      obtain ⟨rfl, hl⟩ := set_self f
      have hl' : i < σ.length := by rw [← r.len]; exact hl
      refine ⟨v, ?_, dp_same sh hd⟩
      rw [List.getElem?_set_self hl']
      rfl
    · have f' := set_ne f e
      have h := r.ok j s f'
      rw [List.getElem?_set_ne e]
      cases s with
      | un => trivial
      | dat d => obtain ⟨x, e1, q⟩ := h; exact ⟨x, e1, dp_same sh q⟩
      | own ds => obtain ⟨p, xs, e1, n, e2, q⟩ := h; exact ⟨p, xs, e1, n, e2, dpa_same sh q⟩
      | bag => exact h
      | raw w => exact h
  · have fx : ∀ (c : Nat) (u : Slot), (ρ.sl.set i (.dat d))[c]? = some u → u.isOwn = true → i ≠ c := fun c u h1 h2 e => by
      subst e
      obtain ⟨rfl, _⟩ := set_self h1
      cases h2
    have na := fx a s h2 h3
    have nb := fx b t h5 h6
    exact r.sep a b p s t ne (set_ne h1 na) (set_ne h2 na) h3 (set_ne h4 nb) (set_ne h5 nb) h6
theorem StepS.setDat {i : Nat} {v : V} {d : D} : StepS σ ρ H (σ.set i (some v)) { ρ with sl := ρ.sl.set i (.dat d) } H ↔ (∀ p, BagOf σ ρ.sl p → BagAt H p ρ.m) := by
  refine ⟨fun s => s.bag, fun hb => ⟨fun _ _ e _ => e, hb, fun p h => ?_, fun p h => ?_, Nat.le_refl _, rfl, fun _ n => n⟩⟩
  · rcases own_set h with ⟨h, _⟩ | h
    · cases h
    · exact .inl h
  · rcases bag_set h with ⟨h, _⟩ | h
    · cases h
    · exact h
/-- a new list is stored as owned -/
theorem Rel.setOwn (r : Rel K O H σ ρ) {i : Nat} {p : Addr} {xs : List V} {ds : List D} (s : Step (BagOf σ ρ.sl) H H' ρ.m m') (n : H p = none) (e : H' p = some (.lst xs)) (hd : DvAll K (hide (fun q => Ow O σ ρ.sl q ∨ q = p) H') xs ds) :
    Rel K O H' (σ.set i (some (.ref p))) { ρ with sl := ρ.sl.set i (.own ds), m := m' } ∧ StepS σ ρ H (σ.set i (some (.ref p))) { ρ with sl := ρ.sl.set i (.own ds), m := m' } H' := by
  have r1 := r.step s
  have nO : ¬ Ow O σ ρ.sl p := r.newNot n
  have ow : ∀ q, Ow O (σ.set i (some (.ref p))) (ρ.sl.set i (.own ds)) q → Ow O σ ρ.sl q ∨ q = p := fun q h => by
    rcases h with h | h
    · exact .inl (.inl h)
    · rcases own_set h with ⟨_, h⟩ | h
      · exact .inr (V.ref.inj h).symm
      · exact .inl (.inr h)
  have sh1 : Same (hide (fun q => Ow O σ ρ.sl q ∨ q = p) H') (hide (Ow O (σ.set i (some (.ref p))) (ρ.sl.set i (.own ds))) H') := same_hide fun q o nq eq => ⟨fun z => nq (ow q z), eq⟩
  have sh : Same (hide (Ow O σ ρ.sl) H) (hide (Ow O (σ.set i (some (.ref p))) (ρ.sl.set i (.own ds))) H') := (same_hide fun q o nq eq => ⟨fun z => z.elim nq (ne_of_none eq n), s.keep q o eq fun b => nq (.inl (r.bagO b).1)⟩ : Same _ (hide (fun q => Ow O σ ρ.sl q ∨ q = p) H')).trans sh1
  refine ⟨⟨by simp [r.len], r1.trk, fun j t f => ?_, fun a b q u t ne h1 h2 h3 h4 h5 h6 => ?_⟩, ⟨fun q o eq nm => s.keep q o eq fun b => nm (.inr b), fun q b => s.bag q b (r.bagO b).2, fun q h => ?_, fun q h => ?_, s.le, rfl, fun q nq => r.newOf s nq⟩⟩
  · by_cases e1 : i = j
    · subst e1
      obtain ⟨rfl, hl⟩ := set_self f
      have hl' : i < σ.length := by rw [← r.len]; exact hl
      refine ⟨p, xs, ?_, fun z => nO (.inl z), e, dpa_same sh1 hd⟩
      rw [List.getElem?_set_self hl']
      rfl
    · have f' := set_ne f e1
      have h := r.ok j t f'
      have h1 := r1.ok j t f'
      rw [List.getElem?_set_ne e1]
      cases t with
      | un => trivial
      | dat d => obtain ⟨x, e1, q⟩ := h; exact ⟨x, e1, dp_same sh q⟩
      | own ds =>
        obtain ⟨q, ys, e2, nq, e3, hq⟩ := h
        exact ⟨q, ys, e2, nq, s.keep q _ e3 fun b => nq (r.bagO b).1, dpa_same sh hq⟩
      | bag => exact h1
      | raw w => exact h
  · have key : ∀ (c : Nat) (u : Slot), (σ.set i (some (.ref p)))[c]? = some (some (.ref q)) → (ρ.sl.set i (.own ds))[c]? = some u → u.isOwn = true → (i = c ∧ q = p) ∨ (i ≠ c ∧ OwnAt σ ρ.sl q ∧ σ[c]? = some (some (.ref q)) ∧ ρ.sl[c]? = some u) := fun c u k1 k2 k3 => by
      by_cases ec : i = c
      · subst ec
        obtain ⟨z, _⟩ := set_self k1
        exact .inl ⟨rfl, (V.ref.inj (Option.some.inj z))⟩
      · exact .inr ⟨ec, ⟨c, u, set_ne k1 ec, set_ne k2 ec, k3⟩, set_ne k1 ec, set_ne k2 ec⟩
    rcases key a u h1 h2 h3 with ⟨ea, qa⟩ | ⟨_, oa, g1, g2⟩
    · rcases key b t h4 h5 h6 with ⟨eb, _⟩ | ⟨_, ob, _, _⟩
      · exact ne (ea.symm.trans eb)
      · rw [qa] at ob
        exact nO (.inr ob)
    · rcases key b t h4 h5 h6 with ⟨eb, qb⟩ | ⟨_, ob, g3, g4⟩
      · rw [qb] at oa
        exact nO (.inr oa)
      · exact r.sep a b q u t ne g1 g2 h3 g3 g4 h6
  · rcases own_set h with ⟨_, h⟩ | h
    · cases h
      exact .inr n
    · exact .inl h
  · rcases bag_set h with ⟨h, _⟩ | h
    · cases h
    · exact h
end

/-! ### targets -/
abbrev SG := D → DEnv → (DEnv → Prop) → Prop
abbrev SGs := List D → DEnv → (DEnv → Prop) → Prop
/-- only the slots of `is` have changed -/
def Chg (is : List Nat) (σ σ' : L2.St) : Prop := σ'.length = σ.length ∧ ∀ j, j ∉ is → σ'[j]? = σ[j]?
def liftG (K : PySem.W.Frag) (is : List Nat) (s : SG) : TG := fun v σ H Q => ∃ (O : Addr → Prop) (ρ : DEnv) (d : D) (R : DEnv → Prop), Rel K O H σ ρ ∧ Dv K (hide (Ow O σ ρ.sl) H) v d ∧ s d ρ R ∧
  ∀ σ' ρ', Chg is σ σ' → StepS σ ρ H σ' ρ' H → ρ'.m = ρ.m → Rel K O H σ' ρ' → R ρ' → Q σ' H
def liftGs (K : PySem.W.Frag) (is : List Nat) (s : SGs) : TGs := fun vs σ H Q => ∃ (O : Addr → Prop) (ρ : DEnv) (ds : List D) (R : DEnv → Prop), Rel K O H σ ρ ∧ DvAll K (hide (Ow O σ ρ.sl) H) vs ds ∧ s ds ρ R ∧
  ∀ σ' ρ', Chg is σ σ' → StepS σ ρ H σ' ρ' H → ρ'.m = ρ.m → Rel K O H σ' ρ' → R ρ' → Q σ' H
structure DG (X : Cx) (tg : Expr) (is : List Nat) (s : SG) : Prop where
  run : PG X tg (liftG X.K is s)
structure DGs (X : Cx) (tg : List Expr) (is : List Nat) (s : SGs) : Prop where
  run : PGs X tg (liftGs X.K is s)
theorem pg_imp {X : Cx} {tg : Expr} {t t' : TG} (h : PG X tg t) (i : ∀ v σ H Q, t' v σ H Q → t v σ H Q) : PG X tg t' := ⟨fun pins s σ H v u Q I r q => h.run pins s σ H v u Q I r (i v σ H Q q)⟩
theorem pgs_imp {X : Cx} {tg : List Expr} {t t' : TGs} (h : PGs X tg t) (i : ∀ v σ H Q, t' v σ H Q → t v σ H Q) : PGs X tg t' := ⟨fun pins s σ H v u Q I r q => h.run pins s σ H v u Q I r (i v σ H Q q)⟩
def sgName (i : Nat) : SG := fun d ρ R => R { ρ with sl := ρ.sl.set i (.dat d) }
def sgNil : SGs := fun ds ρ R => ds = [] ∧ R ρ
def sgCons (g : SG) (gs : SGs) : SGs := fun ds ρ R => ∃ d r, ds = d :: r ∧ g d ρ fun ρ1 => gs r ρ1 R
def sgTup (n : Nat) (gs : SGs) : SG := fun d ρ R => ∃ xs, d = .tuple xs ∧ xs.length = n ∧ gs xs ρ R
section
variable {X : Cx} {tg e : Expr} {es : List Expr} {is js : List Nat} {g : SG} {gs : SGs} {pos : Pos}
theorem dg_name {i : Nat} (h : PG X tg (gName i)) : DG X tg [i] (sgName i) := ⟨pg_imp h fun v σ H Q h => by
  obtain ⟨O, ρ, d, R, rel, dv, hs, q⟩ := h
  exact q _ _ ⟨by simp, fun j hj => List.getElem?_set_ne fun z => hj (by simp [z])⟩ (StepS.setDat.mpr fun p b => (rel.bagO b).2) rfl (rel.setDat dv) hs⟩
theorem dgs_nil : DGs X [] [] sgNil := ⟨pgs_imp pgs_nil fun vs σ H Q h => by
  obtain ⟨O, ρ, ds, R, rel, dv, ⟨rfl, hs⟩, q⟩ := h
  cases dv
  exact ⟨rfl, q σ ρ ⟨rfl, fun _ _ => rfl⟩ (StepS.of (m' := ρ.m) rel (Step.refl _ _ _)) rfl rel hs⟩⟩
theorem dgs_cons (h1 : DG X e is g) (h2 : DGs X es js gs) (hs : (assignEach (e :: es) X.env).map (·.2) = assign e X.env :: (assignEach es X.env).map (·.2) := by rfl) : DGs X (e :: es) (is ++ js) (sgCons g gs) := ⟨pgs_imp (pgs_cons h1.run h2.run hs) fun vs σ H Q h => by
  obtain ⟨O, ρ, ds, R, rel, dv, ⟨d, r, rfl, hs⟩, q⟩ := h
  cases dv with
  | cons hd ht =>
    refine ⟨_, _, rfl, O, ρ, d, _, rel, hd, hs, fun σ1 ρ1 c1 st1 em1 rel1 hr => ⟨O, ρ1, r, R, rel1, ?_, hr, fun σ2 ρ2 c2 st2 em2 rel2 hr2 => ?_⟩⟩
    · refine dpa_same (same_hide fun p o n e => ⟨fun z => ?_, e⟩) ht
      rcases z with z | z
      · exact n (.inl z)
      · rcases st1.own p z with z | z
        · exact n (.inr z)
        · rw [e] at z
          cases z
    · refine q σ2 ρ2 ⟨c2.1.trans c1.1, fun j hj => ?_⟩ (st1.trans rel rel1 st2) (em2.trans em1) rel2 hr2
      rw [c2.2 j fun z => hj (List.mem_append_right _ z), c1.2 j fun z => hj (List.mem_append_left _ z)]⟩
theorem dg_tup {k n : Nat} (hc : X.calm = true) (h : DGs X es is gs) (hn : (assignEach es X.env).length = n := by rfl) (hst : (assignEach es X.env).findIdx? (·.1) = none := by rfl) : DG X (.Tuple es k pos) is (sgTup n gs) := ⟨pg_imp (pg_tup hc h.run hn hst) fun v σ H Q h => by
  obtain ⟨O, ρ, d, R, rel, dv, ⟨xs, rfl, hl, hs⟩, q⟩ := h
  obtain ⟨a, ys, rfl, et, _, hall⟩ := dv_tup dv
  exact ⟨a, ys, rfl, et, by rw [dpa_len hall]; exact hl, O, ρ, xs, R, rel, hall, hs, q⟩⟩
end
end DL
set_option maxHeartbeats 1000000
/-! The data layer, part j: comprehensions. -/
namespace DL
open PySem PySem.Spec PyProof.Rows L2

/-- the environment of a comprehension's block: its own names forgotten, nothing owned, nothing raised -/
def Slot.inner : Slot → Slot
  | .own _ => .un
  | s => s
def setUn (vs : List Nat) (sl : List Slot) : List Slot := match vs with
  | [] => sl
  | v :: vs => (setUn vs sl).set v .un
def DEnv.block (ρ : DEnv) (vs : List Nat) (m : Nat) : DEnv := { sl := setUn vs (ρ.sl.map Slot.inner), m := m, F := fun _ => False }
/-- tests of a clause -/
structure DTs (X : Cx) (XR : XRT) (E : XK) (ifs : List Expr) (s : ST) : Prop where
  run : PTs X ifs (liftT X.K XR E s)
def stYes : ST := fun ρ R => R true ρ.m
section
variable {X : Cx} {XR : XRT} {E : XK} {c : Expr} {st : ST}
theorem pts_imp {ifs : List Expr} {t t' : TT} (h : PTs X ifs t) (i : ∀ σ H Q, t' σ H Q → t σ H Q) : PTs X ifs t' := ⟨fun pins s σ H Q I q => h.run pins s σ H Q I (i σ H Q q)⟩
theorem dts_nil : DTs X XR E [] stYes := ⟨pts_imp pts_nil fun σ H Q h => by
  obtain ⟨O, ρ, R, rel, hs, q, hx⟩ := h
  exact q true H ρ.m (Step.refl _ _ _) hs⟩
theorem dts_one (h : DT X XR E c st) : DTs X XR E [c] st := ⟨pts_one h.run⟩
end
/-- the turns of a comprehension: ρ0 the block's environment at each turn -/
def compL (g : SG) (t : ST) (e : SE) (ρ0 : DEnv) : List D → Nat → (List D → Nat → Prop) → Prop
  | [], m, R => R [] m
  | d :: ds, m, R => g d { ρ0 with m := m } fun ρ1 => t ρ1 fun b m2 => if b = true then e { ρ1 with m := m2 } fun y m3 => compL g t e ρ0 ds m3 fun ys m' => R (y :: ys) m'
    else compL g t e ρ0 ds m2 R
def sComp (si : SD) (vs : List Nat) (g : SG) (t : ST) (e : SE) : SD := fun ρ R => si ρ fun ds m => lenOk ds.length ∧ compL g t e (ρ.block vs m) ds m R

section
variable {K : PySem.W.Frag} {O : Addr → Prop} {H H' : Hp} {σ : L2.St} {ρ : DEnv} {m m' : Nat}
theorem setUn_get {vs : List Nat} {sl : List Slot} {j : Nat} {s : Slot} (h : (setUn vs sl)[j]? = some s) : s = .un ∨ (j ∉ vs ∧ sl[j]? = some s) := by
  induction vs with
  | nil => exact .inr ⟨by simp, h⟩
  | cons v vs ih =>
    by_cases e : v = j
    · subst e
      exact .inl (set_self h).1
    · rcases ih (set_ne h e) with z | ⟨z, w⟩
      · exact .inl z
      · exact .inr ⟨by simp [Ne.symm e, z], w⟩
theorem setUn_len (vs : List Nat) (sl : List Slot) : (setUn vs sl).length = sl.length := by
  induction vs with
  | nil => rfl
  | cons v vs ih =>
    show ((setUn vs sl).set v .un).length = _
    rw [List.length_set, ih]
theorem wipe_ne {σ : L2.St} {vs : List Nat} {j : Nat} (h : j ∉ vs) : (wipe σ vs)[j]? = σ[j]? := wipe_out h
theorem block_own {p : Addr} {vs : List Nat} : ¬ OwnAt (wipe σ vs) (ρ.block vs m).sl p := fun ⟨j, s, _, h2, h3⟩ => by
  rcases setUn_get h2 with z | ⟨_, z⟩
  · rw [z] at h3
    cases h3
  · rw [List.getElem?_map] at z
    cases q : ρ.sl[j]? with
    | none =>
      rw [q] at z
      cases z
    | some t =>
      rw [q] at z
      cases z
      cases t <;> cases h3
theorem block_bag {p : Addr} {vs : List Nat} (h : BagOf (wipe σ vs) (ρ.block vs m).sl p) : BagOf σ ρ.sl p := by
  obtain ⟨j, h1, h2⟩ := h
  rcases setUn_get h2 with z | ⟨nj, z⟩
  · cases z
  · rw [List.getElem?_map] at z
    cases q : ρ.sl[j]? with
    | none =>
      rw [q] at z
      cases z
    | some t =>
      rw [q] at z
      cases t <;> cases z
      rw [wipe_ne nj] at h1
      exact ⟨j, h1, q⟩
/-- the block's environment fits: all that was owned, and D, is another's -/
theorem Rel.block (r : Rel K O H σ ρ) (vs : List Nat) (s : Step (BagOf σ ρ.sl) H H' ρ.m m') {Dn : Addr} {o : HO} (eD : H' Dn = some o) (nD : H Dn = none) : Rel K (fun q => Ow O σ ρ.sl q ∨ q = Dn) H' (wipe σ vs) (ρ.block vs m') := by
  have r1 := r.step s
  refine ⟨by rw [wipe_length]; show (setUn vs (ρ.sl.map Slot.inner)).length = _; rw [setUn_len, List.length_map, r.len], fun p h => ?_, fun j t f => ?_, fun a b p u t ne h1 h2 h3 h4 h5 h6 => ?_⟩
  · rcases h with h | h
    · exact r1.owTrk h
    · rw [h]
      exact ⟨o, eD⟩
  · have sh : Same (hide (Ow O σ ρ.sl) H) (hide (Ow (fun q => Ow O σ ρ.sl q ∨ q = Dn) (wipe σ vs) (ρ.block vs m').sl) H') := same_hide fun p o2 n e =>
      ⟨fun z => z.elim (fun z => z.elim n (ne_of_none e nD)) (fun z => block_own z), s.keep p o2 e fun b => n (.inl (r.bagO b).1)⟩
    rcases setUn_get f with z | ⟨nj, z⟩
    · rw [z]
      trivial
    · rw [List.getElem?_map] at z
      cases q : ρ.sl[j]? with
      | none =>
        rw [q] at z
        cases z
      | some t0 =>
        rw [q] at z
        have h := r.ok j t0 q
        have h1 := r1.ok j t0 q
        rw [wipe_ne nj]
        cases t0 <;> cases z
        · trivial
        · obtain ⟨x, e, hx⟩ := h
          exact ⟨x, e, dp_same sh hx⟩
        · trivial
        · obtain ⟨p, e, hO, hb⟩ := h1
          exact ⟨p, e, .inl (.inl hO), hb⟩
        · exact h
  · exact (block_own ⟨a, u, h1, h2, h3⟩).elim
theorem wipe_none {σ : L2.St} : ∀ {vs : List Nat} {j : Nat}, j ∈ vs → j < σ.length → (wipe σ vs)[j]? = some none
  | v :: vs, j, h, hl => by
    show ((wipe σ vs).set v none)[j]? = some none
    by_cases e : v = j
    · subst e
      rw [List.getElem?_set_self (by rw [wipe_length]; exact hl)]
    · rw [List.getElem?_set_ne e]
      rcases List.mem_cons.mp h with z | z
      · exact absurd z.symm e
      · exact wipe_none z hl
theorem wipe_chg {σ σ' : L2.St} {vs is : List Nat} (c : Chg is (wipe σ vs) σ') (sub : ∀ i ∈ is, i ∈ vs) : wipe σ' vs = wipe σ vs := by
  have hl : σ'.length = σ.length := c.1.trans (wipe_length σ vs)
  refine List.ext_getElem? fun j => ?_
  by_cases h : j ∈ vs
  · by_cases hj : j < σ.length
    · rw [wipe_none h hj, wipe_none h (by rw [hl]; exact hj)]
    · rw [List.getElem?_eq_none (by rw [wipe_length]; omega), List.getElem?_eq_none (by rw [wipe_length]; omega)]
  · rw [wipe_ne h, c.2 j fun z => h (sub j z)]
end
section
variable {K : PySem.W.Frag} {XR : XRT} {E E' : XK} {si : SD} {vs is : List Nat} {g : SG} {t : ST} {se : SE}
theorem comp_lift (sub : ∀ i ∈ is, i ∈ vs) (σ : L2.St) (H : Hp) (Q : VK) (h : liftF K XR E (sComp si vs g t se) σ H Q) :
    tLc (liftI K XR E si) (liftG K is g) (liftT K XR E0 t) (liftE K XR E0 se) vs σ H Q := by
  obtain ⟨O, ρ, R, rel, hs, q, hx⟩ := h
  refine ⟨O, ρ, _, rel, hs, fun J H1 ds m1 st wk hr Dn nD => ?_, hx⟩
  obtain ⟨hlen, hr⟩ := hr
  have rel1 := rel.step st
  have nD0 : H Dn = none := rel.newOf st nD
  have hlz := hlen.lt
  -- what holds ahead of turn i
  let Pv : Nat → Hp → Prop := fun i H2 => ∃ m2 xs ys, Step (BagOf σ ρ.sl) H1 H2 m1 m2 ∧ H2 Dn = some (.lst xs) ∧ xs.length ≤ i ∧ DvAll K (hide (fun q => Ow O σ ρ.sl q ∨ q = Dn) H2) xs ys ∧
    compL g t se (ρ.block vs m1) (ds.drop i) m2 fun zs m' => R (ys ++ zs) m'
  refine lc_it wk (Pv := Pv) ⟨m1, [], [], Step.same (same_new nD), upd_same, Nat.zero_le _, .nil, by simpa using hr⟩ (fun i H2 hi p => ?_) (fun i x H2 H3 hi p y => ?_) (fun H2 p => ?_)
  · obtain ⟨m2, xs, ys, s2, _⟩ := p
    exact fun b o e => s2.keep b o (hide_some.mp e).2 fun z => (hide_some.mp e).1 (.inl (rel.bagO z).1)
  · obtain ⟨m2, xs, ys, s2, eD, hlx, hys, hc⟩ := p
    obtain ⟨d, ed, y⟩ := y
    have edr : ds.drop i = d :: ds.drop (i + 1) := by
      have hi' := (List.getElem?_eq_some_iff.mp ed)
      rw [← hi'.2]
      exact List.drop_eq_getElem_cons hi'.1
    rw [edr] at hc
    -- the item given out, seen from the block
    have rb2 := rel.block vs (st.trans s2) eD nD0
    have sh12 : Same (hide (Ow O σ ρ.sl) H1) (hide (Ow (fun q => Ow O σ ρ.sl q ∨ q = Dn) (wipe σ vs) (ρ.block vs m2).sl) H2) := same_hide fun p o n e =>
      ⟨fun z => z.elim (fun z => z.elim n (ne_of_none e nD)) (fun z => block_own z), s2.keep p o e fun b => n (.inl (rel.bagO b).1)⟩
    have item : ∃ H3', H3' = H3 ∧ Same H2 H3 ∧ Dv K (hide (Ow (fun q => Ow O σ ρ.sl q ∨ q = Dn) (wipe σ vs) (ρ.block vs m2).sl) H3) x d := by
      refine ⟨H3, rfl, ?_⟩
      rcases y with ⟨rfl, hd⟩ | ⟨T, vs', es, rfl, hT, rfl, rfl, hes⟩
      · exact ⟨Same.refl _, dp_same sh12 hd⟩
      · exact ⟨same_new hT, dv_newT (fun p hp => rb2.owTrk hp) hT (dpa_same sh12 hes)⟩
    obtain ⟨_, _, s23, hd3⟩ := item
    have st23 : Step (BagOf (wipe σ vs) (ρ.block vs m2).sl) H2 H3 m2 m2 := Step.same s23
    have rb3 := rb2.step st23
    have stb : ∀ {Ha Hb : Hp} {ma mb : Nat}, Step (BagOf (wipe σ vs) (ρ.block vs m2).sl) Ha Hb ma mb → (∀ p, BagOf σ ρ.sl p → BagAt Ha p ma) → Step (BagOf σ ρ.sl) Ha Hb ma mb := fun {Ha Hb ma mb} s hb =>
      ⟨fun p o e n => s.keep p o e fun z => n (block_bag z), fun p z _ => by
        by_cases w : BagOf (wipe σ vs) (ρ.block vs m2).sl p
        · exact s.bag p w (hb p z)
        · exact ((hb p z).same fun o e => s.keep p o e w).le s.le, s.le⟩
    have bg2 : ∀ p, BagOf σ ρ.sl p → BagAt H2 p m2 := fun p b => (st.trans s2).bag p b (rel.bagO b).2
    have st23' := stb st23 bg2
    have bg3 : ∀ p, BagOf σ ρ.sl p → BagAt H3 p m2 := fun p b => st23'.bag p b (bg2 p b)
    refine ⟨_, ρ.block vs m2, d, _, rb3, hd3, hc, fun σ2 ρ2 ch st4 em4 rel4 hc2 => ⟨wipe_chg ch sub, ?_⟩⟩
    -- behind the target's store: bags are still the outer ones
    have bgs4 : ∀ p, BagOf σ2 ρ2.sl p → BagOf σ ρ.sl p := fun p b => block_bag (st4.bgs p b)
    have own4 : ∀ p, ¬ OwnAt σ2 ρ2.sl p := fun p z => by
      rcases st4.own p z with z | z
      · exact block_own z
      · obtain ⟨_, _, e⟩ := rel4.ownO ‹_›
        rw [z] at e
        cases e
    have em : ρ2.m = m2 := em4
    have stb4 : ∀ {Ha Hb : Hp} {ma mb : Nat}, Step (BagOf σ2 ρ2.sl) Ha Hb ma mb → (∀ p, BagOf σ ρ.sl p → BagAt Ha p ma) → Step (BagOf σ ρ.sl) Ha Hb ma mb := fun {Ha Hb ma mb} s hb =>
      ⟨fun p o e n => s.keep p o e fun z => n (bgs4 p z), fun p z _ => by
        by_cases w : BagOf σ2 ρ2.sl p
        · exact s.bag p w (hb p z)
        · exact ((hb p z).same fun o e => s.keep p o e w).le s.le, s.le⟩
    have noF : ∀ x, ¬ ρ2.F x := fun x z => by
      rw [st4.F] at z
      exact z
    refine ⟨_, ρ2, _, rel4, hc2, fun b H5 m5 st5 hb => ?_, fun x _ _ _ f => (noF x f).elim⟩
    rw [em] at st5
    have st5' := stb4 st5 bg3
    have s25 := st23'.trans st5'
    have nbD : ¬ BagOf σ ρ.sl Dn := fun z => by
      obtain ⟨_, _, _, _, e, _⟩ := rel.bagO z
      rw [nD0] at e
      cases e
    have eD5 : H5 Dn = some (.lst xs) := s25.keep Dn _ eD nbD
    have bg5 : ∀ p, BagOf σ ρ.sl p → BagAt H5 p m5 := fun p b => s25.bag p b (bg2 p b)
    have carry : ∀ {Ha Hb : Hp} {ma mb : Nat} {zs : List V} {es : List D}, Step (BagOf σ ρ.sl) Ha Hb ma mb → (∀ p, BagOf σ ρ.sl p → O p) → DvAll K (hide (fun q => Ow O σ ρ.sl q ∨ q = Dn) Ha) zs es → DvAll K (hide (fun q => Ow O σ ρ.sl q ∨ q = Dn) Hb) zs es := fun {Ha Hb ma mb zs es} s hO h =>
      dpa_same (same_hide fun p o n e => ⟨n, s.keep p o e fun b => n (.inl (.inl (hO p b)))⟩) h
    have bO : ∀ p, BagOf σ ρ.sl p → O p := fun p b => (rel.bagO b).1
    cases b with
    | false =>
      rw [if_neg Bool.false_ne_true] at hb
      exact iteF ⟨m5, xs, ys, s2.trans s25, eD5, Nat.le_succ_of_le hlx, carry s25 bO hys, hb⟩
    | true =>
      rw [if_pos rfl] at hb
      refine iteT ⟨_, { ρ2 with m := m5 }, _, rel4.step (em ▸ st5), hb, fun v H6 y m6 st6 dv hc6 => ?_, fun x _ _ _ f => (noF x f).elim⟩
      have st6' := stb4 st6 bg5
      have s26 := s25.trans st6'
      have eD6 : H6 Dn = some (.lst xs) := s26.keep Dn _ eD nbD
      refine ⟨xs, eD6, by omega, m6, xs ++ [v], ys ++ [y], ?_, upd_same, by rw [List.length_append]; exact Nat.succ_le_succ hlx, ?_, ?_⟩
      · have s16 := s2.trans s26
        refine ⟨fun p o e n => ?_, fun p b h => ?_, s16.le⟩
        · rw [upd_ne (ne_of_none e nD)]
          exact s16.keep p o e n
        · refine (s16.bag p b h).same fun o e => ?_
          have np : p ≠ Dn := fun z => nbD (by rw [← z]; exact b)
          rw [upd_ne np]
          exact e
      · have sh : ∀ {O' : Addr → Prop}, (∀ q, (Ow O σ ρ.sl q ∨ q = Dn) → O' q) → Same (hide O' H6) (hide (fun q => Ow O σ ρ.sl q ∨ q = Dn) (upd H6 Dn (.lst (xs ++ [v])))) := fun {O'} ho => same_hide fun p o n e =>
          ⟨fun z => n (ho p z), by rw [upd_ne fun z => n (ho p (.inr z))]; exact e⟩
        exact dpa_app (dpa_same (sh fun q z => z) (carry s26 bO hys)) (.cons (dp_same (sh fun q z => .inl z) dv) .nil)
      · have e : (fun zs m' => R (ys ++ [y] ++ zs) m') = fun zs m' => R (ys ++ y :: zs) m' := by
          funext zs m'
          rw [List.append_assoc]
          rfl
        rw [e]
        exact hc6
  · obtain ⟨m2, xs, ys, s2, eD, hlx, hys, hc⟩ := p
    rw [List.drop_length] at hc
    have hc : R (ys ++ []) m2 := hc
    rw [List.append_nil] at hc
    exact q Dn xs H2 ys m2 (st.trans s2) nD0 eD hys hc
end
section
variable {X : Cx} {XR : XRT} {E : XK} {si : SD} {vs is : List Nat} {g : SG} {t : ST} {se : SE} {elt tg iter : Expr} {ifs : List Expr} {scope : Scope} {own : List (Str × Nat)} {pos : Pos}
/-- [elt for tg in iter if ..]: a new list -/
theorem df_comp (hc : X.calm = true) (hN : X.N.Nodup) (ok : BlkOk X.N X.env.scope scope own) (sub : ∀ i ∈ is, i ∈ own.map (·.2)) (hi : DI X XR E tg iter si)
    (hg : ∀ (s : Shared) (H : Hp) (C : Addr) (cl : List (Str × Addr)) (fp : List Addr), DG (X.blk s H scope (compEnvC scope cl C X.env) fp) tg is g) (ht : ∀ (s : Shared) (H : Hp) (C : Addr) (cl : List (Str × Addr)) (fp : List Addr), DTs (X.blk s H scope (compEnvC scope cl C X.env) fp) XR E0 ifs t)
    (he : ∀ (s : Shared) (H : Hp) (C : Addr) (cl : List (Str × Addr)) (fp : List Addr), DE (X.blk s H scope (compEnvC scope cl C X.env) fp) XR E0 elt se) (hs : ∀ x, foldedSetIterable iter X.env x = pure x := by intro _; rfl) :
    DF X XR E (.ListComp elt [⟨tg, iter, ifs, 0⟩] scope pos) (sComp si (own.map (·.2)) g t se) :=
  ⟨pe_imp (pe_lc hc hN hi.run ok (fun s H C cl fp => (hg s H C cl fp).run) (fun s H C cl fp => (ht s H C cl fp).run) (fun s H C cl fp => (he s H C cl fp).run) hs) (comp_lift sub)⟩
end
end DL
set_option maxHeartbeats 1000000
/-! The data layer, part k: statements, defs, calls of defs. -/
namespace DL
open PySem PySem.Spec PyProof.Rows L2

/-- what a def hands back -/
inductive RV where
  | dat (d : D)
  | new (ds : List D)
  | raw (v : V)
structure DEnds where
  nx : DEnv → Prop
  rt : RV → Nat → Prop
  bk : DEnv → Prop
  ct : DEnv → Prop
abbrev SS := DEnds → DEnv → Prop
def RVok (K : PySem.W.Frag) (O : Addr → Prop) (F : Addr → Prop) (H' : Hp) (v : V) : RV → Prop
  | .dat d => Dv K (hide O H') v d
  | .new ds => ∃ p xs, v = .ref p ∧ F p ∧ ¬ O p ∧ H' p = some (.lst xs) ∧ DvAll K (hide (fun q => O q ∨ q = p) H') xs ds
  | .raw w => v = w
/-- behind a return -/
structure StepR (σ : L2.St) (ρ : DEnv) (H H' : Hp) (m' : Nat) : Prop where
  keep : ∀ p o, H p = some o → ¬ MutAt σ ρ.sl p → H' p = some o
  bag : ∀ p, BagOf σ ρ.sl p → BagAt H' p m'
  le : ρ.m ≤ m'
def liftS (K : PySem.W.Frag) (XR : XRT) (E : XK) (s : SS) : TS := fun D σ H => ∃ (O : Addr → Prop) (ρ : DEnv) (De : DEnds), Rel K O H σ ρ ∧ s De ρ ∧
  (∀ σ' H' ρ', StepS σ ρ H σ' ρ' H' → Rel K O H' σ' ρ' → De.nx ρ' → D.nx σ' H') ∧
  (∀ v H' rv m', StepR σ ρ H H' m' → RVok K O (fun p => OwnAt σ ρ.sl p ∨ H p = none) H' v rv → De.rt rv m' → D.rt v H') ∧
  (∀ σ' H' ρ', StepS σ ρ H σ' ρ' H' → Rel K O H' σ' ρ' → De.bk ρ' → D.bk σ' H') ∧
  (∀ σ' H' ρ', StepS σ ρ H σ' ρ' H' → Rel K O H' σ' ρ' → De.ct ρ' → D.ct σ' H') ∧ XOk XR E σ ρ H
structure DS (X : Cx) (XR : XRT) (E : XK) (st : Stmt) (s : SS) : Prop where
  run : PS X st (liftS X.K XR E s)
structure DSs (X : Cx) (XR : XRT) (E : XK) (st : List Stmt) (s : SS) : Prop where
  run : PSs X st (liftS X.K XR E s)
theorem ps_imp {X : Cx} {st : Stmt} {t t' : TS} (h : PS X st t) (i : ∀ D σ H, t' D σ H → t D σ H) : PS X st t' := ⟨fun pins s σ H D I q => h.run pins s σ H D I (i D σ H q)⟩
theorem pss_imp {X : Cx} {st : List Stmt} {t t' : TS} (h : PSs X st t) (i : ∀ D σ H, t' D σ H → t D σ H) : PSs X st t' := ⟨fun pins s σ H D I q => h.run pins s σ H D I (i D σ H q)⟩
section
variable {K : PySem.W.Frag} {O : Addr → Prop} {H H' H'' : Hp} {σ σ' σ'' : L2.St} {ρ ρ' ρ'' : DEnv} {m m' : Nat} {XR : XRT} {E : XK}
theorem StepS.thenR (r : Rel K O H σ ρ) (a : StepS σ ρ H σ' ρ' H') (r' : Rel K O H' σ' ρ') (b : StepR σ' ρ' H' H'' m') : StepR σ ρ H H'' m' where
  keep := fun p o e n => b.keep p o (a.keep p o e n) (a.mut e n)
  bag := fun p h => by
    have h1 := a.bag p h
    by_cases z : BagOf σ' ρ'.sl p
    · exact b.bag p z
    · have nm : ¬ MutAt σ' ρ'.sl p := fun q => by
        rcases q with q | q
        · exact (r'.ownO q).1 (r.bagO h).1
        · exact z q
      exact (h1.same fun o e => b.keep p o e nm).le b.le
  le := Nat.le_trans a.le b.le
theorem RVok.mono {F F' : Addr → Prop} {v : V} {rv : RV} (h : RVok K O F H v rv) (i : ∀ p, F p → F' p) : RVok K O F' H v rv := by
  cases rv with
  | dat d => exact h
  | new ds => obtain ⟨p, xs, e, f, r⟩ := h; exact ⟨p, xs, e, i p f, r⟩
  | raw w => exact h
theorem StepR.of (r : Rel K O H σ ρ) (s : Step (BagOf σ ρ.sl) H H' ρ.m m') : StepR σ ρ H H' m' :=
  ⟨fun p o e n => s.keep p o e fun b => n (.inr b), fun p b => s.bag p b (r.bagO b).2, s.le⟩
theorem Ow_sub : Same (hide (Ow O σ ρ.sl) H) (hide O H) := same_hide fun p o n e => ⟨fun z => n (.inl z), e⟩
end
section
variable {X : Cx} {XR : XRT} {E : XK} {a b c e : Expr} {es : List Expr} {sa sb sc s : SE} {st st' : ST} {sd : SD} {ss tt : SS} {pos : Pos} {stm : Stmt} {rest body : List Stmt}
def ssNil : SS := fun De ρ => De.nx ρ
def ssSeq (s t : SS) : SS := fun De ρ => s { De with nx := fun ρ' => t De ρ' } ρ
theorem dss_nil : DSs X XR E [] ssNil := ⟨pss_imp pss_nil fun D σ H h => by
  obtain ⟨O, ρ, De, rel, hs, n, _⟩ := h
  exact n σ H ρ (StepS.of (m' := ρ.m) rel (Step.refl _ _ _)) rel hs⟩
theorem dss_one (h : DS X XR E stm ss) : DSs X XR E [stm] ss := ⟨pss_one h.run⟩
theorem dss_cons (h1 : DS X XR E stm ss) (h2 : DSs X XR E rest tt) : DSs X XR E (stm :: rest) (ssSeq ss tt) := ⟨pss_imp (pss_cons h1.run h2.run) fun D σ H h => by
  obtain ⟨O, ρ, De, rel, hs, n, r, bk, ct, hx⟩ := h
  refine ⟨O, ρ, { De with nx := fun ρ' => tt De ρ' }, rel, hs, fun σ1 H1 ρ1 st1 rel1 h1 => ?_, r, bk, ct, hx⟩
  refine ⟨O, ρ1, De, rel1, h1, fun σ2 H2 ρ2 st2 rel2 q => n σ2 H2 ρ2 (st1.trans rel rel1 st2) rel2 q, fun v H2 rv m2 st2 ok q => r v H2 rv m2 (st1.thenR rel rel1 st2) (ok.mono fun p f => ?_) q,
    fun σ2 H2 ρ2 st2 rel2 q => bk σ2 H2 ρ2 (st1.trans rel rel1 st2) rel2 q, fun σ2 H2 ρ2 st2 rel2 q => ct σ2 H2 ρ2 (st1.trans rel rel1 st2) rel2 q, hx.stepS st1⟩
  rcases f with f | f
  · exact st1.own p f
  · exact .inr (st1.nw p f)⟩
def ssPass : SS := fun De ρ => De.nx ρ
theorem ds_pass : DS X XR E (.Pass pos) ssPass := ⟨ps_imp ps_pass fun D σ H h => by
  obtain ⟨O, ρ, De, rel, hs, n, _⟩ := h
  exact n σ H ρ (StepS.of (m' := ρ.m) rel (Step.refl _ _ _)) rel hs⟩
def ssExpr (s : SE) : SS := fun De ρ => s ρ fun _ m => De.nx { ρ with m := m }
theorem ds_expr (h : DE X XR E e s) (hs : swapsWith e none pos.line X.env = pure false := by rfl) : DS X XR E (.Expr e pos) (ssExpr s) := ⟨ps_imp (ps_expr h.run hs) fun D σ H h => by
  obtain ⟨O, ρ, De, rel, hs, n, r, bk, ct, hx⟩ := h
  exact ⟨O, ρ, _, rel, hs, fun v H1 d m1 st dv q => n σ H1 _ (StepS.of rel st) (rel.step st) q, hx⟩⟩
def ssRet (s : SE) : SS := fun De ρ => s ρ fun d m => De.rt (.dat d) m
theorem ds_ret (h : DE X XR E e s) : DS X XR E (.Return (some e) pos) (ssRet s) := ⟨ps_imp (ps_ret h.run) fun D σ H h => by
  obtain ⟨O, ρ, De, rel, hs, n, r, bk, ct, hx⟩ := h
  exact ⟨O, ρ, _, rel, hs, fun v H1 d m1 st dv q => r v H1 (.dat d) m1 (StepR.of rel st) (show Dv _ _ _ _ from dp_same Ow_sub dv) q, hx⟩⟩
/-- a new list is handed back -/
def ssRetF (s : SD) : SS := fun De ρ => s ρ fun ds m => De.rt (.new ds) m
theorem ds_retF (h : DF X XR E e sd) : DS X XR E (.Return (some e) pos) (ssRetF sd) := ⟨ps_imp (ps_ret h.run) fun D σ H h => by
  obtain ⟨O, ρ, De, rel, hs, n, r, bk, ct, hx⟩ := h
  refine ⟨O, ρ, _, rel, hs, fun p xs H1 ds m1 st np ep hd q => r _ H1 (.new ds) m1 (StepR.of rel st) ⟨p, xs, rfl, .inr np, fun z => rel.newNot np (.inl z), ep, dpa_same (same_hide fun q o nq eq => ⟨fun z => nq (z.elim (fun z => .inl (.inl z)) .inr), eq⟩) hd⟩ q, hx⟩⟩
/-- the list that a name owns is handed back -/
def ssRetOwn (i : Nat) : SS := fun De ρ => match ρ.sl[i]? with
  | some (.own ds) => De.rt (.new ds) ρ.m
  | _ => False
theorem ds_retOwn {i : Nat} (h : PE X e (tVar i)) : DS X XR E (.Return (some e) pos) (ssRetOwn i) := ⟨ps_imp (ps_ret h) fun D σ H h => by
  obtain ⟨O, ρ, De, rel, hs, n, r, bk, ct, hx⟩ := h
  unfold ssRetOwn at hs
  split at hs
  · rename_i ds hd
    obtain ⟨p, xs, e1, no, ep, da⟩ := rel.ok i _ hd
    have e2 := join_get.mp e1
    refine ⟨_, e2, r _ H (.new ds) ρ.m (StepR.of (m' := ρ.m) rel (Step.refl _ _ _)) ⟨p, xs, rfl, .inl ⟨i, _, e2, hd, rfl⟩, no, ep, ?_⟩ hs⟩
    exact dpa_same (same_hide fun q o nq eq => ⟨fun z => nq (z.elim .inl fun z => .inr ⟨i, _, by rw [z]; exact e2, hd, rfl⟩), eq⟩) da
  · exact hs.elim⟩
def ssRetN : SS := fun De ρ => De.rt (.dat .none) ρ.m
theorem ds_retN : DS X XR E (.Return none pos) ssRetN := ⟨ps_imp ps_retN fun D σ H h => by
  obtain ⟨O, ρ, De, rel, hs, n, r, bk, ct, hx⟩ := h
  exact r _ H (.dat .none) ρ.m (StepR.of (m' := ρ.m) rel (Step.refl _ _ _)) (show Dv _ _ _ _ from .non) hs⟩
def ssBreak : SS := fun De ρ => De.bk ρ
theorem ds_break : DS X XR E (.Break pos) ssBreak := ⟨ps_imp ps_break fun D σ H h => by
  obtain ⟨O, ρ, De, rel, hs, n, r, bk, ct, hx⟩ := h
  exact bk σ H ρ (StepS.of (m' := ρ.m) rel (Step.refl _ _ _)) rel hs⟩
def ssCont : SS := fun De ρ => De.ct ρ
theorem ds_cont : DS X XR E (.Continue pos) ssCont := ⟨ps_imp ps_continue fun D σ H h => by
  obtain ⟨O, ρ, De, rel, hs, n, r, bk, ct, hx⟩ := h
  exact ct σ H ρ (StepS.of (m' := ρ.m) rel (Step.refl _ _ _)) rel hs⟩
def ssNever : SS := fun _ _ => False
theorem ds_never : DS X XR E stm ssNever := ⟨ps_imp ps_never fun D σ H h => by
  obtain ⟨O, ρ, De, rel, hs, _⟩ := h
  exact hs⟩
theorem dss_never : DSs X XR E rest ssNever := ⟨pss_imp pss_never fun D σ H h => by
  obtain ⟨O, ρ, De, rel, hs, _⟩ := h
  exact hs⟩
/-- the lifted statement behind an expression's step -/
theorem lift_after {K : PySem.W.Frag} {O : Addr → Prop} {H H1 : Hp} {σ : L2.St} {ρ : DEnv} {m1 : Nat} {De : DEnds} {D : Ends} (rel : Rel K O H σ ρ) (st : Step (BagOf σ ρ.sl) H H1 ρ.m m1)
    (n : ∀ σ' H' ρ', StepS σ ρ H σ' ρ' H' → Rel K O H' σ' ρ' → De.nx ρ' → D.nx σ' H')
    (r : ∀ v H' rv m', StepR σ ρ H H' m' → RVok K O (fun p => OwnAt σ ρ.sl p ∨ H p = none) H' v rv → De.rt rv m' → D.rt v H')
    (bk : ∀ σ' H' ρ', StepS σ ρ H σ' ρ' H' → Rel K O H' σ' ρ' → De.bk ρ' → D.bk σ' H')
    (ct : ∀ σ' H' ρ', StepS σ ρ H σ' ρ' H' → Rel K O H' σ' ρ' → De.ct ρ' → D.ct σ' H') (hx : XOk XR E σ ρ H) {t : SS} (q : t De { ρ with m := m1 }) : liftS K XR E t D σ H1 := by
  have s1 := StepS.of rel st
  have r1 := rel.step st
  refine ⟨O, { ρ with m := m1 }, De, r1, q, fun σ2 H2 ρ2 st2 rel2 q => n σ2 H2 ρ2 (s1.trans rel r1 st2) rel2 q, fun v H2 rv m2 st2 ok q => r v H2 rv m2 (s1.thenR rel r1 st2) (ok.mono fun p f => ?_) q,
    fun σ2 H2 ρ2 st2 rel2 q => bk σ2 H2 ρ2 (s1.trans rel r1 st2) rel2 q, fun σ2 H2 ρ2 st2 rel2 q => ct σ2 H2 ρ2 (s1.trans rel r1 st2) rel2 q, hx.step st⟩
  rcases f with f | f
  · exact .inl f
  · exact .inr (s1.nw p f)
def ssIf (t : ST) (s u : SS) : SS := fun De ρ => t ρ fun b m => if b = true then s De { ρ with m := m } else u De { ρ with m := m }
theorem ds_if (hc : DT X XR E c st) (h1 : DSs X XR E body ss) (h2 : DSs X XR E rest tt) : DS X XR E (.If c body rest pos) (ssIf st ss tt) := ⟨ps_imp (ps_if hc.run h1.run h2.run) fun D σ H h => by
  obtain ⟨O, ρ, De, rel, hs, n, r, bk, ct, hx⟩ := h
  refine ⟨O, ρ, _, rel, hs, fun b H1 m1 st q => ?_, hx⟩
  cases b with
  | true =>
    rw [if_pos rfl] at q
    exact iteT (lift_after rel st n r bk ct hx q)
  | false =>
    rw [if_neg Bool.false_ne_true] at q
    exact iteF (lift_after rel st n r bk ct hx q)⟩

/-! ### stores -/
def ssAsg (s : SE) (g : SG) : SS := fun De ρ => s ρ fun d m => g d { ρ with m := m } De.nx
theorem ds_asg {tg : Expr} {is : List Nat} {g : SG} (he : DE X XR E e s) (hg : DG X tg is g) (hs : swapsWithSole [tg] e pos.line X.env = pure false := by rfl) (hw : swappedStores [tg] e X.env = pure none := by rfl)
    (h1 : (assignEach [tg] X.env).map (·.2) = [assign tg X.env] := by rfl) : DS X XR E (.Assign [tg] e pos) (ssAsg s g) := ⟨ps_imp (ps_asg he.run hg.run hs hw h1) fun D σ H h => by
  obtain ⟨O, ρ, De, rel, hs, n, r, bk, ct, hx⟩ := h
  refine ⟨O, ρ, _, rel, hs, fun v H1 d m1 st dv q => ⟨O, { ρ with m := m1 }, d, De.nx, rel.step st, dv, q, fun σ2 ρ2 ch st2 em rel2 q2 => n σ2 H1 ρ2 ((StepS.of rel st).trans rel (rel.step st) st2) rel2 q2⟩, hx⟩⟩
def ssAsgF (s : SD) (i : Nat) : SS := fun De ρ => s ρ fun ds m => De.nx { ρ with sl := ρ.sl.set i (.own ds), m := m }
theorem ds_asgF {tg : Expr} {i : Nat} (he : DF X XR E e sd) (hg : PG X tg (gName i)) (hs : swapsWithSole [tg] e pos.line X.env = pure false := by rfl) (hw : swappedStores [tg] e X.env = pure none := by rfl)
    (h1 : (assignEach [tg] X.env).map (·.2) = [assign tg X.env] := by rfl) : DS X XR E (.Assign [tg] e pos) (ssAsgF sd i) := ⟨ps_imp (ps_asg he.run hg hs hw h1) fun D σ H h => by
  obtain ⟨O, ρ, De, rel, hs, n, r, bk, ct, hx⟩ := h
  refine ⟨O, ρ, _, rel, hs, fun p xs H1 ds m1 st np ep hd q => ?_, hx⟩
  obtain ⟨r2, s2⟩ := rel.setOwn (i := i) st np ep hd
  exact n _ H1 _ s2 r2 q⟩
/-- a, b = e1, e2: two names -/
def ssPar (sd : SD) (i j : Nat) : SS := fun De ρ => sd ρ fun ds m => ∃ d e, ds = [d, e] ∧ De.nx { ρ with sl := (ρ.sl.set i (.dat d)).set j (.dat e), m := m }
theorem ds_par {i j : Nat} (h : PS X stm (tPar i j (liftD X.K XR E sd))) : DS X XR E stm (ssPar sd i j) := ⟨ps_imp h fun D σ H h => by
  obtain ⟨O, ρ, De, rel, hs, n, r, bk, ct, hx⟩ := h
  refine ⟨O, ρ, _, rel, hs, fun vs H1 ds m1 st dvs q => ?_, hx⟩
  obtain ⟨d, e, rfl, q⟩ := q
  obtain ⟨v, w, rfl, h1, h2⟩ := dva_two dvs
  have r1 := rel.step st
  have r2 := r1.setDat (i := i) h1
  have sub : Same (hide (Ow O σ ρ.sl) H1) (hide (Ow O (σ.set i (some v)) (ρ.sl.set i (.dat d))) H1) := same_hide fun p o np ep => ⟨fun z => z.elim (fun z => np (.inl z)) fun z => (own_set z).elim (fun y => by cases y.1) fun y => np (.inr y), ep⟩
  have r3 := r2.setDat (i := j) (d := e) (dp_same sub h2)
  have s1 := StepS.of rel st
  have s2 : StepS σ { ρ with m := m1 } H1 (σ.set i (some v)) { ρ with m := m1, sl := ρ.sl.set i (.dat d) } H1 := StepS.setDat.mpr fun p b => (r1.bagO b).2
  have s3 : StepS (σ.set i (some v)) { ρ with m := m1, sl := ρ.sl.set i (.dat d) } H1 ((σ.set i (some v)).set j (some w)) { ρ with m := m1, sl := (ρ.sl.set i (.dat d)).set j (.dat e) } H1 := StepS.setDat.mpr fun p b => (r2.bagO b).2
  exact ⟨v, w, rfl, n _ H1 _ ((s1.trans rel r1 s2).trans rel r2 s3) r3 q⟩⟩
/-- the slot of an owned list becomes a datum: nothing of the code -/
def freezeSl (i : Nat) (sl : List Slot) : List Slot := match sl[i]? with
  | some (.own ds) => sl.set i (.dat (.list ds))
  | _ => sl
def ssFreeze (i : Nat) (s : SS) : SS := fun De ρ => s De { ρ with sl := freezeSl i ρ.sl }
end
end DL
set_option maxHeartbeats 1000000
/-! The data layer, part l: loops, owned lists, updating targets. -/
namespace DL
open PySem PySem.Spec PyProof.Rows L2

section
variable {K : PySem.W.Frag} {O : Addr → Prop} {H H' H'' : Hp} {σ σ' σ'' : L2.St} {ρ ρ' ρ'' : DEnv} {m m' : Nat} {XR : XRT} {E : XK}
/-! ### a list is given up: it is a datum from here on -/
theorem Rel.freeze (r : Rel K O H σ ρ) {i : Nat} {ds : List D} (hi : ρ.sl[i]? = some (.own ds)) : Rel K O H σ { ρ with sl := ρ.sl.set i (.dat (.list ds)) } ∧
    (∀ q, OwnAt σ (ρ.sl.set i (.dat (.list ds))) q → OwnAt σ ρ.sl q) ∧ (∀ q, BagOf σ (ρ.sl.set i (.dat (.list ds))) q ↔ BagOf σ ρ.sl q) := by
  obtain ⟨p, xs, e1, no, ep, da⟩ := r.ok i _ hi
  have e2 := join_get.mp e1
  have own : ∀ q, OwnAt σ (ρ.sl.set i (.dat (.list ds))) q → OwnAt σ ρ.sl q ∧ q ≠ p := fun q h => by
    obtain ⟨j, s, h1, h2, h3⟩ := h
    by_cases e : i = j
    · subst e
      obtain ⟨rfl, _⟩ := set_self h2
      cases h3
    · have h2' := set_ne h2 e
      refine ⟨⟨j, s, h1, h2', h3⟩, fun z => ?_⟩
      subst z
      exact r.sep i j q _ s e e2 hi rfl h1 h2' h3
  have bag : ∀ q, BagOf σ (ρ.sl.set i (.dat (.list ds))) q ↔ BagOf σ ρ.sl q := fun q => by
    refine ⟨fun h => ?_, fun h => ?_⟩
    · obtain ⟨j, h1, h2⟩ := h
      by_cases e : i = j
      · subst e
        obtain ⟨z, _⟩ := set_self h2
        cases z
      · exact ⟨j, h1, set_ne h2 e⟩
    · obtain ⟨j, h1, h2⟩ := h
      have e : i ≠ j := fun z => by
        subst z
        rw [hi] at h2
        cases h2
      exact ⟨j, h1, by show (ρ.sl.set i _)[j]? = _; rw [List.getElem?_set_ne e]; exact h2⟩
  have sh : Same (hide (Ow O σ ρ.sl) H) (hide (Ow O σ (ρ.sl.set i (.dat (.list ds)))) H) := same_hide fun q o n e => ⟨fun z => n (z.elim .inl fun z => .inr (own q z).1), e⟩
  refine ⟨⟨by simp [r.len], r.trk, fun j s f => ?_, fun a b q s t ne h1 h2 h3 h4 h5 h6 => ?_⟩, fun q h => (own q h).1, bag⟩
  · by_cases e : i = j
    · subst e
      obtain ⟨rfl, _⟩ := set_self f
      exact ⟨.ref p, e1, .lst (hide_some.mpr ⟨fun z => z.elim no fun z => (own p z).2 rfl, ep⟩) (dpa_same sh da)⟩
    · have f' := set_ne f e
      have h := r.ok j s f'
      cases s with
      | un => trivial
      | dat d => obtain ⟨x, e1, q⟩ := h; exact ⟨x, e1, dp_same sh q⟩
      | own ds => obtain ⟨p, xs, e1, n, e2, q⟩ := h; exact ⟨p, xs, e1, n, e2, dpa_same sh q⟩
      | bag => exact h
      | raw w => exact h
  · have fx : ∀ (c : Nat) (u : Slot), (ρ.sl.set i (.dat (.list ds)))[c]? = some u → u.isOwn = true → i ≠ c := fun c u h1 h2 e => by
      subst e
      obtain ⟨rfl, _⟩ := set_self h1
      cases h2
    exact r.sep a b q s t ne h1 (set_ne h2 (fx a s h2 h3)) h3 h4 (set_ne h5 (fx b t h5 h6)) h6
theorem StepS.unfreeze {i : Nat} {ds : List D} (hi : ρ.sl[i]? = some (.own ds)) (own : ∀ q, OwnAt σ (ρ.sl.set i (.dat (.list ds))) q → OwnAt σ ρ.sl q) (bag : ∀ q, BagOf σ (ρ.sl.set i (.dat (.list ds))) q ↔ BagOf σ ρ.sl q)
    (s : StepS σ { ρ with sl := ρ.sl.set i (.dat (.list ds)) } H σ' ρ' H') : StepS σ ρ H σ' ρ' H' :=
  ⟨fun p o e n => s.keep p o e fun z => n (z.elim (fun z => .inl (own p z)) fun z => .inr ((bag p).mp z)), fun p b => s.bag p ((bag p).mpr b), fun p h => (s.own p h).elim (fun z => .inl (own p z)) .inr, fun p h => (bag p).mp (s.bgs p h), s.le, s.F, s.nw⟩
theorem StepR.unfreeze {i : Nat} {ds : List D} (own : ∀ q, OwnAt σ (ρ.sl.set i (.dat (.list ds))) q → OwnAt σ ρ.sl q) (bag : ∀ q, BagOf σ (ρ.sl.set i (.dat (.list ds))) q ↔ BagOf σ ρ.sl q)
    (s : StepR σ { ρ with sl := ρ.sl.set i (.dat (.list ds)) } H H' m') : StepR σ ρ H H' m' :=
  ⟨fun p o e n => s.keep p o e fun z => n (z.elim (fun z => .inl (own p z)) fun z => .inr ((bag p).mp z)), fun p b => s.bag p ((bag p).mpr b), s.le⟩
theorem dss_freeze {X : Cx} {st : List Stmt} {t : SS} (i : Nat) (h : DSs X XR E st t) : DSs X XR E st (ssFreeze i t) := ⟨pss_imp h.run fun D σ H h => by
  obtain ⟨O, ρ, De, rel, hs, n, r, bk, ct, hx⟩ := h
  unfold ssFreeze freezeSl at hs
  split at hs
  · rename_i ds hi
    obtain ⟨r1, own, bag⟩ := rel.freeze hi
    exact ⟨O, _, De, r1, hs, fun σ' H' ρ' s => n σ' H' ρ' (s.unfreeze hi own bag), fun v H' rv m' s ok => r v H' rv m' (s.unfreeze own bag) (ok.mono fun p f => f.elim (fun z => .inl (own p z)) .inr),
      fun σ' H' ρ' s => bk σ' H' ρ' (s.unfreeze hi own bag), fun σ' H' ρ' s => ct σ' H' ρ' (s.unfreeze hi own bag), fun x c a H2 f q k => hx x c a H2 f q fun p o e nm => k p o e fun z => nm (z.elim (fun z => .inl (own p z)) fun z => .inr ((bag p).mp z))⟩
  · exact ⟨O, ρ, De, rel, hs, n, r, bk, ct, hx⟩⟩

/-! ### an owned list is changed -/
theorem Rel.updOwn (r : Rel K O H σ ρ) {i : Nat} {p : Addr} {s0 : Slot} {xs' : List V} {zs : List D} (e : σ[i]? = some (some (.ref p))) (hi : ρ.sl[i]? = some s0) (ho : s0.isOwn = true) (hz : DvAll K (hide (Ow O σ ρ.sl) H) xs' zs) :
    Rel K O (upd H p (.lst xs')) σ { ρ with sl := ρ.sl.set i (.own zs) } ∧ StepS σ ρ H σ { ρ with sl := ρ.sl.set i (.own zs) } (upd H p (.lst xs')) := by
  have oa : OwnAt σ ρ.sl p := ⟨i, s0, e, hi, ho⟩
  obtain ⟨no, xs0, ep⟩ := r.ownO oa
  have own : ∀ q, OwnAt σ (ρ.sl.set i (.own zs)) q ↔ OwnAt σ ρ.sl q := fun q => by
    refine ⟨fun h => ?_, fun h => ?_⟩
    · obtain ⟨j, s, h1, h2, h3⟩ := h
      by_cases ej : i = j
      · subst ej
        exact ⟨i, s0, h1, hi, ho⟩
      · exact ⟨j, s, h1, set_ne h2 ej, h3⟩
    · obtain ⟨j, s, h1, h2, h3⟩ := h
      by_cases ej : i = j
      · subst ej
        have hl : i < ρ.sl.length := (List.getElem?_eq_some_iff.mp hi).1
        exact ⟨i, .own zs, h1, by show (ρ.sl.set i _)[i]? = _; rw [List.getElem?_set_self hl], rfl⟩
      · exact ⟨j, s, h1, by show (ρ.sl.set i _)[j]? = _; rw [List.getElem?_set_ne ej]; exact h2, h3⟩
  have bgs : ∀ q, BagOf σ (ρ.sl.set i (.own zs)) q → BagOf σ ρ.sl q := fun q h => by
    obtain ⟨j, h1, h2⟩ := h
    by_cases ej : i = j
    · subst ej
      obtain ⟨z, _⟩ := set_self h2
      cases z
    · exact ⟨j, h1, set_ne h2 ej⟩
  have sh : Same (hide (Ow O σ ρ.sl) H) (hide (Ow O σ (ρ.sl.set i (.own zs))) (upd H p (.lst xs'))) := same_hide fun q o n eq => ⟨fun z => n (z.elim .inl fun z => .inr ((own q).mp z)), by
    rw [upd_ne (show q ≠ p from fun z => n (.inr (by rw [z]; exact oa)))]
    exact eq⟩
  have nbag : ∀ q, BagOf σ ρ.sl q → q ≠ p := fun q b z => no (z ▸ (r.bagO b).1)
  refine ⟨⟨by simp [r.len], fun q h => ?_, fun j s f => ?_, fun a b q s t ne h1 h2 h3 h4 h5 h6 => ?_⟩, ⟨fun q o eq nm => ?_, fun q b => ?_, fun q h => .inl ((own q).mp h), bgs, Nat.le_refl _, rfl, fun q nq => ?_⟩⟩
  · obtain ⟨o, eo⟩ := r.trk q h
    exact ⟨o, by rw [upd_ne (show q ≠ p from fun z => no (by rw [← z]; exact h))]; exact eo⟩
  · by_cases ej : i = j
    · subst ej
      obtain ⟨rfl, _⟩ := set_self f
      exact ⟨p, xs', join_get.mpr e, no, upd_same, dpa_same sh hz⟩
    · have f' := set_ne f ej
      have h := r.ok j s f'
      cases s with
      | un => trivial
      | dat d => obtain ⟨x, e1, q⟩ := h; exact ⟨x, e1, dp_same sh q⟩
      | own ds =>
        obtain ⟨q, ys, e1, n, e2, hq⟩ := h
        refine ⟨q, ys, e1, n, ?_, dpa_same sh hq⟩
        rw [upd_ne (show q ≠ p from fun z => ?_)]
        · exact e2
        · subst z
          exact r.sep i j q s0 _ ej e hi ho (join_get.mp e1) f' rfl
      | bag =>
        obtain ⟨q, e1, hO, hb⟩ := h
        exact ⟨q, e1, hO, hb.same fun o eo => by rw [upd_ne (show q ≠ p from fun z => no (by rw [← z]; exact hO))]; exact eo⟩
      | raw w => exact h
  · have back : ∀ (c : Nat) (u : Slot), (ρ.sl.set i (.own zs))[c]? = some u → u.isOwn = true → ∃ u', ρ.sl[c]? = some u' ∧ u'.isOwn = true := fun c u h1 h2 => by
      by_cases ec : i = c
      · subst ec
        exact ⟨s0, hi, ho⟩
      · exact ⟨u, set_ne h1 ec, h2⟩
    obtain ⟨u1, g1, g2⟩ := back a s h2 h3
    obtain ⟨u2, g3, g4⟩ := back b t h5 h6
    exact r.sep a b q u1 u2 ne h1 g1 g2 h4 g3 g4
  · rw [upd_ne (show q ≠ p from fun z => nm (.inl (by rw [z]; exact oa)))]
    exact eq
  · exact (r.bagO b).2.same fun o eo => by rw [upd_ne (nbag q b)]; exact eo
  · by_cases z : q = p
    · subst z
      rw [upd_same] at nq
      cases nq
    · rw [upd_ne z] at nq
      exact nq
end

/-! ### loops -/
def forL (g : SG) (body : SS) (De : DEnds) : List D → DEnv → Prop
  | [], ρ => De.nx ρ
  | d :: ds, ρ => g d ρ fun ρ1 => body { nx := forL g body De ds, rt := De.rt, bk := De.nx, ct := forL g body De ds } ρ1
def ssFor (si : SD) (g : SG) (body : SS) : SS := fun De ρ => si ρ fun ds m => forL g body De ds { ρ with m := m }
def whileN (c : ST) (body : SS) (De : DEnds) : Nat → DEnv → Prop
  | 0, _ => False
  | n + 1, ρ => c ρ fun b m => if b = true then body { nx := whileN c body De n, rt := De.rt, bk := De.nx, ct := whileN c body De n } { ρ with m := m } else De.nx { ρ with m := m }
def ssWhile (c : ST) (body : SS) : SS := fun De ρ => ∃ n, whileN c body De n ρ
section
variable {X : Cx} {XR : XRT} {E : XK} {tg iter c : Expr} {si : SD} {is : List Nat} {g : SG} {body : SS} {st : ST} {stms : List Stmt} {pos : Pos}
theorem ds_for (hp : PassesOwn (model X.prog X.w) X.A X.env X.xe) (hc : X.calm = true) (hi : DI X XR E tg iter si) (hg : DG X tg is g) (hb : DSs X XR E stms body) (hs : ∀ x, foldedSetIterable iter X.env x = pure x := by intro _; rfl) :
    DS X XR E (.For tg iter stms [] pos) (ssFor si g body) := ⟨ps_imp (ps_for hp hc hi.run hg.run hb.run hs) fun D σ H h => by
  obtain ⟨O, ρ, De, rel, hs, n, r, bk, ct, hx⟩ := h
  refine ⟨O, ρ, _, rel, hs, fun J H1 ds m1 st wk hr => ?_, hx⟩
  have s1 := StepS.of rel st
  have rel1 := rel.step st
  have bO : ∀ {p : Addr}, BagOf σ ρ.sl p → O p := fun b => (rel.bagO b).1
  refine for_it wk (Pv := fun i σ2 H2 => ∃ ρ2, StepS σ { ρ with m := m1 } H1 σ2 ρ2 H2 ∧ Rel X.K O H2 σ2 ρ2 ∧ forL g body De (ds.drop i) ρ2) ⟨{ ρ with m := m1 }, StepS.of (m' := m1) rel1 (Step.refl _ _ _), rel1, by simpa using hr⟩
    (fun i σ2 H2 hi p => ?_) (fun i x σ2 H2 H3 hi p y => ?_) (fun σ2 H2 p => ?_)
  · obtain ⟨ρ2, s2, _⟩ := p
    exact fun b o e => s2.keep b o (hide_some.mp e).2 fun z => (hide_some.mp e).1 (z.elim .inr fun z => .inl (bO z))
  · obtain ⟨ρ2, s2, rel2, hf⟩ := p
    obtain ⟨d, ed, y⟩ := y
    have edr : ds.drop i = d :: ds.drop (i + 1) := by
      have hi' := List.getElem?_eq_some_iff.mp ed
      rw [← hi'.2]
      exact List.drop_eq_getElem_cons hi'.1
    rw [edr] at hf
    have sh12 : Same (hide (Ow O σ ρ.sl) H1) (hide (Ow O σ2 ρ2.sl) H2) := same_hide fun p o np e => ⟨fun z => z.elim (fun z => np (.inl z)) (fun z => (s2.own p z).elim (fun z => np (.inr z)) fun z => by
      rw [e] at z
      cases z), s2.keep p o e fun z => np (z.elim .inr fun z => .inl (bO z))⟩
    have item : Same H2 H3 ∧ Dv X.K (hide (Ow O σ2 ρ2.sl) H3) x d := by
      rcases y with ⟨rfl, hd⟩ | ⟨T, vs', es, rfl, hT, rfl, rfl, hes⟩
      · exact ⟨Same.refl _, dp_same sh12 hd⟩
      · exact ⟨same_new hT, dv_newT (fun p hp => rel2.owTrk hp) hT (dpa_same sh12 hes)⟩
    obtain ⟨s23, hd3⟩ := item
    have st23 : Step (BagOf σ2 ρ2.sl) H2 H3 ρ2.m ρ2.m := Step.same s23
    have rel3 : Rel X.K O H3 σ2 ρ2 := rel2.step st23
    have s3 : StepS σ { ρ with m := m1 } H1 σ2 ρ2 H3 := s2.trans rel1 rel2 (StepS.of (m' := ρ2.m) rel2 st23)
    refine ⟨O, ρ2, d, _, rel3, hd3, hf, fun σ4 ρ4 ch st4 em rel4 hb4 => ?_⟩
    have s4 := s3.trans rel1 rel3 st4
    have sOut := s1.trans rel rel1 s4
    refine ⟨O, ρ4, _, rel4, hb4, fun σ5 H5 ρ5 st5 rel5 q => ⟨ρ5, s4.trans rel1 rel4 st5, rel5, q⟩, fun v H5 rv m5 st5 ok q => r v H5 rv m5 (sOut.thenR rel rel4 st5) (ok.mono fun p f => ?_) q,
      fun σ5 H5 ρ5 st5 rel5 q => n σ5 H5 ρ5 (sOut.trans rel rel4 st5) rel5 q, fun σ5 H5 ρ5 st5 rel5 q => ⟨ρ5, s4.trans rel1 rel4 st5, rel5, q⟩, hx.stepS sOut⟩
    rcases f with f | f
    · exact sOut.own p f
    · exact .inr (sOut.nw p f)
  · obtain ⟨ρ2, s2, rel2, hf⟩ := p
    rw [List.drop_length] at hf
    exact n σ2 H2 ρ2 (s1.trans rel rel1 s2) rel2 hf⟩
theorem ds_while (hp : PassesOwn (model X.prog X.w) X.A X.env X.xe) (hc : DT X XR E c st) (hb : DSs X XR E stms body) : DS X XR E (.While c stms [] pos) (ssWhile st body) := ⟨ps_imp (ps_while hp hc.run hb.run) fun D σ H h => by
  obtain ⟨O, ρ, De, rel, ⟨k, hs⟩, n, r, bk, ct, hx⟩ := h
  refine ⟨fun k σ2 H2 => ∃ ρ2, StepS σ ρ H σ2 ρ2 H2 ∧ Rel X.K O H2 σ2 ρ2 ∧ whileN st body De k ρ2, ⟨k, ρ, StepS.of (m' := ρ.m) rel (Step.refl _ _ _), rel, hs⟩, fun k σ2 H2 hw => ?_⟩
  obtain ⟨ρ2, s2, rel2, hw⟩ := hw
  cases k with
  | zero => exact hw.elim
  | succ k =>
    refine ⟨O, ρ2, _, rel2, hw, fun b H3 m3 st3 q => ?_, hx.stepS s2⟩
    have rel3 := rel2.step st3
    have s3 := s2.trans rel rel2 (StepS.of rel2 st3)
    cases b with
    | false =>
      rw [if_neg Bool.false_ne_true] at q
      exact iteF (n _ H3 _ s3 rel3 q)
    | true =>
      rw [if_pos rfl] at q
      refine iteT ⟨fun σ5 H5 => ∃ ρ5, StepS σ ρ H σ5 ρ5 H5 ∧ Rel X.K O H5 σ5 ρ5 ∧ whileN st body De k ρ5, fun σ5 H5 p => ⟨k, Nat.lt_succ_self k, p⟩, O, { ρ2 with m := m3 }, _, rel3, q, fun σ5 H5 ρ5 st5 rel5 q => ⟨ρ5, s3.trans rel rel3 st5, rel5, q⟩, fun v H5 rv m5 st5 ok q => r v H5 rv m5 (s3.thenR rel rel3 st5) (ok.mono fun p f => ?_) q,
        fun σ5 H5 ρ5 st5 rel5 q => n σ5 H5 ρ5 (s3.trans rel rel3 st5) rel5 q, fun σ5 H5 ρ5 st5 rel5 q => ⟨ρ5, s3.trans rel rel3 st5, rel5, q⟩, hx.stepS s3⟩
      rcases f with f | f
      · exact s3.own p f
      · exact .inr (s3.nw p f)⟩
end

/-! ### methods of an owned list -/
def OwnMt (K : PySem.W.Frag) (r : V → List V → Hp → VK → Prop) (f : List D → List D → Option (List D)) : Prop := ∀ (O : Addr → Prop) (H : Hp) (p : Addr) (xs vs : List V) (ds es zs : List D) (Q : VK), (∀ p, O p → ∃ o, H p = some o) → H p = some (.lst xs) →
  DvAll K (hide O H) xs ds → DvAll K (hide O H) vs es → f ds es = some zs → (∀ xs', DvAll K (hide O H) xs' zs → Q .non (upd H p (.lst xs'))) → r (.ref p) vs H Q
def ssOwnM (i : Nat) (f : List D → List D → Option (List D)) (sd : SD) : SS := fun De ρ => match ρ.sl[i]? with
  | some (.own ds) => sd ρ fun es m => ∃ zs, f ds es = some zs ∧ De.nx { ρ with sl := ρ.sl.set i (.own zs), m := m }
  | _ => False
section
variable {X : Cx} {XR : XRT} {E : XK} {o e : Expr} {es : List Expr} {sd : SD} {pos : Pos}
theorem ds_ownM {i : Nat} {r : V → List V → Hp → VK → Prop} {f : List D → List D → Option (List D)} {call : Expr} (hf : OwnMt X.K r f) (h : PE X call (tBM X.K "list" r (tVar i) (liftD X.K XR E sd))) (hs : swapsWith call none pos.line X.env = pure false := by rfl) :
    DS X XR E (.Expr call pos) (ssOwnM i f sd) := ⟨ps_imp (ps_expr h hs) fun D σ H h => by
  obtain ⟨O, ρ, De, rel, hs, n, r, bk, ct, hx⟩ := h
  unfold ssOwnM at hs
  split at hs
  · rename_i ds hi
    obtain ⟨p, xs, e1, no, ep, da⟩ := rel.ok i _ hi
    have e2 := join_get.mp e1
    refine ⟨_, e2, Or.inl ⟨rfl, xs, .inl (.inl ep)⟩, O, ρ, _, rel, hs, fun vs H1 es m1 st dvs q => ?_, hx⟩
    obtain ⟨zs, hz, q⟩ := q
    have rel1 := rel.step st
    obtain ⟨p', xs1, e1', no', ep', da'⟩ := rel1.ok i _ hi
    rw [e1] at e1'
    cases e1'
    refine hf _ H1 p xs1 vs ds es zs _ (fun p hp => rel1.owTrk hp) ep' da' dvs hz fun xs' hx' => ?_
    obtain ⟨r2, s2⟩ := rel1.updOwn e2 hi rfl hx'
    exact n _ _ _ ((StepS.of rel st).trans rel rel1 s2) r2 q
  · exact hs.elim⟩
def appendM : List D → List D → Option (List D)
  | ds, [d] => if lenOk (ds.length + 1) then some (ds ++ [d]) else none
  | _, _ => none
theorem om_append {K : PySem.W.Frag} : OwnMt K rAppend appendM := by
  intro O H p xs vs ds es zs Q trk ep hx hv hz q
  unfold appendM at hz
  split at hz
  · split at hz <;> cases hz
    rename_i hl
    obtain ⟨v, rfl, h⟩ := dva_one hv
    have hl2 : lenOk xs.length := by
      rw [dpa_len hx]
      exact Nat.le_of_succ_le hl
    exact ⟨p, xs, v, rfl, rfl, ep, hl2.lt, q _ (dpa_app hx (.cons h .nil))⟩
  · cases hz
end

/-! ### targets that change an owned list -/
abbrev TGu := D → DEnv → (DEnv → Prop) → Prop
def liftU (K : PySem.W.Frag) (XR : XRT) (E : XK) (s : SG) : TG := fun v σ H Q => ∃ (O : Addr → Prop) (ρ : DEnv) (d : D) (R : DEnv → Prop), Rel K O H σ ρ ∧ Dv K (hide (Ow O σ ρ.sl) H) v d ∧ s d ρ R ∧
  (∀ σ' H' ρ', StepS σ ρ H σ' ρ' H' → Rel K O H' σ' ρ' → R ρ' → Q σ' H') ∧ XOk XR E σ ρ H
def liftUs (K : PySem.W.Frag) (XR : XRT) (E : XK) (s : SGs) : TGs := fun vs σ H Q => ∃ (O : Addr → Prop) (ρ : DEnv) (ds : List D) (R : DEnv → Prop), Rel K O H σ ρ ∧ DvAll K (hide (Ow O σ ρ.sl) H) vs ds ∧ s ds ρ R ∧
  (∀ σ' H' ρ', StepS σ ρ H σ' ρ' H' → Rel K O H' σ' ρ' → R ρ' → Q σ' H') ∧ XOk XR E σ ρ H
structure DU (X : Cx) (XR : XRT) (E : XK) (tg : Expr) (s : SG) : Prop where
  run : PG X tg (liftU X.K XR E s)
structure DUs (X : Cx) (XR : XRT) (E : XK) (tg : List Expr) (s : SGs) : Prop where
  run : PGs X tg (liftUs X.K XR E s)
def sgOwn (i : Nat) (si : SE) : SG := fun d ρ R => match ρ.sl[i]? with
  | some (.own ds) => si ρ fun k m => ∃ z j, k = .int z ∧ ixN ds.length z = some j ∧ R { ρ with sl := ρ.sl.set i (.own (ds.set j d)), m := m }
  | _ => False
section
variable {X : Cx} {XR : XRT} {E : XK} {tg o ix e : Expr} {es : List Expr} {s : SE} {si : SE} {g : SG} {gs : SGs} {is : List Nat} {pos : Pos}
theorem du_of (h : DG X tg is g) : DU X XR E tg g := ⟨pg_imp h.run fun v σ H Q h => by
  obtain ⟨O, ρ, d, R, rel, dv, hs, q, hx⟩ := h
  exact ⟨O, ρ, d, R, rel, dv, hs, fun σ' ρ' ch st em rel' hr => q σ' H ρ' st rel' hr⟩⟩
theorem du_own {i : Nat} (h : PG X tg (gSub (tVar i) (liftE X.K XR E si) rSetL)) : DU X XR E tg (sgOwn i si) := ⟨pg_imp h fun v σ H Q h => by
  obtain ⟨O, ρ, d, R, rel, dv, hs, q, hx⟩ := h
  unfold sgOwn at hs
  split at hs
  · rename_i ds hi
    obtain ⟨p, xs, e1, no, ep, da⟩ := rel.ok i _ hi
    have e2 := join_get.mp e1
    refine ⟨_, e2, O, ρ, _, rel, hs, fun k H1 kd m1 st dk hr => ?_, hx⟩
    obtain ⟨z, j, rfl, hj, hr⟩ := hr
    have rel1 := rel.step st
    obtain ⟨p', xs1, e1', no', ep', da'⟩ := rel1.ok i _ hi
    rw [e1] at e1'
    cases e1'
    obtain ⟨r2, s2⟩ := rel1.updOwn e2 hi rfl (dpa_set (dp_same (rel.sameHide st) dv) j da')
    exact ⟨p, xs1, z, j, rfl, dv_int dk, ep', by rw [dpa_len da']; exact hj, q _ _ _ ((StepS.of rel st).trans rel rel1 s2) r2 hr⟩
  · exact hs.elim⟩
theorem dus_nil : DUs X XR E [] sgNil := ⟨pgs_imp pgs_nil fun vs σ H Q h => by
  obtain ⟨O, ρ, ds, R, rel, dv, ⟨rfl, hs⟩, q, hx⟩ := h
  cases dv
  exact ⟨rfl, q σ H ρ (StepS.of (m' := ρ.m) rel (Step.refl _ _ _)) rel hs⟩⟩
theorem dus_cons (h1 : DU X XR E e g) (h2 : DUs X XR E es gs) (hs : (assignEach (e :: es) X.env).map (·.2) = assign e X.env :: (assignEach es X.env).map (·.2) := by rfl) : DUs X XR E (e :: es) (sgCons g gs) := ⟨pgs_imp (pgs_cons h1.run h2.run hs) fun vs σ H Q h => by
  obtain ⟨O, ρ, ds, R, rel, dv, ⟨d, r, rfl, hs⟩, q, hx⟩ := h
  cases dv with
  | cons hd ht =>
    refine ⟨_, _, rfl, O, ρ, d, _, rel, hd, hs, fun σ1 H1 ρ1 st1 rel1 hr => ⟨O, ρ1, r, R, rel1, ?_, hr, fun σ2 H2 ρ2 st2 rel2 hr2 => q σ2 H2 ρ2 (st1.trans rel rel1 st2) rel2 hr2, hx.stepS st1⟩, hx⟩
    refine dpa_same (same_hide fun p o n e => ⟨fun z => ?_, st1.keep p o e fun z => n (z.elim .inr fun z => .inl (rel.bagO z).1)⟩) ht
    rcases z with z | z
    · exact n (.inl z)
    · rcases st1.own p z with z | z
      · exact n (.inr z)
      · rw [e] at z
        cases z⟩
theorem du_tup {k n : Nat} (hc : X.calm = true) (h : DUs X XR E es gs) (hn : (assignEach es X.env).length = n := by rfl) (hst : (assignEach es X.env).findIdx? (·.1) = none := by rfl) : DU X XR E (.Tuple es k pos) (sgTup n gs) := ⟨pg_imp (pg_tup hc h.run hn hst) fun v σ H Q h => by
  obtain ⟨O, ρ, d, R, rel, dv, ⟨xs, rfl, hl, hs⟩, q, hx⟩ := h
  obtain ⟨a, ys, rfl, et, _, hall⟩ := dv_tup dv
  exact ⟨a, ys, rfl, et, by rw [dpa_len hall]; exact hl, O, ρ, xs, R, rel, hall, hs, q, hx⟩⟩
theorem ds_asgU (he : DE X XR E e s) (hg : DU X XR E tg g) (hs : swapsWithSole [tg] e pos.line X.env = pure false := by rfl) (hw : swappedStores [tg] e X.env = pure none := by rfl)
    (h1 : (assignEach [tg] X.env).map (·.2) = [assign tg X.env] := by rfl) : DS X XR E (.Assign [tg] e pos) (ssAsg s g) := ⟨ps_imp (ps_asg he.run hg.run hs hw h1) fun D σ H h => by
  obtain ⟨O, ρ, De, rel, hs, n, r, bk, ct, hx⟩ := h
  exact ⟨O, ρ, _, rel, hs, fun v H1 d m1 st dv q => ⟨O, { ρ with m := m1 }, d, De.nx, rel.step st, dv, q, fun σ2 H2 ρ2 st2 rel2 q2 => n σ2 H2 ρ2 ((StepS.of rel st).trans rel (rel.step st) st2) rel2 q2, hx.step st⟩, hx⟩⟩
end
end DL
set_option maxHeartbeats 1000000
/-! The data layer, part m: defs and their calls. -/
namespace DL
open PySem PySem.Spec PyProof.Rows L2

abbrev FS := List Slot → Nat → (Exc → Prop) → (RV → Nat → Prop) → Prop
def spD (K : PySem.W.Frag) (XR : XRT) (n : Nat) (g : FS) : Sp := fun vs H Q E => ∃ (O : Addr → Prop) (ss : List Slot) (m : Nat) (F : Exc → Prop) (R : RV → Nat → Prop), vs.length = n ∧ Rel K O H (vs.map some) ⟨ss, m, F⟩ ∧ (∀ s ∈ ss, s.isOwn = false) ∧ g ss m F R ∧
  (∀ v H' rv m', Step (BagOf (vs.map some) ss) H H' m m' → RVok K O (fun p => H p = none) H' v rv → R rv m' → Q v H') ∧
  (∀ x c a H', F x → XR x c a H' → (∀ p o, H p = some o → ¬ BagOf (vs.map some) ss p → H' p = some o) → E c a H')
def fnS (N n : Nat) (body : SS) : FS := fun ss m F R => body { nx := fun ρ => R (.dat .none) ρ.m, rt := R, bk := fun _ => False, ct := fun _ => False } ⟨ss ++ List.replicate (N - n) .un, m, F⟩
theorem passA {X : Cx} {E : XK} : Passes CX0 X E := fun _ _ _ _ _ _ _ h => h.elim

section
variable {K : PySem.W.Frag} {O : Addr → Prop} {H H' : Hp} {σ : L2.St} {sl : List Slot} {m : Nat} {F : Exc → Prop}
theorem ext_get {n i : Nat} {s : Slot} (h : (sl ++ List.replicate n Slot.un)[i]? = some s) : s = .un ∨ sl[i]? = some s := by
  by_cases e : i < sl.length
  · rw [List.getElem?_append_left e] at h
    exact .inr h
  · rw [List.getElem?_append_right (by omega), List.getElem?_replicate] at h
    split at h
    · exact .inl (Option.some.inj h).symm
    · cases h
theorem ext_st {n i : Nat} {v : V} (h : (σ ++ List.replicate n none)[i]? = some (some v)) : σ[i]? = some (some v) := by
  by_cases e : i < σ.length
  · rw [List.getElem?_append_left e] at h
    exact h
  · rw [List.getElem?_append_right (by omega), List.getElem?_replicate] at h
    split at h
    · cases h
    · cases h
theorem st_ext {n i : Nat} {v : V} (h : σ[i]? = some (some v)) : (σ ++ List.replicate n none)[i]? = some (some v) := by
  have e : i < σ.length := (List.getElem?_eq_some_iff.mp h).1
  rw [List.getElem?_append_left e]
  exact h
theorem sl_ext {n i : Nat} {s : Slot} (h : sl[i]? = some s) : (sl ++ List.replicate n Slot.un)[i]? = some s := by
  have e : i < sl.length := (List.getElem?_eq_some_iff.mp h).1
  rw [List.getElem?_append_left e]
  exact h
theorem own_ext {n : Nat} {p : Addr} : OwnAt (σ ++ List.replicate n none) (sl ++ List.replicate n Slot.un) p ↔ OwnAt σ sl p := by
  refine ⟨fun ⟨i, s, h1, h2, h3⟩ => ?_, fun ⟨i, s, h1, h2, h3⟩ => ⟨i, s, st_ext h1, sl_ext h2, h3⟩⟩
  rcases ext_get h2 with z | z
  · rw [z] at h3
    cases h3
  · exact ⟨i, s, ext_st h1, z, h3⟩
theorem bag_ext {n : Nat} {p : Addr} : BagOf (σ ++ List.replicate n none) (sl ++ List.replicate n Slot.un) p ↔ BagOf σ sl p := by
  refine ⟨fun ⟨i, h1, h2⟩ => ?_, fun ⟨i, h1, h2⟩ => ⟨i, st_ext h1, sl_ext h2⟩⟩
  rcases ext_get h2 with z | z
  · cases z
  · exact ⟨i, ext_st h1, z⟩
theorem Rel.ext (r : Rel K O H σ ⟨sl, m, F⟩) (n : Nat) : Rel K O H (σ ++ List.replicate n none) ⟨sl ++ List.replicate n .un, m, F⟩ := by
  have eo : Ow O (σ ++ List.replicate n none) (sl ++ List.replicate n .un) = Ow O σ sl := by
    funext p
    unfold Ow
    rw [show OwnAt (σ ++ List.replicate n none) (sl ++ List.replicate n .un) p = OwnAt σ sl p from propext own_ext]
  refine ⟨by have := r.len; simp at this ⊢; omega, r.trk, fun i s f => ?_, fun a b p s t ne h1 h2 h3 h4 h5 h6 => ?_⟩
  · show SlotOk K O (hide (Ow O _ _) H) H m _ s
    rw [eo]
    rcases ext_get f with z | z
    · rw [z]
      trivial
    · have h := r.ok i s z
      have hl : i < σ.length := by rw [← r.len]; exact (List.getElem?_eq_some_iff.mp z).1
      rw [List.getElem?_append_left hl]
      exact h
  · rcases ext_get h2 with z | z
    · rw [z] at h3
      cases h3
    · rcases ext_get h5 with y | y
      · rw [y] at h6
        cases h6
      · exact r.sep a b p s t ne (ext_st h1) z h3 (ext_st h4) y h6
end
section
variable {P : Program} {w : World} {K : PySem.W.Frag} {mg : Str → Option Value} {base : Heap} {XR : XRT}
/-- the lifted body, where a def is entered -/
theorem lift_body {n k : Nat} {body : SS} {N : List Str} {vs : List V} {H : Hp} {Q : VK} {E : XK} (hn : n ≤ N.length) (h : spD K XR n (fnS N.length n body) vs H Q E) : liftS K XR E body { nx := fun _ H' => Q .non H', rt := Q } (L2.start N vs) H := by
  obtain ⟨O, ss, m, F, R, hl, rel, no, hg, q, hx⟩ := h
  have nown : ∀ p, ¬ OwnAt (vs.map some) ss p := fun p ⟨i, s, _, h2, h3⟩ => by
    rw [no s (List.mem_of_getElem? h2)] at h3
    cases h3
  have e : L2.start N vs = vs.map some ++ List.replicate (N.length - n) none := by
    unfold L2.start
    rw [hl]
  rw [e]
  have st : ∀ {H' m'}, (∀ p o, H p = some o → ¬ MutAt (vs.map some ++ List.replicate (N.length - n) none) (ss ++ List.replicate (N.length - n) .un) p → H' p = some o) → (∀ p, BagOf (vs.map some ++ List.replicate (N.length - n) none) (ss ++ List.replicate (N.length - n) .un) p → BagAt H' p m') → m ≤ m' →
      Step (BagOf (vs.map some) ss) H H' m m' := fun {H' m'} k b l => ⟨fun p o eo nb => k p o eo fun z => z.elim (fun z => nown p (own_ext.mp z)) fun z => nb (bag_ext.mp z), fun p bp _ => b p (bag_ext.mpr bp), l⟩
  refine ⟨O, _, _, rel.ext (N.length - n), hg, fun σ' H' ρ' s rel' qn => q _ H' (.dat .none) ρ'.m (st s.keep s.bag s.le) (show Dv _ _ _ _ from .non) qn, fun v H' rv m' s ok qn => q v H' rv m' (st s.keep s.bag s.le) (ok.mono fun p f => ?_) qn, fun _ _ _ _ _ z => z.elim, fun _ _ _ _ _ z => z.elim, fun x c a H' f r kp => hx x c a H' f r fun p o eo nb => kp p o eo fun z => z.elim (fun z => nown p (own_ext.mp z)) fun z => nb (bag_ext.mp z)⟩
  exact f.elim (fun z => (nown p (own_ext.mp z)).elim) id
/-- A DEF that lets no exception out, by its body's meaning -/
theorem fun_okD {x qual : Str} {st : Stmt} {f : Addr} {fd : FuncData} {N ps : List Str} {k : Nat} {body : SS} (F : Fun K x qual st f fd) (S : FnScope N ps (defScope st)) (hn : ps.length ≤ N.length)
    (hbody : ∀ (cdv : Value) (A : Around) (outer : List Env) (s : Shared) (H : Hp) (E : XK), Room k (A.deeper (envOfC qual (defScope st) s.heap.objs.size f cdv)) → DSs (cxOf CX0 P w K mg base N qual (defScope st) f cdv A outer s H E).nox XR E (defBody st) body) :
    FnOk P w K mg base CX0 (k + 1) f fd ps (spD K XR ps.length (fnS N.length ps.length body)) := by
  refine F.ok S (fun vs H Q E h => h.choose_spec.choose_spec.choose_spec.choose_spec.choose_spec.1) fun cdv A outer s H vs Q E hr h => ⟨_, (hbody cdv A outer s H E hr).run, lift_body (k := k) hn h⟩
end

/-! ### calls -/
def RV.toD : RV → Option D
  | .dat d => some d
  | .new ds => some (.list ds)
  | .raw _ => none
def RV.toL : RV → Option (List D)
  | .new ds => some ds
  | _ => none
def saNil : SA := fun ρ R => R [] ρ.m
def saCons (s : SE) (t : SA) : SA := fun ρ R => s ρ fun d m1 => t { ρ with m := m1 } fun ss m2 => R (.dat d :: ss) m2
def saBag (i : Nat) (t : SA) : SA := fun ρ R => match ρ.sl[i]? with
  | some .bag => t ρ fun ss m => R (.bag :: ss) m
  | _ => False
def saRaw (v : V) (t : SA) : SA := fun ρ R => t ρ fun ss m => R (.raw v :: ss) m
def sCall (g : FS) (n : Nat) (sa : SA) : SE := fun ρ R => sa ρ fun ss m => ss.length = n ∧ g ss m ρ.F fun rv m' => ∃ d, rv.toD = some d ∧ R d m'
def sCallN (g : FS) (n : Nat) (sa : SA) : SD := fun ρ R => sa ρ fun ss m => ss.length = n ∧ g ss m ρ.F fun rv m' => ∃ ds, rv.toL = some ds ∧ R ds m'
theorem argok_same {K : PySem.W.Frag} {H H' : Hp} {B : Addr → Prop} (s : Same H H') : ∀ {vs : List V} {ss : List Slot}, Paired (ArgOk K H B) vs ss → Paired (ArgOk K H' B) vs ss
  | _, _, .nil => .nil
  | _, _, .cons (b := sl) h t => .cons (by
      cases sl with
      | dat d => exact dp_same s h
      | un => exact h
      | own ds => exact h
      | bag => exact h
      | raw w => exact h) (argok_same s t)
section
variable {X : Cx} {XR : XRT} {E : XK} {e : Expr} {es : List Expr} {s : SE} {sa : SA}
theorem da_nil : DA X XR E [] saNil := ⟨pa_imp pa_nil fun σ H Q h => by
  obtain ⟨O, ρ, R, rel, hs, q, hx⟩ := h
  exact q [] H [] ρ.m (Step.refl _ _ _) .nil hs⟩
theorem da_cons (h : DE X XR E e s) (h2 : DA X XR E es sa) (hs : starEach (e :: es) X.env = (false, eval e X.env) :: starEach es X.env := by rfl) : DA X XR E (e :: es) (saCons s sa) := ⟨pa_imp (pa_cons h.run h2.run hs) fun σ H Q h => by
  obtain ⟨O, ρ, R, rel, hs, q, hx⟩ := h
  exact ⟨O, ρ, _, rel, hs, fun v H1 d m1 st dv hr => ⟨O, { ρ with m := m1 }, _, rel.step st, hr, fun vs H2 ss m2 st2 dvs hr2 => q _ H2 _ m2 (st.trans st2) (.cons (show ArgOk _ _ _ _ (.dat d) from dp_same ((rel.step st).sameHide st2) dv) dvs) hr2, hx.step st⟩, hx⟩⟩
theorem da_bag {i : Nat} (h : PE X e (tVar i)) (h2 : DA X XR E es sa) (hs : starEach (e :: es) X.env = (false, eval e X.env) :: starEach es X.env := by rfl) : DA X XR E (e :: es) (saBag i sa) := ⟨pa_imp (pa_cons h h2.run hs) fun σ H Q h => by
  obtain ⟨O, ρ, R, rel, hs, q, hx⟩ := h
  unfold saBag at hs
  split at hs
  · rename_i hi
    obtain ⟨p, e1, _, _⟩ := rel.ok i _ hi
    have e2 := join_get.mp e1
    exact ⟨_, e2, O, ρ, _, rel, hs, fun vs H2 ss m2 st2 dvs hr2 => q _ H2 _ m2 st2 (.cons (show ArgOk _ _ _ _ .bag from ⟨p, rfl, i, e2, hi⟩) dvs) hr2, hx⟩
  · exact hs.elim⟩
theorem da_raw {v : V} (h : PE X e (tC v)) (h2 : DA X XR E es sa) (hs : starEach (e :: es) X.env = (false, eval e X.env) :: starEach es X.env := by rfl) : DA X XR E (e :: es) (saRaw v sa) := ⟨pa_imp (pa_cons h h2.run hs) fun σ H Q h => by
  obtain ⟨O, ρ, R, rel, hs, q, hx⟩ := h
  exact ⟨O, ρ, _, rel, hs, fun vs H2 ss m2 st2 dvs hr2 => q _ H2 _ m2 st2 (.cons (show ArgOk _ _ _ _ (.raw v) from rfl) dvs) hr2, hx⟩⟩
theorem pair_get {K : PySem.W.Frag} {H : Hp} {B : Addr → Prop} : ∀ {vs : List V} {ss : List Slot} {i : Nat} {s : Slot}, Paired (ArgOk K H B) vs ss → ss[i]? = some s → ∃ v, vs[i]? = some v ∧ ArgOk K H B v s
  | _, _, _, _, .nil, h => by simp at h
  | _, _, 0, _, .cons h _, e => by cases e; exact ⟨_, rfl, h⟩
  | _, _, i + 1, s, .cons _ t, e => by
    obtain ⟨v, h1, h2⟩ := pair_get (i := i) t (by simpa using e)
    exact ⟨v, by simpa using h1, h2⟩
/-- a callee's promise from the caller's arguments; T: what becomes of its value -/
theorem call_sp {K : PySem.W.Frag} {O : Addr → Prop} {H H1 : Hp} {σ : L2.St} {ρ : DEnv} {m1 n : Nat} {g : FS} {vs : List V} {ss : List Slot} {Q : VK} {R : RV → Nat → Prop} (rel : Rel K O H σ ρ) (st : Step (BagOf σ ρ.sl) H H1 ρ.m m1) (hn : vs.length = n)
    (pr : Paired (ArgOk K (hide (Ow O σ ρ.sl) H1) (BagOf σ ρ.sl)) vs ss) (hg : g ss m1 ρ.F R) (hq : ∀ v H' rv m', Step (BagOf σ ρ.sl) H H' ρ.m m' → RVok K (Ow O σ ρ.sl) (fun p => H1 p = none) H' v rv → R rv m' → Q v H') (hx : XOk XR E σ ρ H) : spD K XR n g vs H1 Q E := by
  have rel1 := rel.step st
  have noO : ∀ s ∈ ss, s.isOwn = false := fun s hs => by
    obtain ⟨i, hi⟩ := List.getElem?_of_mem hs
    obtain ⟨v, _, h⟩ := pair_get pr hi
    cases s <;> first | rfl | exact h.elim
  have bag : ∀ p, BagOf (vs.map some) ss p → BagOf σ ρ.sl p := fun p ⟨i, h1, h2⟩ => by
    obtain ⟨v, e1, q, e2, b⟩ := pair_get pr h2
    rw [List.getElem?_map, e1] at h1
    cases h1
    cases e2
    exact b
  have ow : Ow (Ow O σ ρ.sl) (vs.map some) ss = Ow O σ ρ.sl := by
    funext p
    refine propext ⟨fun h => h.elim id fun ⟨i, s, _, h2, h3⟩ => ?_, .inl⟩
    rw [noO s (List.mem_of_getElem? h2)] at h3
    cases h3
  refine ⟨Ow O σ ρ.sl, ss, m1, ρ.F, R, hn, ⟨?_, fun p hp => rel1.owTrk hp, fun i s f => ?_, fun a b p s t ne h1 h2 h3 => ?_⟩, noO, hg, fun v H' rv m' s ok hr => hq v H' rv m' (st.trans ⟨fun p o eo nb => s.keep p o eo fun z => nb (bag p z), fun p bp hb => ?_, s.le⟩) ok hr, fun x c a H' f r kp => hx x c a H' f r fun p o eo nm => kp p o (st.keep p o eo fun z => nm (.inr z)) fun z => nm (.inr (bag p z))⟩
  · show ss.length = (vs.map some).length
    rw [List.length_map]
    have : ∀ {vs : List V} {ss : List Slot}, Paired (ArgOk K (hide (Ow O σ ρ.sl) H1) (BagOf σ ρ.sl)) vs ss → ss.length = vs.length := fun {vs ss} h => (Paired.length h).symm
    exact this pr
  · show SlotOk K _ (hide (Ow (Ow O σ ρ.sl) (vs.map some) ss) H1) H1 m1 _ s
    rw [ow]
    obtain ⟨v, e1, h⟩ := pair_get pr f
    have e2 : ((vs.map some)[i]?.join) = some v := by
      rw [List.getElem?_map, e1]
      rfl
    cases s with
    | un => trivial
    | dat d => exact ⟨v, e2, h⟩
    | own ds => exact h.elim
    | bag =>
      obtain ⟨p, rfl, b⟩ := h
      exact ⟨p, e2, .inl (rel.bagO b).1, (rel1.bagO b).2⟩
    | raw w => show (vs.map some)[i]?.join = some w; rw [e2, show v = w from h]
  · rw [noO s (List.mem_of_getElem? h2)] at h3
    cases h3
  · by_cases z : BagOf (vs.map some) ss p
    · exact s.bag p z hb
    · exact (hb.same fun o eo => s.keep p o eo z).le s.le
variable {CX : CXT} {k : Nat} {f : Addr} {fd : FuncData} {ps : List Str} {x : Str} {p pos : Pos} {g : FS}
theorem callS_lift {K : PySem.W.Frag} {n : Nat} (σ : L2.St) (H : Hp) (Q : VK) (h : liftE K XR E (sCall g n sa) σ H Q) : tCall (spD K XR n g) [] E (liftA K XR E sa) σ H Q := by
  obtain ⟨O, ρ, R, rel, hs, q, hx⟩ := h
  refine ⟨O, ρ, _, rel, hs, fun vs H1 ss m1 st pr hg => ?_, hx⟩
  obtain ⟨hl, hg⟩ := hg
  show spD K XR n g (vs ++ []) H1 Q E
  rw [List.append_nil]
  refine call_sp rel st (by rw [← hl]; exact Paired.length pr) pr hg (fun v H' rv m' s ok hr => ?_) hx
  obtain ⟨d, hd, hr⟩ := hr
  refine q v H' d m' s ?_ hr
  cases rv with
  | dat d' =>
    cases hd
    exact ok
  | new ds =>
    cases hd
    obtain ⟨p, xs, rfl, _, no, ep, hx⟩ := ok
    exact dp_new no ep hx
  | raw w => cases hd
theorem callN_lift {K : PySem.W.Frag} {n : Nat} (σ : L2.St) (H : Hp) (Q : VK) (h : liftF K XR E (sCallN g n sa) σ H Q) : tCall (spD K XR n g) [] E (liftA K XR E sa) σ H Q := by
  obtain ⟨O, ρ, R, rel, hs, q, hx⟩ := h
  refine ⟨O, ρ, _, rel, hs, fun vs H1 ss m1 st pr hg => ?_, hx⟩
  obtain ⟨hl, hg⟩ := hg
  show spD K XR n g (vs ++ []) H1 Q E
  rw [List.append_nil]
  refine call_sp rel st (by rw [← hl]; exact Paired.length pr) pr hg (fun v H' rv m' s ok hr => ?_) hx
  obtain ⟨ds, hd, hr⟩ := hr
  cases rv with
  | dat d' => cases hd
  | new ds =>
    cases hd
    obtain ⟨p, xs, rfl, np, no, ep, hx⟩ := ok
    exact q p xs H' ds m' s (rel.newOf st np) ep hx hr
  | raw w => cases hd
theorem de_call {n : Nat} (F : FnOk X.prog X.w X.K X.mg X.base CX k f fd ps (spD X.K XR n g)) (hr : Room k X.A) (hg : Gl X x) (hm : X.mg x = some (.ref f)) (hk : PySem.W.keepIn X.K (.ref f) = true) (hb : Binds X.K fd ps []) (hx : Passes CX X E)
    (ha : DA X XR E (e :: es) sa) (hdb : (x == ("__debug__" : Str)) = false := by decide) (he : starEach (e :: es) X.env = (false, eval e X.env) :: starEach es X.env := by rfl) (hpl : (backTo pos (starEach es X.env)).any (·.1) = false := by rfl) :
    DE X XR E (.Call (.Name x p) (e :: es) [] pos) (sCall g n sa) := ⟨pe_imp (pe_call F hr hg hm hk hb .nil hx ha.run hdb he hpl) callS_lift⟩
theorem df_call {n : Nat} (F : FnOk X.prog X.w X.K X.mg X.base CX k f fd ps (spD X.K XR n g)) (hr : Room k X.A) (hg : Gl X x) (hm : X.mg x = some (.ref f)) (hk : PySem.W.keepIn X.K (.ref f) = true) (hb : Binds X.K fd ps []) (hx : Passes CX X E)
    (ha : DA X XR E (e :: es) sa) (hdb : (x == ("__debug__" : Str)) = false := by decide) (he : starEach (e :: es) X.env = (false, eval e X.env) :: starEach es X.env := by rfl) (hpl : (backTo pos (starEach es X.env)).any (·.1) = false := by rfl) :
    DF X XR E (.Call (.Name x p) (e :: es) [] pos) (sCallN g n sa) := ⟨pe_imp (pe_call F hr hg hm hk hb .nil hx ha.run hdb he hpl) callN_lift⟩
end
end DL
set_option maxHeartbeats 1000000
/-! The data layer, part n: more rules; the law's loop over its sources of draws. -/
namespace DL
open PySem PySem.Spec PyProof.Rows L2

section
variable {X : Cx} {XR : XRT} {E : XK} {a b c e : Expr} {es : List Expr} {sa sb sc s : SE} {st st' : ST} {sd : SD} {ss tt : SS} {pos : Pos} {stm : Stmt} {rest body : List Stmt}
/-! ### -a -/
def negD : D → Option D
  | .int i => some (.int (-i))
  | _ => none
def sUn (g : D → Option D) (s : SE) : SE := fun ρ R => s ρ fun d m => ∃ z, g d = some z ∧ R z m
theorem de_neg (h : DE X XR E a sa) : DE X XR E (.UnaryOp .USub a pos) (sUn negD sa) := ⟨pe_imp (pe_un un_neg h.run) fun σ H Q h => by
  obtain ⟨O, ρ, R, rel, hs, q, hx⟩ := h
  refine ⟨O, ρ, _, rel, hs, fun v H1 d m1 st dv hr => ?_, hx⟩
  obtain ⟨z, hz, hr⟩ := hr
  cases d <;> cases hz
  exact ⟨_, dv_int dv, q _ H1 _ m1 st (.int _) hr⟩⟩
/-! ### a list that a name owns is read as a datum, for a test -/
theorem freeze_or (i : Nat) (sl : List Slot) : freezeSl i sl = sl ∨ ∃ ds, sl[i]? = some (.own ds) ∧ freezeSl i sl = sl.set i (.dat (.list ds)) := by
  unfold freezeSl
  split
  · rename_i ds h
    exact .inr ⟨ds, h, rfl⟩
  · exact .inl rfl
def sBorT (i : Nat) (t : ST) : ST := fun ρ R => t { ρ with sl := freezeSl i ρ.sl } R
theorem dt_bor (i : Nat) (h : DT X XR E e st) : DT X XR E e (sBorT i st) := ⟨pt_imp h.run fun σ H Q h => by
  obtain ⟨O, ρ, R, rel, hs, q, hx⟩ := h
  unfold sBorT at hs
  rcases freeze_or i ρ.sl with z | ⟨ds, hi, z⟩
  · rw [z] at hs
    exact ⟨O, ρ, R, rel, hs, q, hx⟩
  · rw [z] at hs
    obtain ⟨r2, ow, bg⟩ := rel.freeze hi
    have eb : BagOf σ (ρ.sl.set i (.dat (.list ds))) = BagOf σ ρ.sl := funext fun p => propext (bg p)
    refine ⟨O, _, R, r2, hs, fun b H1 m1 st hr => q b H1 m1 ?_ hr, fun x c a H1 f r k => hx x c a H1 f r fun p o e n => k p o e fun y => n ?_⟩
    · have st : Step (BagOf σ (ρ.sl.set i (.dat (.list ds)))) H H1 ρ.m m1 := st
      rw [eb] at st
      exact st
    · exact y.elim (fun y => .inl (ow p y)) fun y => .inr ((bg p).mp y)⟩
/-! ### name = [comprehension] -/
variable {si : SD} {vs is : List Nat} {g : SG} {t : ST} {se : SE} {elt tg iter : Expr} {ifs : List Expr} {scope : Scope} {own : List (Str × Nat)} {py spos : Pos} {y : Str} {i : Nat}
theorem ds_compF (hc : X.calm = true) (hN : X.N.Nodup) (hy : X.N[i]? = some y) (hyl : X.env.scope.names.lookup y = some .local) (hsw : swapsWith (.ListComp elt [⟨tg, iter, ifs, 0⟩] scope pos) (some (.Name y py)) spos.line X.env = pure true) (ok : BlkOk X.N X.env.scope scope own) (sub : ∀ i ∈ is, i ∈ own.map (·.2)) (hi : DI X XR E tg iter si)
    (hg : ∀ (s : Shared) (H : Hp) (C : Addr) (cl : List (Str × Addr)) (fp : List Addr), DG (X.blk s H scope (compEnvC scope cl C X.env) fp) tg is g) (ht : ∀ (s : Shared) (H : Hp) (C : Addr) (cl : List (Str × Addr)) (fp : List Addr), DTs (X.blk s H scope (compEnvC scope cl C X.env) fp) XR E0 ifs t)
    (he : ∀ (s : Shared) (H : Hp) (C : Addr) (cl : List (Str × Addr)) (fp : List Addr), DE (X.blk s H scope (compEnvC scope cl C X.env) fp) XR E0 elt se) (hs : ∀ x, foldedSetIterable iter X.env x = pure x := by intro _; rfl) :
    DS X XR E (.Assign [.Name y py] (.ListComp elt [⟨tg, iter, ifs, 0⟩] scope pos) spos) (ssAsgF (sComp si (own.map (·.2)) g t se) i) :=
  ⟨ps_imp (ps_setLc hc hN hy hyl hsw hi.run ok (fun s H C cl fp => (hg s H C cl fp).run) (fun s H C cl fp => (ht s H C cl fp).run) (fun s H C cl fp => (he s H C cl fp).run) hs) fun D σ H h => by
    obtain ⟨O, ρ, De, rel, hs, n, r, bk, ct, hx⟩ := h
    refine comp_lift sub σ H _ ⟨O, ρ, _, rel, hs, fun p xs H1 ds m1 st np ep hd q => ?_, hx⟩
    obtain ⟨r2, s2⟩ := rel.setOwn (i := i) st np ep hd
    exact n _ H1 _ s2 r2 q⟩
theorem ds_compD (hc : X.calm = true) (hN : X.N.Nodup) (hy : X.N[i]? = some y) (hyl : X.env.scope.names.lookup y = some .local) (hsw : swapsWith (.ListComp elt [⟨tg, iter, ifs, 0⟩] scope pos) (some (.Name y py)) spos.line X.env = pure true) (ok : BlkOk X.N X.env.scope scope own) (sub : ∀ i ∈ is, i ∈ own.map (·.2)) (hi : DI X XR E tg iter si)
    (hg : ∀ (s : Shared) (H : Hp) (C : Addr) (cl : List (Str × Addr)) (fp : List Addr), DG (X.blk s H scope (compEnvC scope cl C X.env) fp) tg is g) (ht : ∀ (s : Shared) (H : Hp) (C : Addr) (cl : List (Str × Addr)) (fp : List Addr), DTs (X.blk s H scope (compEnvC scope cl C X.env) fp) XR E0 ifs t)
    (he : ∀ (s : Shared) (H : Hp) (C : Addr) (cl : List (Str × Addr)) (fp : List Addr), DE (X.blk s H scope (compEnvC scope cl C X.env) fp) XR E0 elt se) (hs : ∀ x, foldedSetIterable iter X.env x = pure x := by intro _; rfl) :
    DS X XR E (.Assign [.Name y py] (.ListComp elt [⟨tg, iter, ifs, 0⟩] scope pos) spos) (ssAsg (sLst (sComp si (own.map (·.2)) g t se)) (sgName i)) :=
  ⟨ps_imp (ps_setLc hc hN hy hyl hsw hi.run ok (fun s H C cl fp => (hg s H C cl fp).run) (fun s H C cl fp => (ht s H C cl fp).run) (fun s H C cl fp => (he s H C cl fp).run) hs) fun D σ H h => by
    obtain ⟨O, ρ, De, rel, hs, n, r, bk, ct, hx⟩ := h
    refine comp_lift sub σ H _ ⟨O, ρ, _, rel, hs, fun p xs H1 ds m1 st np ep hd q => ?_, hx⟩
    have dv : Dv X.K (hide (Ow O σ ρ.sl) H1) (.ref p) (.list ds) := dp_new (rel.newNot np) ep hd
    have r1 := rel.step st
    exact n _ H1 _ ((StepS.of rel st).trans rel r1 (StepS.setDat.mpr fun p b => (r1.bagO b).2)) (r1.setDat dv) q⟩
/-! ### first, second = a new list, b -/
def ssParF (sf : SD) (s : SE) (i j : Nat) : SS := fun De ρ => sf ρ fun ds m1 => s { ρ with m := m1 } fun e m2 => De.nx { ρ with sl := (ρ.sl.set i (.own ds)).set j (.dat e), m := m2 }
theorem Rel.other {K : PySem.W.Frag} {O : Addr → Prop} {H H' : Hp} {σ : L2.St} {ρ : DEnv} {m' : Nat} (r : Rel K O H σ ρ) (s : Step (BagOf σ ρ.sl) H H' ρ.m m') {Dn : Addr} {o : HO} (eD : H' Dn = some o) (nD : H Dn = none) : Rel K (fun q => O q ∨ q = Dn) H' σ { ρ with m := m' } := by
  have r1 := r.step s
  have sh : Same (hide (Ow O σ ρ.sl) H) (hide (Ow (fun q => O q ∨ q = Dn) σ ρ.sl) H') := same_hide fun p o2 n e =>
    ⟨fun z => z.elim (fun z => z.elim (fun z => n (.inl z)) (ne_of_none e nD)) (fun z => n (.inr z)), s.keep p o2 e fun b => n (.inl (r.bagO b).1)⟩
  refine ⟨r.len, fun p h => ?_, fun j t f => ?_, r.sep⟩
  · rcases h with h | h
    · exact r1.trk p h
    · rw [h]
      exact ⟨o, eD⟩
  · have h := r.ok j t f
    have h1 := r1.ok j t f
    cases t with
    | un => trivial
    | dat d =>
      obtain ⟨x, e, hx⟩ := h
      exact ⟨x, e, dp_same sh hx⟩
    | own ds =>
      obtain ⟨p, xs, e, no, ep, hx⟩ := h
      exact ⟨p, xs, e, fun z => z.elim no (ne_of_none ep nD), s.keep p _ ep fun b => no (r.bagO b).1, dpa_same sh hx⟩
    | bag =>
      obtain ⟨p, e, hO, hb⟩ := h1
      exact ⟨p, e, .inl hO, hb⟩
    | raw w => exact h
theorem ds_parF {i j : Nat} (hf : DF X XR E a sd) (he : DE X XR E b s) (hp : ∀ ta, PA X [a, b] ta → PS X stm (tPar i j ta)) (hs : starEach [a, b] X.env = (false, eval a X.env) :: starEach [b] X.env := by rfl) (hs2 : starEach [b] X.env = (false, eval b X.env) :: starEach [] X.env := by rfl) : DS X XR E stm (ssParF sd s i j) :=
  ⟨ps_imp (hp _ (pa_cons hf.run (pa_cons he.run pa_nil hs2) hs)) fun D σ H h => by
    obtain ⟨O, ρ, De, rel, hs, n, r, bk, ct, hx⟩ := h
    refine ⟨O, ρ, _, rel, hs, fun p xs H1 ds m1 st np ep hd q => ?_, hx⟩
    have r1 := rel.other st ep np
    have xo : XOk XR E σ { ρ with m := m1 } H1 := hx.step st
    refine ⟨_, { ρ with m := m1 }, _, r1, q, fun w H2 e m2 st2 dw q => ?_, xo⟩
    have nb : ¬ BagOf σ ρ.sl p := fun b => by
      obtain ⟨_, _, _, _, e, _⟩ := rel.bagO b
      rw [np] at e
      cases e
    have ep2 : H2 p = some (.lst xs) := st2.keep p _ ep nb
    have hd2 : DvAll X.K (hide (fun q => Ow O σ ρ.sl q ∨ q = p) H2) xs ds := dpa_same (same_hide fun q o nq eq => ⟨nq, st2.keep q o eq fun z => nq (.inl (.inl (rel.bagO z).1))⟩) hd
    obtain ⟨r2, s2⟩ := rel.setOwn (i := i) (st.trans st2) np ep2 hd2
    have sub : Same (hide (Ow (fun q => O q ∨ q = p) σ ρ.sl) H2) (hide (Ow O (σ.set i (some (.ref p))) (ρ.sl.set i (.own ds))) H2) := same_hide fun q o nq eq => ⟨fun z => z.elim (fun z => nq (.inl (.inl z))) fun z => (own_set z).elim (fun y => nq (.inl (.inr (V.ref.inj y.2).symm))) fun y => nq (.inr y), eq⟩
    have r3 := r2.setDat (i := j) (d := e) (dp_same sub dw)
    have s3 : StepS (σ.set i (some (.ref p))) { ρ with sl := ρ.sl.set i (.own ds), m := m2 } H2 ((σ.set i (some (.ref p))).set j (some w)) { ρ with sl := (ρ.sl.set i (.own ds)).set j (.dat e), m := m2 } H2 := StepS.setDat.mpr fun p b => (r2.bagO b).2
    exact ⟨_, _, rfl, n _ H2 _ (s2.trans rel r2 s3) r3 q⟩⟩
end
end DL
set_option maxHeartbeats 1000000
/-! The data layer, part o: the law's sources of draws, its loop over them. -/
namespace DL
open PySem PySem.Spec PyProof.Rows L2
def takeP : Int := 2305843009213693951
def m__law_take : FS := fun ss m F R => ∃ many : Int, ss = [.bag, .dat (.int many)] ∧ (0 < many ∧ many < 1000000000) ∧ m < 4611686018427387904 ∧ ∀ x : Int, 0 ≤ x → x < many → R (.dat (.int x)) (m + 1)
def spWell : Sp := fun vs H Q _ => ∃ cell turn : Int, vs = [.int cell, .int turn] ∧ ∀ p a b, H p = none → 0 ≤ b → b < 2305843009213693951 → Q (.ref p) (upd H p (.lst [.int a, .int b, .int turn]))
/-- the sources of draws: new lists, in a new list -/
def spBags (K : PySem.W.Frag) : Sp := fun vs H Q _ => ∃ (a : Addr) (ns : List Int) (most : Int), vs = [.ref a, .int most] ∧ SqL K H a (ns.map V.int) ∧ ns.length ≤ 63 ∧
  ∀ (H' : Hp) (p : Addr) (bs : List Addr), Same H H' → H p = none → H' p = some (.lst (bs.map V.ref)) → bs.length ≤ 64 → bs.Nodup → (∀ b ∈ bs, H b = none ∧ BagAt H' b 100000) → Q (.ref p) H'
def spLaw (K : PySem.W.Frag) : Sp := fun vs H Q _ => ∃ (a : Addr) (ns : List Int), vs = [.ref a] ∧ SqL K H a (ns.map V.int) ∧ ns.length ≤ 63 ∧ ∀ H', Q (.bl true) H'
def noF : Exc → Prop := fun _ => False
def rtTrue : RV → Nat → Prop := fun rv _ => rv = .dat (.bool true)
/-- what the law's loop body must do, from any source of draws -/
def lawTurn (N b : Nat) (body : SS) : Prop := body { nx := fun ρ => ρ.sl.length = N, rt := rtTrue, bk := fun _ => False, ct := fun ρ => ρ.sl.length = N } { sl := (List.replicate N .un).set b .bag, m := 100000, F := noF }
/-- what stands behind the loop -/
def lawRest (N : Nat) (rest : SS) : Prop := rest { nx := fun _ => False, rt := rtTrue, bk := fun _ => False, ct := fun _ => False } { sl := List.replicate N .un, m := 100000, F := noF }
theorem un_set {N b i : Nat} {s : Slot} (h : ((List.replicate N Slot.un).set b .bag)[i]? = some s) : s = .un ∨ (s = .bag ∧ i = b ∧ b < N) := by
  by_cases e : b = i
  · subst e
    obtain ⟨h1, h2⟩ := set_self h
    exact .inr ⟨h1, rfl, by simpa using h2⟩
  · have := set_ne h e
    rw [List.getElem?_replicate] at this
    split at this
    · exact .inl (Option.some.inj this).symm
    · cases this
theorem un_rep {N i : Nat} {s : Slot} (h : (List.replicate N Slot.un)[i]? = some s) : s = .un := by
  rw [List.getElem?_replicate] at h
  split at h
  · exact (Option.some.inj h).symm
  · cases h
theorem law_run {K : PySem.W.Frag} {XR : XRT} {E : XK} {body rest : SS} {N : List Str} {b L : Nat} {n : Int} (hL : N.length = L) (hN : 0 < L) (hb : lawTurn L b body) (hr : lawRest L rest) {vs : List V} {H : Hp} {Q : VK} {E' : XK} (h : spLaw K vs H Q E') :
    tSeq (tFor (iList K (tCall (spBags K) [] E (tCons (tVar 0) (tCons (tC (.int n)) tNil)))) (gName b) (liftS K XR E body)) (liftS K XR E rest) { nx := fun _ H' => Q .non H', rt := Q } (L2.start N vs) H := by
  subst hL
  obtain ⟨a, ns, rfl, hS, hl, q⟩ := h
  have h0 : (L2.start N [V.ref a])[0]? = some (some (V.ref a)) := rfl
  have hlen : (L2.start N [V.ref a]).length = N.length := by
    unfold L2.start
    rw [List.length_append, List.length_replicate]
    show 1 + (N.length - 1) = N.length
    omega
  refine ⟨.ref a, h0, a, ns, n, rfl, hS, hl, fun H1 p bs sm np ep hlb nd hbs => ⟨p, rfl, ⟨_, .inl (.inl ep)⟩, ?_⟩⟩
  refine for_it (walk_list (K := K) (a := p) (xs := bs.map V.ref)) (Pv := fun i σ2 H2 => σ2.length = N.length ∧ H2 p = some (.lst (bs.map V.ref)) ∧ (∀ c ∈ bs, ∃ o, H2 c = some o) ∧ ∀ c ∈ bs.drop i, BagAt H2 c 100000)
    ⟨hlen, ep, fun c hc => ?_, fun c hc => (hbs c (List.mem_of_mem_drop hc)).2⟩ (fun i σ2 H2 _ pv => .inl (.inl pv.2.1)) (fun i x σ2 H2 H3 hi pv y => ?_) (fun σ2 H2 pv => ?_)
  · obtain ⟨_, _, _, e, _⟩ := (hbs c hc).2
    exact ⟨_, e⟩
  · obtain ⟨hl2, ep2, ht2, hd2⟩ := pv
    obtain ⟨rfl, hx⟩ := y
    rw [List.length_map] at hi
    have ex : x = .ref bs[i] := by
      rw [List.getElem?_map, List.getElem?_eq_getElem hi] at hx
      exact (Option.some.inj hx).symm
    subst ex
    have edr : bs.drop i = bs[i] :: bs.drop (i + 1) := List.drop_eq_getElem_cons hi
    have hbi : BagAt H3 bs[i] 100000 := hd2 _ (by rw [edr]; exact List.mem_cons_self ..)
    have bag1 : ∀ c, BagOf (σ2.set b (some (.ref bs[i]))) ((List.replicate N.length Slot.un).set b .bag) c → c = bs[i] := fun c ⟨j, h1, h2⟩ => by
      rcases un_set h2 with z | ⟨_, rfl, _⟩
      · cases z
      · obtain ⟨z, _⟩ := set_self h1
        cases z
        rfl
    have own1 : ∀ c, ¬ OwnAt (σ2.set b (some (.ref bs[i]))) ((List.replicate N.length Slot.un).set b .bag) c := fun c ⟨j, s, h1, h2, h3⟩ => by
      rcases un_set h2 with z | ⟨z, _⟩
      · rw [z] at h3
        cases h3
      · rw [z] at h3
        cases h3
    have npb : p ≠ bs[i] := fun z => by
      obtain ⟨u, v, w, e, _⟩ := hbi
      rw [← z, ep2] at e
      cases bs with
      | nil => simp at hi
      | cons c cs => cases e
    have keepP : ∀ (σ' : L2.St) (H' : Hp) (ρ' : DEnv), StepS (σ2.set b (some (.ref bs[i]))) { sl := (List.replicate N.length Slot.un).set b .bag, m := 100000, F := noF } H3 σ' ρ' H' → Rel K (fun q => q ∈ bs) H' σ' ρ' →
        σ'.length = N.length → σ'.length = N.length ∧ H' p = some (.lst (bs.map V.ref)) ∧ (∀ c ∈ bs, ∃ o, H' c = some o) ∧ ∀ c ∈ bs.drop (i + 1), BagAt H' c 100000 := fun σ' H' ρ' s rel' hls => by
      refine ⟨hls, s.keep p _ ep2 fun z => z.elim (own1 p) fun z => npb (bag1 p z), rel'.trk, fun c hc => ?_⟩
      have hcb := hd2 c (by rw [edr]; exact List.mem_cons_of_mem _ hc)
      refine hcb.same fun o eo => s.keep c o eo fun z => z.elim (own1 c) fun z => ?_
      have e1 := bag1 c z
      have nd2 : (bs.drop i).Nodup := nd.sublist (List.drop_sublist i bs)
      rw [edr, List.nodup_cons] at nd2
      rw [e1] at hc
      exact nd2.1 hc
    refine ⟨fun q => q ∈ bs, { sl := (List.replicate N.length Slot.un).set b .bag, m := 100000, F := noF }, _, ⟨by simp [hl2], fun c hc => ht2 c hc, fun j s f => ?_, fun i j q s t ne h1 h2 h3 => ?_⟩, hb,
      fun σ' H' ρ' s rel' hq => ?_, fun v H' rv m' s ok hrv => ?_, fun _ _ _ _ _ z => z.elim, fun σ' H' ρ' s rel' hq => ?_, fun x _ _ _ z => z.elim⟩
    · rcases un_set f with z | ⟨rfl, rfl, hlt⟩
      · rw [z]
        trivial
      · refine ⟨bs[i], ?_, List.getElem_mem hi, hbi⟩
        rw [List.getElem?_set_self (by omega)]
        rfl
    · exact (own1 q ⟨i, s, h1, h2, h3⟩).elim
    · exact keepP σ' H' ρ' s rel' (rel'.len.symm.trans hq)
    · cases hrv
      have : v = .bl true := dv_bool ok
      rw [this]
      exact q H'
    · exact keepP σ' H' ρ' s rel' (rel'.len.symm.trans hq)
  · obtain ⟨hl2, ep2, ht2, hd2⟩ := pv
    refine ⟨fun _ => False, { sl := List.replicate N.length .un, m := 100000, F := noF }, _, ⟨by simp [hl2], fun _ z => z.elim, fun j s f => by rw [un_rep f]; trivial, fun i j q s t ne h1 h2 h3 => ?_⟩, hr,
      fun _ _ _ _ _ z => z.elim, fun v H' rv m' s ok hrv => ?_, fun _ _ _ _ _ z => z.elim, fun _ _ _ _ _ z => z.elim, fun x _ _ _ z => z.elim⟩
    · rw [un_rep h2] at h3
      cases h3
    · cases hrv
      have : v = .bl true := dv_bool ok
      rw [this]
      exact q H'
end DL
set_option maxHeartbeats 1000000
/-! The data layer, part p: isinstance with several types; one generated def more. -/
namespace DL
open PySem PySem.Spec PyProof.Rows L2
def tyName : D → String
  | .none => "NoneType"
  | .bool _ => "bool"
  | .int _ => "int"
  | .str _ => "str"
  | .list _ => "list"
  | .tuple _ => "tuple"
  | .dict _ => "dict"
theorem ty_of {K : PySem.W.Frag} {H : Hp} {v : V} {d : D} (h : Dv K H v d) : TyX K H v (.type (tyName d)) := by
  cases h with
  | non => exact .base .non
  | bl b => exact .base (.bl b)
  | int i => exact .base (.int i)
  | str x => exact .base (.str x)
  | lst e _ => exact .base (.lst e)
  | tup e _ =>
    rcases e with e | ⟨o, its, n, h1, h2, _⟩
    · rcases e with e | ⟨o, e⟩
      · exact .base (.tup e)
      · exact .fTuple e
    · exact .kTuple h1 h2
def isBLT : D → Bool
  | .bool _ => true
  | .list _ => true
  | .tuple _ => true
  | _ => false
theorem kit3 {K : PySem.W.Frag} {d : D} (hd : d.plain = true) : PySem.W.kitAny K (.type (tyName d)) [.type "bool", .type "list", .type "tuple"] = some (isBLT d) := by
  have k : ∀ (t : String) (b1 b2 b3 : Bool), kitB t "bool" = some b1 → kitB t "list" = some b2 → kitB t "tuple" = some b3 → PySem.W.kitAny K (.type t) [.type "bool", .type "list", .type "tuple"] = some (b1 || b2 || b3) := fun t b1 b2 b3 h1 h2 h3 => by
    simp only [PySem.W.kitAny, kit_ty h1, kit_ty h2, kit_ty h3]
    cases b1 <;> cases b2 <;> cases b3 <;> rfl
  cases d with
  | none => exact k "NoneType" false false false (by decide +kernel) (by decide +kernel) (by decide +kernel)
  | bool b => exact k "bool" true false false (by decide +kernel) (by decide +kernel) (by decide +kernel)
  | int i => exact k "int" false false false (by decide +kernel) (by decide +kernel) (by decide +kernel)
  | str x => exact k "str" false false false (by decide +kernel) (by decide +kernel) (by decide +kernel)
  | list xs => exact k "list" false true false (by decide +kernel) (by decide +kernel) (by decide +kernel)
  | tuple xs => exact k "tuple" false false true (by decide +kernel) (by decide +kernel) (by decide +kernel)
  | dict kv => cases hd
section
variable {X : Cx} {XR : XRT} {E : XK} {e : Expr} {s : SE} {p pos tp : Pos} {k : Nat} {t1 t2 t3 : Expr}
theorem de_isa3 (hg : Gl X "isinstance") (hm : X.mg "isinstance" = none) (ha : DE X XR E e s) (h1 : PE X t1 (tC (.ty "bool"))) (h2 : PE X t2 (tC (.ty "list"))) (h3 : PE X t3 (tC (.ty "tuple")))
    (hs1 : starEach [t1, t2, t3] X.env = (false, eval t1 X.env) :: starEach [t2, t3] X.env := by rfl) (hs2 : starEach [t2, t3] X.env = (false, eval t2 X.env) :: starEach [t3] X.env := by rfl) (hs3 : starEach [t3] X.env = (false, eval t3 X.env) :: starEach [] X.env := by rfl)
    (he : starEach [e, .Tuple [t1, t2, t3] k tp] X.env = (false, eval e X.env) :: starEach [.Tuple [t1, t2, t3] k tp] X.env := by rfl) (he2 : starEach [.Tuple [t1, t2, t3] k tp] X.env = (false, eval (.Tuple [t1, t2, t3] k tp) X.env) :: starEach [] X.env := by rfl)
    (hpl : (backTo pos (starEach [.Tuple [t1, t2, t3] k tp] X.env)).any (·.1) = false := by rfl) : DE X XR E (.Call (.Name "isinstance" p) [e, .Tuple [t1, t2, t3] k tp] [] pos) (sIsa isBLT s) :=
  ⟨pe_imp (pe_callB call_isiT hg hm (by decide +kernel) (pa_cons ha.run (pa_cons (pe_tup (pa_cons h1 (pa_cons h2 (pa_cons h3 pa_nil hs3) hs2) hs1)) pa_nil he2) he) (by decide) (by decide) he hpl) fun σ H Q h => by
    obtain ⟨O, ρ, R, rel, hs, q, hx⟩ := h
    refine ⟨O, ρ, _, rel, hs, fun v H1 d m1 st dv hr => ⟨by show 3 ≤ sizeLine; decide, fun tp n => ?_⟩, hx⟩
    have r1 := rel.step st
    have s2 : Step (BagOf σ ρ.sl) H1 (upd H1 tp (.tup [.ty "bool", .ty "list", .ty "tuple"])) m1 m1 := Step.same (same_new n)
    have dv2 := dp_same (r1.sameHide s2) dv
    refine ⟨v, tp, _, _, _, isBLT d, rfl, upd_same, ?_, ty_of (dp_same hide_sub dv2), kit3 (dv_plain dv), q _ _ _ m1 (st.trans s2) (.bl _) hr⟩
    exact .cons (.ty _) (.cons (.ty _) (.cons (.ty _) .nil))⟩
end
end DL
set_option maxHeartbeats 1000000
/-! The data layer, part q: ends of the generated walks. -/
namespace DL
open PySem PySem.Spec PyProof.Rows L2
def XR0 : XRT := fun _ _ _ _ => False
section
variable {P : Program} {w : World} {K : PySem.W.Frag} {mg : Str → Option Value} {base : Heap} {XR : XRT}
theorem fun_okNo {x qual : Str} {st : Stmt} {f : Addr} {fd : FuncData} {N ps : List Str} {k : Nat} (F : Fun K x qual st f fd) (S : FnScope N ps (defScope st)) :
    FnOk P w K mg base CX0 (k + 1) f fd ps (spD K XR ps.length fun _ _ _ _ => False) :=
  F.ok S (fun vs H Q E h => h.choose_spec.choose_spec.choose_spec.choose_spec.choose_spec.1) fun cdv A outer s H vs Q E hr h => by
    obtain ⟨_, _, _, _, _, _, _, _, h, _⟩ := h
    exact h.elim
theorem cr_or {X : Cx} {v : Value} {r r' : List V → Hp → VK → Prop} (h : CallR X v r) (h' : CallR X v r') : CallR X v fun xs H Q => r xs H Q ∨ r' xs H Q := CallR.or h h'
end
end DL
set_option maxHeartbeats 1000000
/-! The data layer, part r: list(range(..)), xs[::-1], range(a, b, -1). -/
namespace DL
open PySem PySem.Spec PyProof.Rows L2
def slR1 (s : SE) : SD := fun ρ R => s ρ fun d m => ∃ j : Int, d = .int j ∧ (-8000000 ≤ j ∧ j ≤ 8000000) ∧ R (rangeD 0 j.toNat) m
def slR2 (s t : SE) : SD := fun ρ R => s ρ fun d m1 => t { ρ with m := m1 } fun e m2 => ∃ i j : Int, d = .int i ∧ e = .int j ∧ (-8000000 ≤ i ∧ i ≤ 8000000) ∧ (-8000000 ≤ j ∧ j ≤ 8000000) ∧ R (rangeD i (j - i).toNat) m2
def siRangeD (s t : SE) : SD := fun ρ R => s ρ fun d m1 => t { ρ with m := m1 } fun e m2 => ∃ i j : Int, d = .int i ∧ e = .int j ∧ (-1000000000 ≤ i ∧ i ≤ 1000000000) ∧ (-1000000000 ≤ j ∧ j ≤ 1000000000) ∧ R ((List.range (i - j).toNat).map fun (k : Nat) => PyData.int (i - (k : Int))) m2
theorem rgV_dpa {K : PySem.W.Frag} {H : Hp} (i : Int) (n : Nat) : DvAll K H ((List.range n).map fun k => V.int (i + (k : Nat))) (rangeD i n) := by
  have : ((List.range n).map fun (k : Nat) => V.int (i + (k : Nat))) = ((List.range n).map fun (k : Nat) => i + (k : Int)).map V.int := by
    rw [List.map_map]
    rfl
  rw [this]
  have e : rangeD i n = ((List.range n).map fun (k : Nat) => i + (k : Int)).map PyData.int := by
    unfold rangeD
    rw [List.map_map]
    rfl
  rw [e]
  exact ints_dpa _
section
variable {X : Cx} {XR : XRT} {E : XK} {tg a b e : Expr} {s sa sb : SE} {p pos tpos p1 p2 p3 : Pos} {k : Nat}
theorem df_listR1 (hc : X.calm = true) (hg : Gl X "list") (hm : X.mg "list" = none) (hg2 : Gl X "range") (hm2 : X.mg "range" = none) (h : DE X XR E a sa) (hs : starEach [a] X.env = (false, eval a X.env) :: starEach [] X.env := by rfl)
    (hs2 : starEach [.Call (.Name "range" p1) [a] [] p2] X.env = (false, eval (.Call (.Name "range" p1) [a] [] p2) X.env) :: starEach [] X.env := by rfl) : DF X XR E (.Call (.Name "list" p) [.Call (.Name "range" p1) [a] [] p2] [] pos) (slR1 sa) :=
  ⟨pe_imp (pe_listRg hc hg hm (prg_1 hg2 hm2 h.run hs) hs2) fun σ H Q h => by
    obtain ⟨O, ρ, R, rel, hs, q, hx⟩ := h
    refine ⟨O, ρ, _, rel, hs, fun v H1 d m1 st dv hr => ?_, hx⟩
    obtain ⟨j, rfl, hj, hr⟩ := hr
    refine ⟨j, dv_int dv, ⟨by omega, by omega, by omega, by omega, by omega⟩, fun q' n => ?_⟩
    have e : rgV 0 j = (List.range j.toNat).map fun k => V.int (0 + (k : Nat)) := by unfold rgV; rw [Int.sub_zero]
    rw [e]
    exact q q' _ _ _ m1 (st.trans (Step.same (same_new n))) (rel.newOf st n) upd_same (newF n (rgV_dpa 0 _)) hr⟩
theorem df_listR2 (hc : X.calm = true) (hg : Gl X "list") (hm : X.mg "list" = none) (hg2 : Gl X "range") (hm2 : X.mg "range" = none) (ha : DE X XR E a sa) (hb : DE X XR E b sb) (hs : starEach [a, b] X.env = (false, eval a X.env) :: starEach [b] X.env := by rfl) (hs1 : starEach [b] X.env = (false, eval b X.env) :: starEach [] X.env := by rfl)
    (hpl : (backTo p2 (starEach [b] X.env)).any (·.1) = false := by rfl)
    (hs2 : starEach [.Call (.Name "range" p1) [a, b] [] p2] X.env = (false, eval (.Call (.Name "range" p1) [a, b] [] p2) X.env) :: starEach [] X.env := by rfl) : DF X XR E (.Call (.Name "list" p) [.Call (.Name "range" p1) [a, b] [] p2] [] pos) (slR2 sa sb) :=
  ⟨pe_imp (pe_listRg hc hg hm (prg_2 hg2 hm2 ha.run hb.run hs hs1 hpl) hs2) fun σ H Q h => by
    obtain ⟨O, ρ, R, rel, hs, q, hx⟩ := h
    refine ⟨O, ρ, _, rel, hs, fun v H1 d m1 st dv hr => ⟨O, { ρ with m := m1 }, _, rel.step st, hr, fun w H2 e m2 st2 dw hr2 => ?_, hx.step st⟩, hx⟩
    obtain ⟨i, j, rfl, rfl, hi, hj, hr2⟩ := hr2
    refine ⟨i, j, dv_int dv, dv_int dw, ⟨by omega, by omega, by omega, by omega, by omega⟩, fun q' n => ?_⟩
    have st12 := st.trans st2
    exact q q' _ _ _ m2 (st12.trans (Step.same (same_new n))) (rel.newOf st12 n) upd_same (newF n (rgV_dpa i _)) hr2⟩
/-- xs[::-1] of a list -/
def sRevL (s : SE) : SD := fun ρ R => s ρ fun d m => ∃ xs, d = .list xs ∧ R xs.reverse m
theorem dpa_rev {K : PySem.W.Frag} {H : Hp} : ∀ {vs : List V} {ds : List D}, DvAll K H vs ds → DvAll K H vs.reverse ds.reverse
  | _, _, .nil => .nil
  | _, _, .cons h t => by
    rw [List.reverse_cons, List.reverse_cons]
    exact dpa_app (dpa_rev t) (.cons h .nil)
theorem df_revL (h : DE X XR E e s) : DF X XR E (.Subscript e (.Slice none none (some (.UnaryOp .USub (.Constant (.int 1) k p1) p2)) p3) pos) (sRevL s) := ⟨pe_imp (pe_revL h.run) fun σ H Q h => by
  obtain ⟨O, ρ, R, rel, hs, q, hx⟩ := h
  refine ⟨O, ρ, _, rel, hs, fun v H1 d m1 st dv hr => ?_, hx⟩
  obtain ⟨xs, rfl, hr⟩ := hr
  obtain ⟨a, ys, rfl, no, ep, da⟩ := dv_lst dv
  exact ⟨a, ys, rfl, .inl (.inl ep), fun p n => q p _ _ _ m1 (st.trans (Step.same (same_new n))) (rel.newOf st n) upd_same (newF n (dpa_rev da)) hr⟩⟩
/-- range(a, b, -1) -/
theorem walkD_rangeD {K : PySem.W.Frag} {O : Addr → Prop} {H : Hp} {i : Int} {n : Nat} : WalkD K O (Itc i (-1) n) ((List.range n).map fun (k : Nat) => PyData.int (i - (k : Int))) H := by
  have hl : ((List.range n).map fun (k : Nat) => PyData.int (i - (k : Int))).length = n := by simp
  refine ⟨fun j H1 hi sm => by rw [hl] at hi; exact hi, fun H1 sm => by rw [hl]; exact Nat.le_refl _, fun j H1 x H2 hi sm y => ?_⟩
  rw [hl] at hi
  obtain ⟨rfl, rfl⟩ := y
  refine ⟨.int (i - (j : Int)), ?_, .inl ⟨rfl, ?_⟩⟩
  · rw [List.getElem?_map, List.getElem?_range hi]
    rfl
  · rw [show i + (j : Int) * (-1) = i - (j : Int) by omega]
    exact .int _
theorem de_neg1 {x1} : PE X (.UnaryOp .USub (.Constant (.int 1) x1 p1) p2) (fun σ H Q => Q (.int (-1)) H) := pe_imp (pe_un un_neg pe_int) fun σ H Q h => ⟨1, rfl, h⟩
theorem di_rangeD {x1} (hg : Gl X "range") (hm : X.mg "range" = none) (ha : DE X XR E a sa) (hb : DE X XR E b sb) (hs : starEach [a, b, .UnaryOp .USub (.Constant (.int 1) x1 p1) p2] X.env = (false, eval a X.env) :: starEach [b, .UnaryOp .USub (.Constant (.int 1) x1 p1) p2] X.env := by rfl)
    (hs1 : starEach [b, .UnaryOp .USub (.Constant (.int 1) x1 p1) p2] X.env = (false, eval b X.env) :: starEach [.UnaryOp .USub (.Constant (.int 1) x1 p1) p2] X.env := by rfl)
    (hs2 : starEach [.UnaryOp .USub (.Constant (.int 1) x1 p1) p2] X.env = (false, eval (.UnaryOp .USub (.Constant (.int 1) x1 p1) p2) X.env) :: starEach [] X.env := by rfl)
    (hpl : (backTo pos (starEach [b, .UnaryOp .USub (.Constant (.int 1) x1 p1) p2] X.env)).any (·.1) = false := by rfl) :
    DI X XR E tg (.Call (.Name "range" p) [a, b, .UnaryOp .USub (.Constant (.int 1) x1 p1) p2] [] pos) (siRangeD sa sb) := ⟨pi_imp (pi_range3 hg hm (pa_cons ha.run (pa_cons hb.run (pa_cons de_neg1 pa_nil hs2) hs1) hs) hs hpl) fun σ H Q h => by
  obtain ⟨O, ρ, R, rel, hs, q, hx⟩ := h
  refine ⟨O, ρ, _, rel, hs, fun v H1 d m1 st dv hr => ⟨O, { ρ with m := m1 }, _, rel.step st, hr, fun w H2 e m2 st2 dw hr2 => ?_, hx.step st⟩, hx⟩
  obtain ⟨i, j, rfl, rfl, hi, hj, hr2⟩ := hr2
  exact ⟨i, j, -1, (i - j).toNat, by rw [dv_int dv, dv_int dw], RgC.neg (by omega) (by omega) (by omega) (by omega), q _ H2 _ m2 (st.trans st2) walkD_rangeD hr2⟩⟩
end
end DL
set_option maxHeartbeats 1000000
/-! The data layer, part s: what is never reached. -/
namespace DL
open PySem PySem.Spec PyProof.Rows L2
def sNev : SE := fun _ _ => False
theorem de_nev {X : Cx} {XR : XRT} {E : XK} {e : Expr} : DE X XR E e sNev := ⟨⟨fun pins s σ H Q I h => by
  obtain ⟨_, _, _, _, h, _⟩ := h
  exact h.elim⟩⟩
end DL
set_option maxHeartbeats 4000000
namespace PT
open PySem PySem.Spec PyProof.Rows L2 DL
def L1__law_race : SS := ssSeq (ssAsg (sCall (m__law_take) 2 (saBag 0 (saCons (sVar 3) (saNil)))) (sgName 4))
      (ssAsg (sBin addD (sBin addD (sSlice (sVar 2) (soNone) (soSome (sVar 4))) (sTup (sdCons (sVar 3) (sdNil)))) (sSlice (sVar 2) (soSome (sVar 4)) (soNone))) (sgName 2))
def b__law_race : SS := ssSeq (ssAsg (sTup (sdNil)) (sgName 2))
      (ssSeq (ssFor (siRange2 (sC (.int 1)) (sBin addD (sVar 1) (sC (.int 1)))) (sgName 3)
      (L1__law_race))
      (ssRet (sVar 2)))
def m__law_race : FS := fnS 5 2 b__law_race
def b_is_integer : SS := ssRet (sAndV (sIsa PyData.isInt (sVar 0)) (sNotV (sIsa PyData.isBool (sVar 0))))
def m_is_integer : FS := fnS 1 1 b_is_integer
def e1_is_race : SE := sCall (m_is_integer) 1 (saCons (sVar 1) (saNil))
def b_is_race : SS := ssSeq (ssIf (sOrT (sNotT (sTest (sIsa PyData.isTuple (sVar 0)))) (sNotT (sTest (sChain leD leD (sC (.int 1)) (sCallB lenB (sdCons (sVar 0) (sdNil))) (sC (.int 6)))))) (ssRet (sC (.bool false)))
      (ssNil))
      (ssSeq (ssIf (sNotT (sTest (sCallB allB (sdCons (sLst (sComp (siSeq (sVar 0)) [1] (sgName 1) (stYes) (e1_is_race))) (sdNil))))) (ssRet (sC (.bool false)))
      (ssNil))
      (ssRet (sBin eqD (sLst (sCallL sortB (sdCons (sVar 0) (sdNil)))) (sLst (slR2 (sC (.int 1)) (sBin addD (sCallB lenB (sdCons (sVar 0) (sdNil))) (sC (.int 1))))))))
def m_is_race : FS := fnS 2 1 b_is_race
def b_in_range : SS := ssRet (sAndV (sCall (m_is_integer) 1 (saCons (sVar 0) (saNil))) (sChain leD leD (sVar 1) (sVar 0) (sVar 2)))
def m_in_range : FS := fnS 3 3 b_in_range
def e1_is_totals : SE := sCall (m_in_range) 3 (saCons (sVar 1) (saCons (sC (.int 0)) (saCons (sC (.int 100)) (saNil))))
def b_is_totals : SS := ssSeq (ssIf (sOrT (sNotT (sTest (sIsa PyData.isTuple (sVar 0)))) (sNotT (sTest (sChain leD leD (sC (.int 1)) (sCallB lenB (sdCons (sVar 0) (sdNil))) (sC (.int 6)))))) (ssRet (sC (.bool false)))
      (ssNil))
      (ssRet (sCallB allB (sdCons (sLst (sComp (siSeq (sVar 0)) [1] (sgName 1) (stYes) (e1_is_totals))) (sdNil))))
def m_is_totals : FS := fnS 2 1 b_is_totals
def b__law_changed (M : FS) : SS := ssSeq (ssIf (sAndT (sTest (sIsa PyData.isTuple (sVar 1))) (sAndT (sTest (sBin neD (sVar 1) (sTup (sdNil)))) (sTest (sBin gtD (sCall (m__law_take) 2 (saBag 0 (saCons (sC (.int 6)) (saNil)))) (sC (.int 0)))))) (ssSeq (ssAsg (sCall (m__law_take) 2 (saBag 0 (saCons (sCallB lenB (sdCons (sVar 1) (sdNil))) (saNil)))) (sgName 2))
      (ssRet (sBin addD (sBin addD (sSlice (sVar 1) (soNone) (soSome (sVar 2))) (sTup (sdCons (sCall (M) 2 (saBag 0 (saCons (sBin ixD (sVar 1) (sVar 2)) (saNil)))) (sdNil)))) (sSlice (sVar 1) (soSome (sBin addD (sVar 2) (sC (.int 1)))) (soNone)))))
      (ssNil))
      (ssSeq (ssAsg (sLst (sLen (sdCons (sC .none) (sdCons (sC (.bool true)) (sdCons (sC (.bool false)) (sdCons (sUn negD (sC (.int 1))) (sdCons (sC (.int 0)) (sdCons (sC (.int 1)) (sdCons (sC (.int 2)) (sdCons (sC (.int 100)) (sdCons (sC (.int 101)) (sdCons (sC (.str "1")) (sdCons (sTup (sdNil)) (sdCons (sTup (sdCons (sC (.int 1)) (sdNil))) (sdCons (sLst (sLen (sdCons (sC (.int 1)) (sdNil)))) (sdNil)))))))))))))))) (sgName 3))
      (ssRet (sBin ixD (sBin addD (sVar 3) (sLst (sLen (sdCons (sIf (sTest (sIsa PyData.isTuple (sVar 1))) (sLst (sCallL listB (sdCons (sVar 1) (sdNil)))) (sVar 1)) (sdNil))))) (sCall (m__law_take) 2 (saBag 0 (saCons (sC (.int 14)) (saNil)))))))
def m__law_changed_ : Nat → FS
  | 0 => fun _ _ _ _ => False
  | n + 1 => fnS 4 2 (b__law_changed (m__law_changed_ n))
def m__law_changed : FS := m__law_changed_ 4
def e1__law_same (M : FS) : SE := sCall M 2 (saCons (sVar 2) (saCons (sVar 3) (saNil)))
def b__law_same (M : FS) : SS := ssSeq (ssIf (sOrT (sAndT (sTest (sIsa PyData.isList (sVar 0))) (sTest (sIsa PyData.isList (sVar 1)))) (sAndT (sTest (sIsa PyData.isTuple (sVar 0))) (sTest (sIsa PyData.isTuple (sVar 1))))) (ssRet (sAndV (sBin eqD (sCallB lenB (sdCons (sVar 0) (sdNil))) (sCallB lenB (sdCons (sVar 1) (sdNil)))) (sCallB allB (sdCons (sLst (sComp (siZip (sVar 0) (sVar 1)) [2, 3] (sgTup 2 (sgCons (sgName 2) (sgCons (sgName 3) (sgNil)))) (stYes) (e1__law_same (M)))) (sdNil)))))
      (ssNil))
      (ssSeq (ssIf (sOrT (sTest (sIsa isBLT (sVar 0))) (sTest (sIsa isBLT (sVar 1)))) (ssRet (sAndV (sIsa PyData.isBool (sVar 0)) (sAndV (sIsa PyData.isBool (sVar 1)) (sBin eqD (sVar 0) (sVar 1)))))
      (ssNil))
      (ssSeq (ssIf (sOrT (sTest (sIsa PyData.isInt (sVar 0))) (sTest (sIsa PyData.isInt (sVar 1)))) (ssRet (sAndV (sIsa PyData.isInt (sVar 0)) (sAndV (sIsa PyData.isInt (sVar 1)) (sBin eqD (sVar 0) (sVar 1)))))
      (ssNil))
      (ssSeq (ssIf (sOrT (sTest (sIsa PyData.isStr (sVar 0))) (sTest (sIsa PyData.isStr (sVar 1)))) (ssRet (sAndV (sIsa PyData.isStr (sVar 0)) (sAndV (sIsa PyData.isStr (sVar 1)) (sBin eqD (sVar 0) (sVar 1)))))
      (ssNil))
      (ssRet (sAndV (sBin (isD false) (sVar 0) (sC .none)) (sBin (isD false) (sVar 1) (sC .none)))))))
def m__law_same_ : Nat → FS
  | 0 => fun _ _ _ _ => False
  | n + 1 => fnS 4 2 (b__law_same (m__law_same_ n))
def m__law_same : FS := m__law_same_ 6
def b__law_in : SS := ssRet (sAndV (sIsa PyData.isInt (sVar 0)) (sAndV (sNotV (sIsa PyData.isBool (sVar 0))) (sChain leD leD (sVar 1) (sVar 0) (sVar 2))))
def m__law_in : FS := fnS 3 3 b__law_in
def t1__law_good_totals : ST := sNotT (sTest (sCall (m__law_in) 3 (saCons (sVar 1) (saCons (sC (.int 0)) (saCons (sC (.int 100)) (saNil))))))
def b__law_good_totals : SS := ssSeq (ssIf (sOrT (sNotT (sTest (sIsa PyData.isTuple (sVar 0)))) (sNotT (sTest (sChain leD leD (sC (.int 1)) (sCallB lenB (sdCons (sVar 0) (sdNil))) (sC (.int 6)))))) (ssRet (sC (.bool false)))
      (ssNil))
      (ssRet (sBin eqD (sLst (sComp (siSeq (sVar 0)) [1] (sgName 1) (t1__law_good_totals) (sVar 1))) (sLst (sLen (sdNil)))))
def m__law_good_totals : FS := fnS 2 1 b__law_good_totals
def e1_are_races : SE := sCall (m_is_race) 1 (saCons (sVar 1) (saNil))
def e2_are_races : SE := sBin eqD (sCallB lenB (sdCons (sVar 1) (sdNil))) (sCallB lenB (sdCons (sBin ixD (sVar 0) (sC (.int 0))) (sdNil)))
def b_are_races : SS := ssSeq (ssIf (sOrT (sNotT (sTest (sChain leD leD (sC (.int 1)) (sCallB lenB (sdCons (sVar 0) (sdNil))) (sC (.int 8))))) (sNotT (sTest (sCallB allB (sdCons (sLst (sComp (siSeq (sVar 0)) [1] (sgName 1) (stYes) (e1_are_races))) (sdNil)))))) (ssRet (sC (.bool false)))
      (ssNil))
      (ssRet (sCallB allB (sdCons (sLst (sComp (siSeq (sVar 0)) [1] (sgName 1) (stYes) (e2_are_races))) (sdNil))))
def m_are_races : FS := fnS 2 1 b_are_races
def b_check_races : SS := ssIf (sNotT (sTest (sCall (m_are_races) 1 (saCons (sVar 0) (saNil))))) (ssNever)
      (ssNil)
def m_check_races : FS := fnS 1 1 b_check_races
def e1_sums : SE := sBin ixD (sVar 1) (sVar 2)
def e2_sums : SE := sCallB sumB (sdCons (sLst (sComp (siSeq (sVar 0)) [1] (sgName 1) (stYes) (e1_sums))) (sdNil))
def b_sums : SS := ssRet (sCallB tupleB (sdCons (sLst (sComp (siRange1 (sCallB lenB (sdCons (sBin ixD (sVar 0) (sC (.int 0))) (sdNil)))) [2] (sgName 2) (stYes) (e2_sums))) (sdNil)))
def m_sums : FS := fnS 3 1 b_sums
def b_totals : SS := ssSeq (ssExpr (sCall (m_check_races) 1 (saCons (sVar 0) (saNil))))
      (ssRet (sCall (m_sums) 1 (saCons (sVar 0) (saNil))))
def m_totals : FS := fnS 1 1 b_totals
def e1_ranking : SE := sTup (sdCons (sVar 4) (sdCons (sBin ixD (sBin ixD (sVar 0) (sUn negD (sC (.int 1)))) (sVar 3)) (sdCons (sVar 3) (sdNil))))
def b_ranking : SS := ssSeq (ssExpr (sCall (m_check_races) 1 (saCons (sVar 0) (saNil))))
      (ssSeq (ssAsg (sCall (m_sums) 1 (saCons (sVar 0) (saNil))) (sgName 1))
      (ssSeq (ssAsg (sLst (sCallL sortB (sdCons (sLst (sComp (siEnum (sVar 1)) [3, 4] (sgTup 2 (sgCons (sgName 3) (sgCons (sgName 4) (sgNil)))) (stYes) (e1_ranking))) (sdNil)))) (sgName 2))
      (ssRetF (sComp (siSeq (sVar 2)) [4, 5, 3] (sgTup 3 (sgCons (sgName 4) (sgCons (sgName 5) (sgCons (sgName 3) (sgNil))))) (stYes) (sVar 3)))))
def m_ranking : FS := fnS 6 1 b_ranking
def t1__law_good_race : ST := sOrT (sTest (sIsa PyData.isBool (sVar 1))) (sNotT (sTest (sIsa PyData.isInt (sVar 1))))
def b__law_good_race : SS := ssSeq (ssIf (sOrT (sNotT (sTest (sIsa PyData.isTuple (sVar 0)))) (sNotT (sTest (sChain leD leD (sC (.int 1)) (sCallB lenB (sdCons (sVar 0) (sdNil))) (sC (.int 6)))))) (ssRet (sC (.bool false)))
      (ssNil))
      (ssSeq (ssIf (sTest (sBin neD (sLst (sComp (siSeq (sVar 0)) [1] (sgName 1) (t1__law_good_race) (sVar 1))) (sLst (sLen (sdNil))))) (ssRet (sC (.bool false)))
      (ssNil))
      (ssRet (sBin eqD (sLst (sCallL sortB (sdCons (sVar 0) (sdNil)))) (sLst (slR2 (sC (.int 1)) (sBin addD (sCallB lenB (sdCons (sVar 0) (sdNil))) (sC (.int 1))))))))
def m__law_good_race : FS := fnS 2 1 b__law_good_race
def b_check_totals : SS := ssIf (sNotT (sTest (sCall (m_is_totals) 1 (saCons (sVar 0) (saNil))))) (ssNever)
      (ssNil)
def m_check_totals : FS := fnS 1 1 b_check_totals
def t1_final_places : ST := sTest (sBin ltD (sVar 1) (sVar 2))
def e2_final_places : SE := sBin addD (sC (.int 1)) (sCallB lenB (sdCons (sLst (sComp (siSeq (sVar 0)) [1] (sgName 1) (t1_final_places) (sVar 1))) (sdNil)))
def b_final_places : SS := ssSeq (ssExpr (sCall (m_check_totals) 1 (saCons (sVar 0) (saNil))))
      (ssRetF (sComp (siSeq (sVar 0)) [2] (sgName 2) (stYes) (e2_final_places)))
def m_final_places : FS := fnS 3 1 b_final_places
def b_check_number : SS := ssIf (sNotT (sTest (sCall (m_in_range) 3 (saCons (sVar 0) (saCons (sVar 1) (saCons (sVar 2) (saNil))))))) (ssNever)
      (ssNil)
def m_check_number : FS := fnS 3 3 b_check_number
def b_least : SS := ssRet (sBin fdivD (sBin mulD (sBin mulD (sVar 1) (sVar 0)) (sBin addD (sVar 0) (sC (.int 1)))) (sC (.int 2)))
def m_least : FS := fnS 2 2 b_least
def e1_short_set : SE := sTup (sdCons (sVar 4) (sdCons (sVar 3) (sdNil)))
def L2_short_set : SS := ssSeq (ssAsg (sBin addD (sVar 5) (sVar 4)) (sgName 5))
      (ssIf (sTest (sBin ltD (sVar 5) (sCall (m_least) 2 (saCons (sBin addD (sVar 6) (sC (.int 1))) (saCons (sVar 1) (saNil)))))) (ssRet (sCallB tupleB (sdCons (sLst (sCallL sortB (sdCons (sLst (sComp (siSeq (sSlice (sVar 2) (soNone) (soSome (sBin addD (sVar 6) (sC (.int 1)))))) [4, 7] (sgTup 2 (sgCons (sgName 4) (sgCons (sgName 7) (sgNil)))) (stYes) (sVar 7))) (sdNil)))) (sdNil))))
      (ssNil))
def b_short_set : SS := ssSeq (ssAsg (sLst (sCallL sortB (sdCons (sLst (sComp (siEnum (sVar 0)) [3, 4] (sgTup 2 (sgCons (sgName 3) (sgCons (sgName 4) (sgNil)))) (stYes) (e1_short_set))) (sdNil)))) (sgName 2))
      (ssSeq (ssAsg (sC (.int 0)) (sgName 5))
      (ssSeq (ssFor (siEnum (sVar 2)) (sgTup 2 (sgCons (sgName 6) (sgCons (sgTup 2 (sgCons (sgName 4) (sgCons (sgName 3) (sgNil)))) (sgNil))))
      (L2_short_set))
      (ssRet (sC .none))))
def m_short_set : FS := fnS 8 2 b_short_set
def b_balanced : SS := ssRet (sAndV (sBin eqD (sCallB sumB (sdCons (sVar 0) (sdNil))) (sCall (m_least) 2 (saCons (sCallB lenB (sdCons (sVar 0) (sdNil))) (saCons (sVar 1) (saNil))))) (sBin (isD false) (sCall (m_short_set) 2 (saCons (sVar 0) (saCons (sVar 1) (saNil)))) (sC .none)))
def m_balanced : FS := fnS 2 2 b_balanced
def t1_next_steps : ST := sTest (sBin (inD false) (sBin subD (sVar 7) (sC (.int 1))) (sVar 5))
def e2_next_steps : SE := sBin subD (sVar 7) (sC (.int 1))
def L3_next_steps : SS := ssSeq (ssAsg (sLst (sComp (siSeq (sBin ixD (sVar 0) (sVar 2))) [7] (sgName 7) (t1_next_steps) (e2_next_steps))) (sgName 6))
      (ssIf (sAndT (sTest (sBin (inD true) (sVar 4) (sVar 1))) (sTest (sBin neD (sVar 6) (sLst (sLen (sdNil)))))) (ssOwnM 3 appendM (sdCons (sTup (sdCons (sVar 4) (sdCons (sBin ixD (sVar 6) (sC (.int 0))) (sdNil)))) (sdNil)))
      (ssNil))
def b_next_steps : SS := ssSeq (ssAsgF (sLen (sdNil)) 3)
      (ssSeq (ssFor (siEnum (sVar 0)) (sgTup 2 (sgCons (sgName 4) (sgCons (sgName 5) (sgNil))))
      (L3_next_steps))
      (ssRetOwn 3))
def m_next_steps : FS := fnS 8 3 b_next_steps
def e1_all_rows : SE := sBin addD (sVar 6) (sTup (sdCons (sVar 7) (sdNil)))
def L2_all_rows : SS := ssAsg (sBin addD (sVar 5) (sLst (sComp (siRange1 (sBin addD (sBin subD (sVar 1) (sCallB sumB (sdCons (sVar 6) (sdNil)))) (sC (.int 1)))) [7] (sgName 7) (stYes) (e1_all_rows)))) (sgName 5)
def L3_all_rows : SS := ssSeq (ssAsg (sLst (sLen (sdNil))) (sgName 5))
      (ssSeq (ssFor (siSeq (sVar 3)) (sgName 6)
      (L2_all_rows))
      (ssAsg (sVar 5) (sgName 3)))
def e4_all_rows : SE := sBin mulD (sBin addD (sVar 9) (sC (.int 1))) (sVar 7)
def e5_all_rows : SE := sTup (sdCons (sVar 6) (sdCons (sCallB sumB (sdCons (sLst (sComp (siEnum (sVar 6)) [9, 7] (sgTup 2 (sgCons (sgName 9) (sgCons (sgName 7) (sgNil)))) (stYes) (e4_all_rows))) (sdNil))) (sdNil)))
def t6_all_rows : ST := sAndT (sTest (sBin eqD (sCallB sumB (sdCons (sVar 6) (sdNil))) (sVar 1))) (sTest (sBin eqD (sVar 10) (sVar 2)))
def b_all_rows : SS := ssSeq (ssAsg (sLst (sLen (sdCons (sTup (sdNil)) (sdNil)))) (sgName 3))
      (ssSeq (ssFor (siRange1 (sVar 0)) (sgName 4)
      (L3_all_rows))
      (ssSeq (ssAsg (sLst (sComp (siSeq (sVar 3)) [6] (sgName 6) (stYes) (e5_all_rows))) (sgName 8))
      (ssRetF (sComp (siSeq (sVar 8)) [6, 10] (sgTup 2 (sgCons (sgName 6) (sgCons (sgName 10) (sgNil)))) (t6_all_rows) (sVar 6)))))
def m_all_rows : FS := fnS 11 3 b_all_rows
def L1_assigned (M : FS) : SS := ssIf (sBorT 3 (sTest (sBin (inD true) (sVar 4) (sVar 3)))) (ssSeq (ssOwnM 3 appendM (sdCons (sVar 4) (sdNil)))
      (ssIf (sBorT 3 (sBorT 2 (sOrT (sTest (sBin (inD true) (sVar 4) (sVar 2))) (sTest (sCall M 4 (saCons (sVar 0) (saCons (sBin ixD (sVar 2) (sVar 4)) (saCons (sVar 2) (saCons (sVar 3) (saNil)))))))))) (ssSeq (ssAsg (sVar 1) (sgOwn 2 (sVar 4)))
      (ssRet (sC (.bool true))))
      (ssNil)))
      (ssNil)
def b_assigned (M : FS) : SS := ssSeq (ssFor (siSeq (sLst (sCallL sortB (sdCons (sBin ixD (sVar 0) (sVar 1)) (sdNil))))) (sgName 4)
      (L1_assigned (M)))
      (ssRet (sC (.bool false)))
def m_assigned_ : Nat → FS
  | 0 => fun _ _ _ _ => False
  | n + 1 => fnS 5 4 (b_assigned (m_assigned_ n))
def m_assigned : FS := m_assigned_ 7
def b_shortage : SS := ssSeq (ssExpr (sCall (m_check_totals) 1 (saCons (sVar 0) (saNil))))
      (ssSeq (ssExpr (sCall (m_check_number) 3 (saCons (sVar 1) (saCons (sC (.int 1)) (saCons (sC (.int 8)) (saNil))))))
      (ssRet (sCall (m_short_set) 2 (saCons (sVar 0) (saCons (sVar 1) (saNil))))))
def m_shortage : FS := fnS 2 2 b_shortage
def e1_is_shortage : SE := sCall (m_in_range) 3 (saCons (sVar 3) (saCons (sC (.int 0)) (saCons (sBin subD (sCallB lenB (sdCons (sVar 0) (sdNil))) (sC (.int 1))) (saNil))))
def e2_is_shortage : SE := sBin ltD (sVar 3) (sVar 4)
def e3_is_shortage : SE := sBin ixD (sVar 0) (sVar 3)
def b_is_shortage : SS := ssSeq (ssExpr (sCall (m_check_totals) 1 (saCons (sVar 0) (saNil))))
      (ssSeq (ssExpr (sCall (m_check_number) 3 (saCons (sVar 1) (saCons (sC (.int 1)) (saCons (sC (.int 8)) (saNil))))))
      (ssSeq (ssIf (sOrT (sNotT (sTest (sIsa PyData.isTuple (sVar 2)))) (sNotT (sTest (sCallB allB (sdCons (sLst (sComp (siSeq (sVar 2)) [3] (sgName 3) (stYes) (e1_is_shortage))) (sdNil)))))) (ssRet (sC (.bool false)))
      (ssNil))
      (ssSeq (ssIf (sNotT (sTest (sCallB allB (sdCons (sLst (sComp (siZip (sVar 2) (sSlice (sVar 2) (soSome (sC (.int 1))) (soNone))) [3, 4] (sgTup 2 (sgCons (sgName 3) (sgCons (sgName 4) (sgNil)))) (stYes) (e2_is_shortage))) (sdNil))))) (ssRet (sC (.bool false)))
      (ssNil))
      (ssRet (sBin ltD (sCallB sumB (sdCons (sLst (sComp (siSeq (sVar 2)) [3] (sgName 3) (stYes) (e3_is_shortage))) (sdNil))) (sCall (m_least) 2 (saCons (sCallB lenB (sdCons (sVar 2) (sdNil))) (saCons (sVar 1) (saNil)))))))))
def m_is_shortage : FS := fnS 5 3 b_is_shortage
def b_check_boat : SS := ssIf (sNotT (sTest (sCall (m_in_range) 3 (saCons (sVar 1) (saCons (sC (.int 0)) (saCons (sBin subD (sCallB lenB (sdCons (sVar 0) (sdNil))) (sC (.int 1))) (saNil))))))) (ssNever)
      (ssNil)
def m_check_boat : FS := fnS 2 2 b_check_boat
def b_check_all : SS := ssSeq (ssExpr (sCall (m_check_totals) 1 (saCons (sVar 0) (saNil))))
      (ssSeq (ssExpr (sCall (m_check_number) 3 (saCons (sVar 1) (saCons (sC (.int 0)) (saCons (sC (.int 8)) (saNil))))))
      (ssExpr (sCall (m_check_boat) 2 (saCons (sVar 0) (saCons (sVar 2) (saNil))))))
def m_check_all : FS := fnS 3 3 b_check_all
def b_check_flag : SS := ssIf (sNotT (sTest (sIsa PyData.isBool (sVar 0)))) (ssNever)
      (ssNil)
def m_check_flag : FS := fnS 1 1 b_check_flag
def t1_rival_needs : ST := sTest (sBin neD (sVar 5) (sVar 2))
def e2_rival_needs : SE := sBin subD (sBin subD (sVar 4) (sVar 6)) (sVar 1)
def b_rival_needs : SS := ssSeq (ssAsg (sBin addD (sBin addD (sBin ixD (sVar 0) (sVar 2)) (sVar 1)) (sCallB intB (sdCons (sVar 3) (sdNil)))) (sgName 4))
      (ssRetF (sComp (siEnum (sVar 0)) [5, 6] (sgTup 2 (sgCons (sgName 5) (sgCons (sgName 6) (sgNil)))) (t1_rival_needs) (e2_rival_needs)))
def m_rival_needs : FS := fnS 7 4 b_rival_needs
def L1_enough : SS := ssSeq (ssAsg (sBin addD (sVar 3) (sVar 5)) (sgName 3))
      (ssIf (sTest (sBin gtD (sVar 3) (sBin fdivD (sBin mulD (sBin mulD (sVar 1) (sBin addD (sVar 4) (sC (.int 1)))) (sBin subD (sBin mulD (sC (.int 2)) (sVar 2)) (sVar 4))) (sC (.int 2))))) (ssRet (sC (.bool false)))
      (ssNil))
def b_enough : SS := ssSeq (ssPar (sdCons (sCallB lenB (sdCons (sVar 0) (sdNil))) (sdCons (sC (.int 0)) (sdNil))) 2 3)
      (ssSeq (ssFor (siEnum (sLst (sRevL (sLst (sCallL sortB (sdCons (sVar 0) (sdNil))))))) (sgTup 2 (sgCons (sgName 4) (sgCons (sgName 5) (sgNil))))
      (L1_enough))
      (ssRet (sC (.bool true))))
def m_enough : FS := fnS 6 2 b_enough
def t1_is_sure : ST := sTest (sBin neD (sVar 5) (sVar 2))
def e2_is_sure : SE := sBin leD (sVar 4) (sBin addD (sVar 6) (sVar 1))
def b_is_sure : SS := ssSeq (ssExpr (sCall (m_check_all) 3 (saCons (sVar 0) (saCons (sVar 1) (saCons (sVar 2) (saNil))))))
      (ssSeq (ssExpr (sCall (m_check_flag) 1 (saCons (sVar 3) (saNil))))
      (ssSeq (ssAsg (sBin addD (sBin addD (sBin ixD (sVar 0) (sVar 2)) (sBin mulD (sVar 1) (sCallB lenB (sdCons (sVar 0) (sdNil))))) (sCallB intB (sdCons (sVar 3) (sdNil)))) (sgName 4))
      (ssRet (sCallB allB (sdCons (sLst (sComp (siEnum (sVar 0)) [5, 6] (sgTup 2 (sgCons (sgName 5) (sgCons (sgName 6) (sgNil)))) (t1_is_sure) (e2_is_sure))) (sdNil))))))
def m_is_sure : FS := fnS 7 4 b_is_sure
def e1_subsets : SE := sBin addD (sVar 3) (sLst (sLen (sdCons (sVar 2) (sdNil))))
def L2_subsets : SS := ssAsg (sBin addD (sVar 1) (sLst (sComp (siSeq (sVar 1)) [3] (sgName 3) (stYes) (e1_subsets)))) (sgName 1)
def b_subsets : SS := ssSeq (ssAsg (sLst (sLen (sdCons (sLst (sLen (sdNil))) (sdNil)))) (sgName 1))
      (ssSeq (ssFor (siRange1 (sVar 0)) (sgName 2)
      (L2_subsets))
      (ssRet (sVar 1)))
def m_subsets : FS := fnS 4 1 b_subsets
def e1_differences : SE := sBin subD (sVar 4) (sVar 3)
def b_differences : SS := ssSeq (ssAsg (sCallB tupleB (sdCons (sLst (sComp (siZip (sVar 0) (sVar 1)) [3, 4] (sgTup 2 (sgCons (sgName 3) (sgCons (sgName 4) (sgNil)))) (stYes) (e1_differences))) (sdNil))) (sgName 2))
      (ssRet (sIf (sTest (sBin geD (sCallB (foldB min) (sdCons (sVar 2) (sdNil))) (sC (.int 0)))) (sVar 2) (sC .none)))
def m_differences : FS := fnS 5 2 b_differences
def e1_sorted_totals : SE := sBin addD (sVar 5) (sTup (sdCons (sVar 9) (sdNil)))
def L2_sorted_totals : SS := ssSeq (ssAsg (sCallB sumB (sdCons (sVar 5) (sdNil))) (sgName 6))
      (ssSeq (ssAsg (sCallB (fold2B max) (sdCons (sIf (sTest (sBin neD (sVar 5) (sTup (sdNil)))) (sBin ixD (sVar 5) (sUn negD (sC (.int 1)))) (sVar 1)) (sdCons (sBin subD (sCall (m_least) 2 (saCons (sVar 3) (saCons (sVar 1) (saNil)))) (sVar 6)) (sdNil)))) (sgName 7))
      (ssSeq (ssAsg (sBin fdivD (sBin subD (sCall (m_least) 2 (saCons (sVar 0) (saCons (sVar 1) (saNil)))) (sVar 6)) (sBin addD (sBin subD (sVar 0) (sVar 3)) (sC (.int 1)))) (sgName 8))
      (ssAsg (sBin addD (sVar 4) (sLst (sComp (siRange2 (sVar 7) (sBin addD (sVar 8) (sC (.int 1)))) [9] (sgName 9) (stYes) (e1_sorted_totals)))) (sgName 4))))
def L3_sorted_totals : SS := ssSeq (ssAsg (sLst (sLen (sdNil))) (sgName 4))
      (ssSeq (ssFor (siSeq (sVar 2)) (sgName 5)
      (L2_sorted_totals))
      (ssAsg (sVar 4) (sgName 2)))
def t4_sorted_totals : ST := sTest (sBin eqD (sCallB sumB (sdCons (sVar 5) (sdNil))) (sCall (m_least) 2 (saCons (sVar 0) (saCons (sVar 1) (saNil)))))
def b_sorted_totals : SS := ssSeq (ssAsg (sLst (sLen (sdCons (sTup (sdNil)) (sdNil)))) (sgName 2))
      (ssSeq (ssFor (siRange2 (sC (.int 1)) (sBin addD (sVar 0) (sC (.int 1)))) (sgName 3)
      (L3_sorted_totals))
      (ssRetF (sComp (siSeq (sVar 2)) [5] (sgName 5) (t4_sorted_totals) (sVar 5))))
def m_sorted_totals : FS := fnS 10 2 b_sorted_totals
def e1__law_list : SE := sCall (m__law_race) 2 (saBag 0 (saCons (sVar 1) (saNil)))
def b__law_list : SS := ssRet (sCallB tupleB (sdCons (sLst (sComp (siRange1 (sVar 2)) [3] (sgName 3) (stYes) (e1__law_list))) (sdNil)))
def m__law_list : FS := fnS 4 3 b__law_list
def e1__law_sums : SE := sBin addD (sVar 3) (sVar 4)
def L2__law_sums : SS := ssAsg (sLst (sComp (siZip (sVar 1) (sVar 2)) [3, 4] (sgTup 2 (sgCons (sgName 3) (sgCons (sgName 4) (sgNil)))) (stYes) (e1__law_sums))) (sgName 1)
def b__law_sums : SS := ssSeq (ssAsg (sBin mulD (sLst (sLen (sdCons (sC (.int 0)) (sdNil)))) (sCallB lenB (sdCons (sBin ixD (sVar 0) (sC (.int 0))) (sdNil)))) (sgName 1))
      (ssSeq (ssFor (siSeq (sVar 0)) (sgName 2)
      (L2__law_sums))
      (ssRet (sCallB tupleB (sdCons (sVar 1) (sdNil)))))
def m__law_sums : FS := fnS 5 1 b__law_sums
def b__law_less : SS := ssSeq (ssAsg (sCall (m__law_sums) 1 (saCons (sVar 0) (saNil))) (sgName 3))
      (ssSeq (ssIf (sTest (sBin neD (sBin ixD (sVar 3) (sVar 1)) (sBin ixD (sVar 3) (sVar 2)))) (ssRet (sBin ltD (sBin ixD (sVar 3) (sVar 1)) (sBin ixD (sVar 3) (sVar 2))))
      (ssNil))
      (ssRet (sBin ltD (sBin ixD (sBin ixD (sVar 0) (sUn negD (sC (.int 1)))) (sVar 1)) (sBin ixD (sBin ixD (sVar 0) (sUn negD (sC (.int 1)))) (sVar 2)))))
def m__law_less : FS := fnS 4 3 b__law_less
def L1__law_give : SS := ssIf (sOrT (sNotT (sTest (sIsa PyData.isTuple (sVar 3)))) (sTest (sBin neD (sLst (sCallL sortB (sdCons (sVar 3) (sdNil)))) (sLst (slR2 (sC (.int 1)) (sBin addD (sCallB lenB (sdCons (sVar 1) (sdNil))) (sC (.int 1)))))))) (ssRet (sC (.bool false)))
      (ssNil)
def b__law_give : SS := ssSeq (ssIf (sOrT (sNotT (sTest (sIsa PyData.isTuple (sVar 0)))) (sTest (sBin neD (sCallB lenB (sdCons (sVar 0) (sdNil))) (sVar 2)))) (ssRet (sC (.bool false)))
      (ssNil))
      (ssSeq (ssFor (siSeq (sVar 0)) (sgName 3)
      (L1__law_give))
      (ssRet (sOrV (sBin eqD (sVar 2) (sC (.int 0))) (sBin eqD (sCall (m__law_sums) 1 (saCons (sVar 0) (saNil))) (sVar 1)))))
def m__law_give : FS := fnS 4 3 b__law_give
def L1__law_totals : SS := ssSeq (ssPar (sdCons (sCall (m__law_take) 2 (saBag 0 (saCons (sVar 1) (saNil)))) (sdCons (sCall (m__law_take) 2 (saBag 0 (saCons (sVar 1) (saNil)))) (sdNil))) 5 6)
      (ssIf (sTest (sBin gtD (sOwnIx 3 (sVar 5)) (sC (.int 0)))) (ssAsg (sTup (sdCons (sBin subD (sOwnIx 3 (sVar 5)) (sC (.int 1))) (sdCons (sBin addD (sOwnIx 3 (sVar 6)) (sC (.int 1))) (sdNil)))) (sgTup 2 (sgCons (sgOwn 3 (sVar 5)) (sgCons (sgOwn 3 (sVar 6)) (sgNil)))))
      (ssNil))
def b__law_totals : SS := ssSeq (ssAsgF (sCallL listB (sdCons (sCall (m__law_sums) 1 (saCons (sCall (m__law_list) 3 (saBag 0 (saCons (sVar 1) (saCons (sVar 2) (saNil))))) (saNil))) (sdNil))) 3)
      (ssSeq (ssFor (siRange1 (sBin mulD (sCall (m__law_take) 2 (saBag 0 (saCons (sC (.int 4)) (saNil)))) (sCall (m__law_take) 2 (saBag 0 (saCons (sC (.int 3)) (saNil)))))) (sgName 4)
      (L1__law_totals))
      (ssSeq (ssIf (sTest (sBin eqD (sCall (m__law_take) 2 (saBag 0 (saCons (sC (.int 8)) (saNil)))) (sC (.int 0)))) (ssAsg (sCall (m__law_take) 2 (saBag 0 (saCons (sC (.int 40)) (saNil)))) (sgOwn 3 (sC (.int 0))))
      (ssNil))
      (ssFreeze 3 (ssRet (sCallB tupleB (sdCons (sVar 3) (sdNil)))))))
def m__law_totals : FS := fnS 7 3 b__law_totals
def L1__law_fits : SS := ssSeq (ssAsg (sBin addD (sVar 2) (sVar 4)) (sgName 2))
      (ssIf (sTest (sBin ltD (sVar 2) (sBin fdivD (sBin mulD (sBin mulD (sVar 1) (sBin addD (sVar 3) (sC (.int 1)))) (sBin addD (sVar 3) (sC (.int 2)))) (sC (.int 2))))) (ssRet (sC (.bool false)))
      (ssNil))
def b__law_fits : SS := ssSeq (ssAsg (sC (.int 0)) (sgName 2))
      (ssSeq (ssFor (siEnum (sLst (sCallL sortB (sdCons (sVar 0) (sdNil))))) (sgTup 2 (sgCons (sgName 3) (sgCons (sgName 4) (sgNil))))
      (L1__law_fits))
      (ssRet (sBin eqD (sVar 2) (sBin fdivD (sBin mulD (sBin mulD (sVar 1) (sCallB lenB (sdCons (sVar 0) (sdNil)))) (sBin addD (sCallB lenB (sdCons (sVar 0) (sdNil))) (sC (.int 1)))) (sC (.int 2))))))
def m__law_fits : FS := fnS 5 2 b__law_fits
def t1__law_orders : ST := sTest (sBin (inD true) (sVar 5) (sVar 4))
def e2__law_orders : SE := sBin addD (sVar 4) (sTup (sdCons (sVar 5) (sdNil)))
def L3__law_orders : SS := ssAsg (sBin addD (sVar 3) (sLst (sComp (siRange2 (sC (.int 1)) (sBin addD (sVar 0) (sC (.int 1)))) [5] (sgName 5) (t1__law_orders) (e2__law_orders)))) (sgName 3)
def L4__law_orders : SS := ssSeq (ssAsg (sLst (sLen (sdNil))) (sgName 3))
      (ssSeq (ssFor (siSeq (sVar 1)) (sgName 4)
      (L3__law_orders))
      (ssAsg (sVar 3) (sgName 1)))
def b__law_orders : SS := ssSeq (ssAsg (sLst (sLen (sdCons (sTup (sdNil)) (sdNil)))) (sgName 1))
      (ssSeq (ssFor (siRange1 (sVar 0)) (sgName 2)
      (L4__law_orders))
      (ssRet (sVar 1)))
def m__law_orders : FS := fnS 6 1 b__law_orders
def e1__law_second : SE := sBin subD (sVar 3) (sVar 4)
def b__law_second : SS := ssSeq (ssAsg (sLst (sComp (siZip (sVar 1) (sVar 0)) [3, 4] (sgTup 2 (sgCons (sgName 3) (sgCons (sgName 4) (sgNil)))) (stYes) (e1__law_second))) (sgName 2))
      (ssRet (sBin eqD (sLst (sCallL sortB (sdCons (sVar 2) (sdNil)))) (sLst (slR2 (sC (.int 1)) (sBin addD (sCallB lenB (sdCons (sVar 1) (sdNil))) (sC (.int 1)))))))
def m__law_second : FS := fnS 5 2 b__law_second
def e1__law_all : SE := sBin addD (sVar 5) (sTup (sdCons (sVar 6) (sdNil)))
def L2__law_all : SS := ssAsg (sBin addD (sVar 4) (sLst (sComp (siSeq (sCall (m__law_orders) 1 (saCons (sVar 0) (saNil)))) [6] (sgName 6) (stYes) (e1__law_all)))) (sgName 4)
def L3__law_all : SS := ssSeq (ssAsg (sLst (sLen (sdNil))) (sgName 4))
      (ssSeq (ssFor (siSeq (sVar 2)) (sgName 5)
      (L2__law_all))
      (ssAsg (sVar 4) (sgName 2)))
def b__law_all : SS := ssSeq (ssAsg (sLst (sLen (sdCons (sTup (sdNil)) (sdNil)))) (sgName 2))
      (ssSeq (ssFor (siRange1 (sVar 1)) (sgName 3)
      (L3__law_all))
      (ssRet (sVar 2)))
def m__law_all : FS := fnS 7 2 b__law_all
def e1__law_left : SE := sBin subD (sVar 2) (sVar 3)
def b__law_left : SS := ssRet (sCallB tupleB (sdCons (sLst (sComp (siZip (sVar 0) (sVar 1)) [2, 3] (sgTup 2 (sgCons (sgName 2) (sgCons (sgName 3) (sgNil)))) (stYes) (e1__law_left))) (sdNil)))
def m__law_left : FS := fnS 4 2 b__law_left
def e1__law_ends : SE := sBin addD (sVar 5) (sVar 6)
def L2__law_ends : SS := ssSeq (ssAsg (sIf (sTest (sBin neD (sVar 3) (sTup (sdNil)))) (sCall (m__law_sums) 1 (saCons (sVar 3) (saNil))) (sBin mulD (sTup (sdCons (sC (.int 0)) (sdNil))) (sCallB lenB (sdCons (sVar 0) (sdNil))))) (sgName 4))
      (ssOwnM 2 appendM (sdCons (sCallB tupleB (sdCons (sLst (sComp (siZip (sVar 0) (sVar 4)) [5, 6] (sgTup 2 (sgCons (sgName 5) (sgCons (sgName 6) (sgNil)))) (stYes) (e1__law_ends))) (sdNil))) (sdNil)))
def b__law_ends : SS := ssSeq (ssAsgF (sLen (sdNil)) 2)
      (ssSeq (ssFor (siSeq (sCall (m__law_all) 2 (saCons (sCallB lenB (sdCons (sVar 0) (sdNil))) (saCons (sVar 1) (saNil))))) (sgName 3)
      (L2__law_ends))
      (ssRetOwn 2))
def m__law_ends : FS := fnS 7 2 b__law_ends
def t1__law_first : ST := sTest (sBin ltD (sVar 4) (sBin addD (sBin ixD (sVar 0) (sVar 1)) (sCallB intB (sdCons (sVar 2) (sdNil)))))
def b__law_first : SS := ssSeq (ssAsg (sBin addD (sSlice (sVar 0) (soNone) (soSome (sVar 1))) (sSlice (sVar 0) (soSome (sBin addD (sVar 1) (sC (.int 1)))) (soNone))) (sgName 3))
      (ssRet (sBin eqD (sLst (sComp (siSeq (sVar 3)) [4] (sgName 4) (t1__law_first) (sVar 4))) (sLst (sLen (sdNil)))))
def m__law_first : FS := fnS 5 3 b__law_first
def e1__law_after : SE := sBin addD (sVar 3) (sVar 4)
def b__law_after : SS := ssSeq (ssAsg (sIf (sTest (sBin neD (sVar 1) (sTup (sdNil)))) (sCall (m__law_sums) 1 (saCons (sVar 1) (saNil))) (sBin mulD (sTup (sdCons (sC (.int 0)) (sdNil))) (sCallB lenB (sdCons (sVar 0) (sdNil))))) (sgName 2))
      (ssRetF (sComp (siZip (sVar 0) (sVar 2)) [3, 4] (sgTup 2 (sgCons (sgName 3) (sgCons (sgName 4) (sgNil)))) (stYes) (e1__law_after)))
def m__law_after : FS := fnS 5 2 b__law_after
def t1__law_needs : ST := sTest (sBin neD (sVar 5) (sVar 2))
def e2__law_needs : SE := sBin subD (sVar 4) (sVar 6)
def b__law_needs : SS := ssSeq (ssAsg (sBin addD (sBin ixD (sVar 0) (sVar 2)) (sCallB intB (sdCons (sVar 3) (sdNil)))) (sgName 4))
      (ssRetF (sComp (siEnum (sVar 0)) [5, 6] (sgTup 2 (sgCons (sgName 5) (sgCons (sgName 6) (sgNil)))) (t1__law_needs) (e2__law_needs)))
def m__law_needs : FS := fnS 7 4 b__law_needs
def e1__law_vectors : SE := sBin addD (sVar 6) (sTup (sdCons (sVar 7) (sdNil)))
def L2__law_vectors : SS := ssAsg (sBin addD (sVar 5) (sLst (sComp (siRange2 (sVar 1) (sBin addD (sBin mulD (sVar 1) (sVar 0)) (sC (.int 1)))) [7] (sgName 7) (stYes) (e1__law_vectors)))) (sgName 5)
def L3__law_vectors : SS := ssSeq (ssAsg (sLst (sLen (sdNil))) (sgName 5))
      (ssSeq (ssFor (siSeq (sVar 2)) (sgName 6)
      (L2__law_vectors))
      (ssAsg (sVar 5) (sgName 2)))
def t4__law_vectors : ST := sTest (sCall (m__law_fits) 2 (saCons (sBin addD (sVar 6) (sTup (sdCons (sBin subD (sVar 3) (sCallB sumB (sdCons (sVar 6) (sdNil)))) (sdNil)))) (saCons (sVar 1) (saNil))))
def b__law_vectors : SS := ssSeq (ssAsg (sTup (sdCons (sLst (sLen (sdCons (sTup (sdNil)) (sdNil)))) (sdCons (sBin fdivD (sBin mulD (sBin mulD (sVar 1) (sVar 0)) (sBin addD (sVar 0) (sC (.int 1)))) (sC (.int 2))) (sdNil)))) (sgTup 2 (sgCons (sgName 2) (sgCons (sgName 3) (sgNil)))))
      (ssSeq (ssFor (siRange1 (sBin subD (sVar 0) (sC (.int 1)))) (sgName 4)
      (L3__law_vectors))
      (ssRet (sCallB lenB (sdCons (sLst (sComp (siSeq (sVar 2)) [6] (sgName 6) (t4__law_vectors) (sVar 6))) (sdNil)))))
def m__law_vectors : FS := fnS 8 2 b__law_vectors
def e1__law_moved : SE := sBin ixD (sVar 0) (sVar 2)
def b__law_moved : SS := ssRet (sCallB tupleB (sdCons (sLst (sComp (siSeq (sVar 1)) [2] (sgName 2) (stYes) (e1__law_moved))) (sdNil)))
def m__law_moved : FS := fnS 3 2 b__law_moved
def b__law_results : SS := ssRet (sIf (sTest (sBin neD (sVar 0) (sTup (sdNil)))) (sCall (m__law_sums) 1 (saCons (sVar 0) (saNil))) (sBin mulD (sTup (sdCons (sC (.int 0)) (sdNil))) (sVar 1)))
def m__law_results : FS := fnS 2 2 b__law_results
def e1__law_split : SE := sBin addD (sVar 8) (sVar 2)
def L2__law_split : SS := ssSeq (ssPar (sdCons (sCall (m__law_race) 2 (saBag 0 (saCons (sVar 2) (saNil)))) (sdCons (sCall (m__law_race) 2 (saBag 0 (saCons (sBin subD (sVar 1) (sVar 2)) (saNil)))) (sdNil))) 6 7)
      (ssAsg (sBin addD (sVar 4) (sTup (sdCons (sBin addD (sVar 6) (sCallB tupleB (sdCons (sLst (sComp (siSeq (sVar 7)) [8] (sgName 8) (stYes) (e1__law_split))) (sdNil)))) (sdNil)))) (sgName 4))
def b__law_split : SS := ssSeq (ssAsg (sTup (sdNil)) (sgName 4))
      (ssSeq (ssFor (siRange1 (sVar 3)) (sgName 5)
      (L2__law_split))
      (ssRet (sVar 4)))
def m__law_split : FS := fnS 9 4 b__law_split
def e1__law_added : SE := sBin addD (sVar 2) (sVar 3)
def b__law_added : SS := ssRet (sCallB tupleB (sdCons (sLst (sComp (siZip (sVar 0) (sVar 1)) [2, 3] (sgTup 2 (sgCons (sgName 2) (sgCons (sgName 3) (sgNil)))) (stYes) (e1__law_added))) (sdNil)))
def m__law_added : FS := fnS 4 2 b__law_added
def e1__law_turned : SE := sBin subD (sVar 2) (sVar 3)
def b__law_turned : SS := ssSeq (ssAsg (sBin mulD (sVar 1) (sBin addD (sCallB lenB (sdCons (sVar 0) (sdNil))) (sC (.int 1)))) (sgName 2))
      (ssRet (sCallB tupleB (sdCons (sLst (sComp (siSeq (sVar 0)) [3] (sgName 3) (stYes) (e1__law_turned))) (sdNil))))
def m__law_turned : FS := fnS 4 2 b__law_turned
end PT
set_option maxHeartbeats 4000000
namespace PT
open PySem PySem.Spec PyProof.Rows L2 DL
def b_occursN : SS := ssSeq (ssIf (sNotT (sTest (sCall (m_balanced) 2 (saCons (sVar 0) (saCons (sVar 1) (saNil)))))) (ssRet (sC (.bool false)))
      (ssNil))
      (ssRet (sOrV (sBin geD (sVar 1) (sBin subD (sCallB lenB (sdCons (sVar 0) (sdNil))) (sC (.int 1)))) (sBin (isD true) (sNev) (sC .none))))
def m_occursN : FS := fnS 2 2 b_occursN
def t1_unreadN : ST := sTest (sBin (inD true) (sVar 5) (sTup (sdCons (sVar 2) (sdCons (sVar 3) (sdNil)))))
def L2_unreadN : SS := ssSeq (ssAsgF (sCallL listB (sdCons (sVar 0) (sdNil))) 10)
      (ssSeq (ssAsg (sTup (sdCons (sVar 9) (sdCons (sBin subD (sVar 8) (sVar 9)) (sdNil)))) (sgTup 2 (sgCons (sgOwn 10 (sVar 2)) (sgCons (sgOwn 10 (sVar 3)) (sgNil)))))
      (ssIf (sBorT 10 (sTest (sCall (m_occursN) 2 (saCons (sCallB tupleB (sdCons (sVar 10) (sdNil))) (saCons (sVar 1) (saNil)))))) (ssOwnM 7 appendM (sdCons (sTup (sdCons (sVar 9) (sdCons (sBin subD (sVar 8) (sVar 9)) (sdNil)))) (sdNil)))
      (ssNil)))
def b_unreadN : SS := ssSeq (ssExpr (sCall (m_check_totals) 1 (saCons (sVar 0) (saNil))))
      (ssSeq (ssExpr (sCall (m_check_number) 3 (saCons (sVar 1) (saCons (sC (.int 1)) (saCons (sC (.int 8)) (saNil))))))
      (ssSeq (ssExpr (sCall (m_check_boat) 2 (saCons (sVar 0) (saCons (sVar 2) (saNil)))))
      (ssSeq (ssExpr (sCall (m_check_boat) 2 (saCons (sVar 0) (saCons (sVar 3) (saNil)))))
      (ssSeq (ssIf (sTest (sBin eqD (sVar 2) (sVar 3))) (ssNever)
      (ssNil))
      (ssSeq (ssAsg (sCallB sumB (sdCons (sLst (sComp (siEnum (sVar 0)) [5, 6] (sgTup 2 (sgCons (sgName 5) (sgCons (sgName 6) (sgNil)))) (t1_unreadN) (sVar 6))) (sdNil))) (sgName 4))
      (ssSeq (ssParF (sLen (sdNil)) (sBin subD (sCall (m_least) 2 (saCons (sCallB lenB (sdCons (sVar 0) (sdNil))) (saCons (sVar 1) (saNil)))) (sVar 4)) 7 8)
      (ssSeq (ssFor (siRange1 (sCallB (fold2B max) (sdCons (sC (.int 0)) (sdCons (sBin addD (sVar 8) (sC (.int 1))) (sdNil))))) (sgName 9)
      (L2_unreadN))
      (ssRetOwn 7))))))))
def m_unreadN : FS := fnS 11 4 b_unreadN
def L1_lawN : SS := ssSeq (ssAsgF (sCallL listB (sdCons (sVar 5) (sdNil))) 11)
      (ssSeq (ssAsg (sTup (sdCons (sVar 10) (sdCons (sBin subD (sVar 9) (sVar 10)) (sdNil)))) (sgTup 2 (sgCons (sgOwn 11 (sVar 6)) (sgCons (sgOwn 11 (sVar 7)) (sgNil)))))
      (ssIf (sBorT 11 (sTest (sCall (m__law_fits) 2 (saCons (sVar 11) (saCons (sVar 4) (saNil)))))) (ssOwnM 8 appendM (sdCons (sTup (sdCons (sVar 10) (sdCons (sBin subD (sVar 9) (sVar 10)) (sdNil)))) (sdNil)))
      (ssNil)))
def e2_lawN : SE := sTup (sdCons (sVar 14) (sdCons (sVar 10) (sdNil)))
def L3_lawN : SS := ssSeq (ssAsg (sBin addD (sC (.int 2)) (sCall (m__law_take) 2 (saBag 1 (saCons (sC (.int 5)) (saNil))))) (sgName 3))
      (ssSeq (ssAsg (sBin addD (sBin subD (sVar 3) (sC (.int 1))) (sCall (m__law_take) 2 (saBag 1 (saCons (sBin subD (sC (.int 10)) (sVar 3)) (saNil))))) (sgName 4))
      (ssSeq (ssAsg (sCall (m__law_sums) 1 (saCons (sCall (m__law_list) 3 (saBag 1 (saCons (sVar 3) (saCons (sVar 4) (saNil))))) (saNil))) (sgName 5))
      (ssSeq (ssAsg (sCall (m__law_take) 2 (saBag 1 (saCons (sVar 3) (saNil)))) (sgName 6))
      (ssSeq (ssAsg (sBin modD (sBin addD (sBin addD (sVar 6) (sC (.int 1))) (sCall (m__law_take) 2 (saBag 1 (saCons (sBin subD (sVar 3) (sC (.int 1))) (saNil))))) (sVar 3)) (sgName 7))
      (ssSeq (ssParF (sLen (sdNil)) (sBin addD (sBin ixD (sVar 5) (sVar 6)) (sBin ixD (sVar 5) (sVar 7))) 8 9)
      (ssSeq (ssFor (siRange1 (sBin addD (sVar 9) (sC (.int 1)))) (sgName 10)
      (L1_lawN))
      (ssSeq (ssAsg (sCall (m_unreadN) 4 (saCons (sVar 5) (saCons (sVar 4) (saCons (sVar 6) (saCons (sVar 7) (saNil)))))) (sgName 12))
      (ssSeq (ssIf (sBorT 8 (sOrT (sNotT (sTest (sCall (m__law_same) 2 (saCons (sVar 12) (saCons (sVar 8) (saNil)))))) (sTest (sBin (inD true) (sTup (sdCons (sBin ixD (sVar 5) (sVar 6)) (sdCons (sBin ixD (sVar 5) (sVar 7)) (sdNil)))) (sVar 12))))) (ssRet (sC (.bool false)))
      (ssNil))
      (ssSeq (ssAsgF (sCallL listB (sdCons (sVar 5) (sdNil))) 11)
      (ssSeq (ssAsg (sTup (sdCons (sCall (m__law_take) 2 (saBag 1 (saCons (sC (.int 101)) (saNil)))) (sdCons (sC (.int 100)) (sdNil)))) (sgTup 2 (sgCons (sgOwn 11 (sVar 6)) (sgCons (sgOwn 11 (sVar 7)) (sgNil)))))
      (ssSeq (ssIf (sBorT 8 (sBorT 11 (sTest (sBin neD (sCall (m_unreadN) 4 (saCons (sCallB tupleB (sdCons (sVar 11) (sdNil))) (saCons (sVar 4) (saCons (sVar 6) (saCons (sVar 7) (saNil)))))) (sVar 8))))) (ssRet (sC (.bool false)))
      (ssNil))
      (ssSeq (ssAsg (sCall (m_unreadN) 4 (saCons (sVar 5) (saCons (sVar 4) (saCons (sVar 7) (saCons (sVar 6) (saNil)))))) (sgName 13))
      (ssIf (sBorT 8 (sTest (sBin neD (sLst (sCallL sortB (sdCons (sLst (sComp (siSeq (sVar 13)) [10, 14] (sgTup 2 (sgCons (sgName 10) (sgCons (sgName 14) (sgNil)))) (stYes) (e2_lawN))) (sdNil)))) (sVar 8)))) (ssRet (sC (.bool false)))
      (ssNil))))))))))))))
def b_law_turn : SS := ssFor (siRange1 (sC (.int 3))) (sgName 2)
      (L3_lawN)
def b_law_rest : SS := ssRet (sBin eqD (sCall (m_unreadN) 4 (saCons (sTup (sdCons (sC (.int 4)) (sdCons (sC (.int 0)) (sdCons (sC (.int 0)) (sdNil))))) (saCons (sC (.int 3)) (saCons (sC (.int 1)) (saCons (sC (.int 2)) (saNil)))))) (sLst (sLen (sdCons (sTup (sdCons (sC (.int 5)) (sdCons (sC (.int 9)) (sdNil)))) (sdCons (sTup (sdCons (sC (.int 6)) (sdCons (sC (.int 8)) (sdNil)))) (sdCons (sTup (sdCons (sC (.int 7)) (sdCons (sC (.int 7)) (sdNil)))) (sdCons (sTup (sdCons (sC (.int 8)) (sdCons (sC (.int 6)) (sdNil)))) (sdCons (sTup (sdCons (sC (.int 9)) (sdCons (sC (.int 5)) (sdNil)))) (sdNil)))))))))
end PT
set_option maxHeartbeats 1000000
namespace PT
open PySem PySem.Spec PyProof.Rows L2 DL
/-! plain steps of the meanings -/
theorem mulD_i {i j : Int} (h : -(2 ^ 64) < j ∧ j < 2 ^ 64) : mulD (.int i) (.int j) = some (.int (i * j)) := by
  show (if mulOk i j then _ else _) = _
  rw [if_pos (.inr (.inl h))]
theorem fdivD_i {i j : Int} (h : 0 < j ∧ j < 1073741824) : fdivD (.int i) (.int j) = some (.int (i / j)) := by
  show (if _ then _ else _) = _
  rw [if_pos h]
theorem modD_i {i j : Int} (h : 0 < j) : modD (.int i) (.int j) = some (.int (i % j)) := by
  show (if _ then _ else _) = _
  rw [if_pos h]
theorem addD_t {xs ys : List D} (h : xs.length + ys.length ≤ 16000000) : addD (.tuple xs) (.tuple ys) = some (.tuple (xs ++ ys)) := by
  show (if lenOk _ then _ else _) = _
  rw [if_pos (show lenOk _ from h)]
theorem addD_l {xs ys : List D} (h : xs.length + ys.length ≤ 16000000) : addD (.list xs) (.list ys) = some (.list (xs ++ ys)) := by
  show (if lenOk _ then _ else _) = _
  rw [if_pos (show lenOk _ from h)]
theorem addD_ii {i j : Int} : addD (.int i) (.int j) = some (.int (i + j)) := rfl
theorem subD_ii {i j : Int} : subD (.int i) (.int j) = some (.int (i - j)) := rfl
theorem ltD_ii {i j : Int} : ltD (.int i) (.int j) = some (.bool (decide (i < j))) := rfl
theorem leD_ii {i j : Int} : leD (.int i) (.int j) = some (.bool (decide (i ≤ j))) := rfl
theorem gtD_ii {i j : Int} : gtD (.int i) (.int j) = some (.bool (decide (j < i))) := rfl
theorem geD_ii {i j : Int} : geD (.int i) (.int j) = some (.bool (decide (j ≤ i))) := rfl
theorem negD_i {i : Int} : negD (.int i) = some (.int (-i)) := rfl
theorem itemsD_l {xs : List D} : itemsD (.list xs) = some xs := rfl
theorem itemsD_t {xs : List D} : itemsD (.tuple xs) = some xs := rfl
theorem tupleB_l {xs : List D} : tupleB [.list xs] = some (.tuple xs) := rfl
theorem tupleB_t {xs : List D} : tupleB [.tuple xs] = some (.tuple xs) := rfl
theorem listB_l {xs : List D} : listB [.list xs] = some xs := rfl
theorem listB_t {xs : List D} : listB [.tuple xs] = some xs := rfl
theorem lenB_l {xs : List D} : lenB [.list xs] = some (.int xs.length) := rfl
theorem lenB_t {xs : List D} : lenB [.tuple xs] = some (.int xs.length) := rfl
theorem intB_i {i : Int} : intB [.int i] = some (.int i) := rfl
theorem intB_b {b : Bool} : intB [.bool b] = some (.int (if b then 1 else 0)) := rfl
theorem appendM_1 {xs : List D} {d : D} (h : xs.length + 1 ≤ 16000000) : appendM xs [d] = some (xs ++ [d]) := by
  show (if lenOk _ then _ else _) = _
  rw [if_pos (show lenOk _ from h)]
theorem fold2_i {f : Int → Int → Int} {i j : Int} : fold2B f [.int i, .int j] = some (.int (f i j)) := rfl
theorem toD_d {d : D} : (RV.dat d).toD = some d := rfl
theorem toD_n {ds : List D} : (RV.new ds).toD = some (.list ds) := rfl
theorem toL_n {ds : List D} : (RV.new ds).toL = some ds := rfl
theorem toD_some {d : D} {R : D → Prop} : (∃ e, (RV.dat d).toD = some e ∧ R e) ↔ R d := ⟨fun ⟨_, e, h⟩ => by cases e; exact h, fun h => ⟨_, rfl, h⟩⟩
theorem sgNil_n {ρ : DEnv} {R : DEnv → Prop} : sgNil [] ρ R = R ρ := propext ⟨fun h => h.2, fun h => ⟨rfl, h⟩⟩
theorem sgTup_t {n : Nat} {gs : SGs} {xs : List D} {ρ : DEnv} {R : DEnv → Prop} : sgTup n gs (.tuple xs) ρ R = (xs.length = n ∧ gs xs ρ R) := propext ⟨fun ⟨_, e, h⟩ => by cases e; exact h, fun h => ⟨_, rfl, h⟩⟩
/-! one step of each meaning, at an environment that is written out; what follows is named, never written out ahead of its turn -/
def kVal {α : Type} (o : Option α) (R : α → Nat → Prop) (m : Nat) : Prop := ∃ z, o = some z ∧ R z m
def hold (t : SS) (De : DEnds) (ρ : DEnv) : Prop := t De ρ
def kNx (Q : RV → Nat → Prop) (ρ : DEnv) : Prop := Q (.dat .none) ρ.m
def kRt (Q : RV → Nat → Prop) (d : D) (m : Nat) : Prop := Q (.dat d) m
def kRtN (Q : RV → Nat → Prop) (d : List D) (m : Nat) : Prop := Q (.new d) m
def kAsg (G : SG) (De : DEnds) (sl : List Slot) (F : Exc → Prop) (d : D) (m : Nat) : Prop := G d ⟨sl, m, F⟩ De.nx
def kAsgF (i : Nat) (De : DEnds) (sl : List Slot) (F : Exc → Prop) (ds : List D) (m : Nat) : Prop := De.nx ⟨sl.set i (.own ds), m, F⟩
def kPar (i j : Nat) (De : DEnds) (sl : List Slot) (F : Exc → Prop) (ds : List D) (m : Nat) : Prop := ∃ d e, ds = [d, e] ∧ De.nx ⟨(sl.set i (.dat d)).set j (.dat e), m, F⟩
def kParF2 (i j : Nat) (De : DEnds) (sl : List Slot) (F : Exc → Prop) (ds : List D) (e : D) (m : Nat) : Prop := De.nx ⟨(sl.set i (.own ds)).set j (.dat e), m, F⟩
def kParF (sa : SE) (i j : Nat) (De : DEnds) (sl : List Slot) (F : Exc → Prop) (ds : List D) (m : Nat) : Prop := sa ⟨sl, m, F⟩ (kParF2 i j De sl F ds)
def kExp (De : DEnds) (sl : List Slot) (F : Exc → Prop) (_ : D) (m : Nat) : Prop := De.nx ⟨sl, m, F⟩
def kFor (G : SG) (s : SS) (De : DEnds) (sl : List Slot) (F : Exc → Prop) (ds : List D) (m : Nat) : Prop := forL G s De ds ⟨sl, m, F⟩
def kIf (s u : SS) (De : DEnds) (sl : List Slot) (F : Exc → Prop) (b : Bool) (m : Nat) : Prop := if b = true then s De ⟨sl, m, F⟩ else u De ⟨sl, m, F⟩
def kIfV (sa sb : SE) (sl : List Slot) (F : Exc → Prop) (R : D → Nat → Prop) (b : Bool) (m : Nat) : Prop := if b = true then sa ⟨sl, m, F⟩ R else sb ⟨sl, m, F⟩ R
def kOrT (u : ST) (sl : List Slot) (F : Exc → Prop) (R : Bool → Nat → Prop) (b : Bool) (m : Nat) : Prop := if b = true then R true m else u ⟨sl, m, F⟩ R
def kAndT (u : ST) (sl : List Slot) (F : Exc → Prop) (R : Bool → Nat → Prop) (b : Bool) (m : Nat) : Prop := if b = true then u ⟨sl, m, F⟩ R else R false m
def kNotT (T : Bool → Nat → Prop) (b : Bool) (m : Nat) : Prop := T (!b) m
def kAnd (sb : SE) (sl : List Slot) (F : Exc → Prop) (R : D → Nat → Prop) (d : D) (m : Nat) : Prop := ∃ b, d = .bool b ∧ if b = true then sb ⟨sl, m, F⟩ R else R (.bool false) m
def kOr (sb : SE) (sl : List Slot) (F : Exc → Prop) (R : D → Nat → Prop) (d : D) (m : Nat) : Prop := ∃ b, d = .bool b ∧ if b = true then R (.bool true) m else sb ⟨sl, m, F⟩ R
def kNot (R : D → Nat → Prop) (d : D) (m : Nat) : Prop := ∃ b, d = .bool b ∧ R (.bool (!b)) m
def kTest (R : Bool → Nat → Prop) (d : D) (m : Nat) : Prop := ∃ b, d = .bool b ∧ R b m
def kBin2 (g : D → D → Option D) (x : D) (R : D → Nat → Prop) (y : D) (m : Nat) : Prop := kVal (g x y) R m
def kBin (g : D → D → Option D) (sb : SE) (sl : List Slot) (F : Exc → Prop) (R : D → Nat → Prop) (x : D) (m : Nat) : Prop := sb ⟨sl, m, F⟩ (kBin2 g x R)
def kUn (f : D → Option D) (R : D → Nat → Prop) (x : D) (m : Nat) : Prop := kVal (f x) R m
def kChain (g' : D → D → Option D) (sc : SE) (sl : List Slot) (F : Exc → Prop) (R : D → Nat → Prop) (y k : D) (m : Nat) : Prop := ∃ b, k = .bool b ∧ if b = true then sc ⟨sl, m, F⟩ (kBin2 g' y R) else R (.bool false) m
def kCh2 (g g' : D → D → Option D) (sc : SE) (sl : List Slot) (F : Exc → Prop) (R : D → Nat → Prop) (x y : D) (m : Nat) : Prop := kVal (g x y) (kChain g' sc sl F R y) m
def kCh1 (g g' : D → D → Option D) (sb sc : SE) (sl : List Slot) (F : Exc → Prop) (R : D → Nat → Prop) (x : D) (m : Nat) : Prop := sb ⟨sl, m, F⟩ (kCh2 g g' sc sl F R x)
def kRet (R : D → Nat → Prop) (rv : RV) (m : Nat) : Prop := ∃ d, rv.toD = some d ∧ R d m
def kRetN (R : List D → Nat → Prop) (rv : RV) (m : Nat) : Prop := ∃ d, rv.toL = some d ∧ R d m
def kSome (R : Option Int → Nat → Prop) (d : D) (m : Nat) : Prop := ∃ i, d = .int i ∧ R (some i) m
def kSlot (R : D → Nat → Prop) (m : Nat) : Option Slot → Prop
  | some (.dat d) => R d m
  | _ => False
def kDc2 (d : D) (Q : List D → Nat → Prop) (ds : List D) (m : Nat) : Prop := Q (d :: ds) m
def kDc (sd : SD) (sl : List Slot) (F : Exc → Prop) (Q : List D → Nat → Prop) (d : D) (m : Nat) : Prop := sd ⟨sl, m, F⟩ (kDc2 d Q)
def kLst (R : D → Nat → Prop) (ds : List D) (m : Nat) : Prop := R (.list ds) m
def kLen (Q : List D → Nat → Prop) (ds : List D) (m : Nat) : Prop := lenOk ds.length ∧ Q ds m
def kTup (R : D → Nat → Prop) (ds : List D) (m : Nat) : Prop := lenOk ds.length ∧ R (.tuple ds) m
def kCB {α : Type} (f : List D → Option α) (R : α → Nat → Prop) (ds : List D) (m : Nat) : Prop := kVal (f ds) R m
def kIsa (f : D → Bool) (R : D → Nat → Prop) (d : D) (m : Nat) : Prop := R (.bool (f d)) m
def kSl3 (d : D) (i : Option Int) (R : D → Nat → Prop) (j : Option Int) (m : Nat) : Prop := kVal (sliceD d i j) R m
def kSl2 (hi : SO) (sl : List Slot) (F : Exc → Prop) (R : D → Nat → Prop) (d : D) (i : Option Int) (m : Nat) : Prop := hi ⟨sl, m, F⟩ (kSl3 d i R)
def kSl1 (lo hi : SO) (sl : List Slot) (F : Exc → Prop) (R : D → Nat → Prop) (d : D) (m : Nat) : Prop := lo ⟨sl, m, F⟩ (kSl2 hi sl F R d)
def kRtO (Q : RV → Nat → Prop) (m : Nat) : Option Slot → Prop
  | some (.own ds) => Q (.new ds) m
  | _ => False
def kOm3 (i : Nat) (De : DEnds) (sl : List Slot) (F : Exc → Prop) (zs : List D) (m : Nat) : Prop := De.nx ⟨sl.set i (.own zs), m, F⟩
def kOm2 (i : Nat) (f : List D → List D → Option (List D)) (De : DEnds) (sl : List Slot) (F : Exc → Prop) (ds es : List D) (m : Nat) : Prop := kVal (f ds es) (kOm3 i De sl F) m
def kOm (i : Nat) (f : List D → List D → Option (List D)) (sd : SD) (De : DEnds) (sl : List Slot) (F : Exc → Prop) (m : Nat) : Option Slot → Prop
  | some (.own ds) => sd ⟨sl, m, F⟩ (kOm2 i f De sl F ds)
  | _ => False
def kSo3 (i : Nat) (d : D) (sl : List Slot) (F : Exc → Prop) (Q : DEnv → Prop) (ds : List D) (j : Nat) (m : Nat) : Prop := Q ⟨sl.set i (.own (ds.set j d)), m, F⟩
def kSo2 (i : Nat) (d : D) (sl : List Slot) (F : Exc → Prop) (Q : DEnv → Prop) (ds : List D) (k : D) (m : Nat) : Prop := ∃ z, k = .int z ∧ kVal (ixN ds.length z) (kSo3 i d sl F Q ds) m
def kSo (i : Nat) (sa : SE) (d : D) (sl : List Slot) (F : Exc → Prop) (m : Nat) (Q : DEnv → Prop) : Option Slot → Prop
  | some (.own ds) => sa ⟨sl, m, F⟩ (kSo2 i d sl F Q ds)
  | _ => False
def kOi2 (ds : List D) (R : D → Nat → Prop) (y : D) (m : Nat) : Prop := ∃ k, y = .int k ∧ kVal (atI ds k) R m
def kOi (sb : SE) (sl : List Slot) (F : Exc → Prop) (m : Nat) (R : D → Nat → Prop) : Option Slot → Prop
  | some (.own ds) => sb ⟨sl, m, F⟩ (kOi2 ds R)
  | _ => False
def kSeq (Q : List D → Nat → Prop) (d : D) (m : Nat) : Prop := kVal (itemsD d) Q m
def kEnum2 (Q : List D → Nat → Prop) (xs : List D) (m : Nat) : Prop := Q (enumD 0 xs) m
def kEnum (Q : List D → Nat → Prop) (d : D) (m : Nat) : Prop := kVal (itemsD d) (kEnum2 Q) m
def kZip4 (Q : List D → Nat → Prop) (xs ys : List D) (m : Nat) : Prop := Q (zipD xs ys) m
def kZip3 (Q : List D → Nat → Prop) (e : D) (xs : List D) (m : Nat) : Prop := kVal (itemsD e) (kZip4 Q xs) m
def kZip2 (Q : List D → Nat → Prop) (d e : D) (m : Nat) : Prop := kVal (itemsD d) (kZip3 Q e) m
def kZip (sb : SE) (sl : List Slot) (F : Exc → Prop) (Q : List D → Nat → Prop) (d : D) (m : Nat) : Prop := sb ⟨sl, m, F⟩ (kZip2 Q d)
def kRg1 (B : Int) (Q : List D → Nat → Prop) (d : D) (m : Nat) : Prop := ∃ j : Int, d = .int j ∧ (-B ≤ j ∧ j ≤ B) ∧ Q (rangeD 0 j.toNat) m
def kRg2b (B : Int) (Q : List D → Nat → Prop) (d e : D) (m : Nat) : Prop := ∃ i j : Int, d = .int i ∧ e = .int j ∧ (-B ≤ i ∧ i ≤ B) ∧ (-B ≤ j ∧ j ≤ B) ∧ Q (rangeD i (j - i).toNat) m
def kRg2 (B : Int) (sb : SE) (sl : List Slot) (F : Exc → Prop) (Q : List D → Nat → Prop) (d : D) (m : Nat) : Prop := sb ⟨sl, m, F⟩ (kRg2b B Q d)
def kRgDb (Q : List D → Nat → Prop) (d e : D) (m : Nat) : Prop := ∃ i j : Int, d = .int i ∧ e = .int j ∧ (-1000000000 ≤ i ∧ i ≤ 1000000000) ∧ (-1000000000 ≤ j ∧ j ≤ 1000000000) ∧ Q ((List.range (i - j).toNat).map fun (k : Nat) => PyData.int (i - (k : Int))) m
def kRgD (sb : SE) (sl : List Slot) (F : Exc → Prop) (Q : List D → Nat → Prop) (d : D) (m : Nat) : Prop := sb ⟨sl, m, F⟩ (kRgDb Q d)
def kCall (n : Nat) (f : FS) (F : Exc → Prop) (R : D → Nat → Prop) (ss : List Slot) (m : Nat) : Prop := ss.length = n ∧ f ss m F (kRet R)
def kCallN (n : Nat) (f : FS) (F : Exc → Prop) (R : List D → Nat → Prop) (ss : List Slot) (m : Nat) : Prop := ss.length = n ∧ f ss m F (kRetN R)
def kAc2 (s : Slot) (Q : List Slot → Nat → Prop) (ss : List Slot) (m : Nat) : Prop := Q (s :: ss) m
def kAc (A : SA) (sl : List Slot) (F : Exc → Prop) (Q : List Slot → Nat → Prop) (d : D) (m : Nat) : Prop := A ⟨sl, m, F⟩ (kAc2 (.dat d) Q)
def kBag (A : SA) (sl : List Slot) (F : Exc → Prop) (m : Nat) (Q : List Slot → Nat → Prop) : Option Slot → Prop
  | some .bag => A ⟨sl, m, F⟩ (kAc2 .bag Q)
  | _ => False
def kComp (vs : List Nat) (G : SG) (st : ST) (sa : SE) (sl : List Slot) (Q : List D → Nat → Prop) (ds : List D) (m : Nat) : Prop := lenOk ds.length ∧ compL G st sa ⟨setUn vs (sl.map Slot.inner), m, fun _ => False⟩ ds m Q
def kRev (Q : List D → Nat → Prop) (d : D) (m : Nat) : Prop := ∃ xs, d = .list xs ∧ Q xs.reverse m
def kGc (gs : SGs) (ds : List D) (R : DEnv → Prop) (ρ : DEnv) : Prop := gs ds ρ R
def kFl (G : SG) (s : SS) (De : DEnds) (ds : List D) (ρ : DEnv) : Prop := s { nx := forL G s De ds, rt := De.rt, bk := De.nx, ct := forL G s De ds } ρ
def compT (g : SG) (t : ST) (e : SE) (ρ0 : DEnv) (d : D) (m : Nat) (K : D → Nat → Prop) (N : Nat → Prop) : Prop := g d { ρ0 with m := m } fun ρ1 => t ρ1 fun b m2 => if b = true then e { ρ1 with m := m2 } K else N m2
def kCt2 (e : SE) (K : D → Nat → Prop) (N : Nat → Prop) (sl : List Slot) (F : Exc → Prop) (b : Bool) (m : Nat) : Prop := if b = true then e ⟨sl, m, F⟩ K else N m
def kCt (t : ST) (e : SE) (K : D → Nat → Prop) (N : Nat → Prop) (ρ1 : DEnv) : Prop := t ρ1 fun b m2 => if b = true then e { ρ1 with m := m2 } K else N m2
section
variable {sl : List Slot} {m n i j : Nat} {F : Exc → Prop} {De : DEnds} {R : D → Nat → Prop} {T : Bool → Nat → Prop} {s t u : SS} {sa sb sc : SE} {st st' : ST} {b : Bool} {g g' : D → D → Option D} {sd : SD} {A : SA} {G : SG} {Q : List D → Nat → Prop} {d e x y : D} {ds es : List D} {gs : SGs} {P : DEnv → Prop} {V : RV → Nat → Prop} {W : List Slot → Nat → Prop} {ss : List Slot}
theorem kVal_s {α : Type} {z : α} {R : α → Nat → Prop} : kVal (some z) R m = R z m := propext ⟨fun ⟨_, e, h⟩ => by cases e; exact h, fun h => ⟨_, rfl, h⟩⟩
theorem hold_c : hold t De ⟨sl, m, F⟩ = t De ⟨sl, m, F⟩ := rfl
theorem kNx_c : kNx V ⟨sl, m, F⟩ = V (.dat .none) m := rfl
theorem kRt_c : kRt V d m = V (.dat d) m := rfl
theorem kRtN_c : kRtN V ds m = V (.new ds) m := rfl
theorem kAsg_c : kAsg G De sl F d m = G d ⟨sl, m, F⟩ De.nx := rfl
theorem kAsgF_c : kAsgF i De sl F ds m = De.nx ⟨sl.set i (.own ds), m, F⟩ := rfl
theorem kPar_c : kPar i j De sl F [d, e] m = De.nx ⟨(sl.set i (.dat d)).set j (.dat e), m, F⟩ := propext ⟨fun ⟨_, _, e, h⟩ => by cases e; exact h, fun h => ⟨_, _, rfl, h⟩⟩
theorem kParF_c : kParF sa i j De sl F ds m = sa ⟨sl, m, F⟩ (kParF2 i j De sl F ds) := rfl
theorem kParF2_c : kParF2 i j De sl F ds e m = De.nx ⟨(sl.set i (.own ds)).set j (.dat e), m, F⟩ := rfl
theorem kExp_c : kExp De sl F d m = De.nx ⟨sl, m, F⟩ := rfl
theorem kFor_c : kFor G s De sl F ds m = forL G s De ds ⟨sl, m, F⟩ := rfl
theorem kIf_t : kIf s u De sl F true m = s De ⟨sl, m, F⟩ := if_pos rfl
theorem kIf_f : kIf s u De sl F false m = u De ⟨sl, m, F⟩ := if_neg Bool.false_ne_true
theorem kIf_s (h1 : b = true → s De ⟨sl, m, F⟩) (h2 : b = false → u De ⟨sl, m, F⟩) : kIf s u De sl F b m := by
  cases b
  · rw [kIf_f]; exact h2 rfl
  · rw [kIf_t]; exact h1 rfl
theorem kIfV_t : kIfV sa sb sl F R true m = sa ⟨sl, m, F⟩ R := if_pos rfl
theorem kIfV_f : kIfV sa sb sl F R false m = sb ⟨sl, m, F⟩ R := if_neg Bool.false_ne_true
theorem kIfV_s (h1 : b = true → sa ⟨sl, m, F⟩ R) (h2 : b = false → sb ⟨sl, m, F⟩ R) : kIfV sa sb sl F R b m := by
  cases b
  · rw [kIfV_f]; exact h2 rfl
  · rw [kIfV_t]; exact h1 rfl
theorem kOrT_t : kOrT st sl F T true m = T true m := if_pos rfl
theorem kOrT_f : kOrT st sl F T false m = st ⟨sl, m, F⟩ T := if_neg Bool.false_ne_true
theorem kAndT_t : kAndT st sl F T true m = st ⟨sl, m, F⟩ T := if_pos rfl
theorem kAndT_f : kAndT st sl F T false m = T false m := if_neg Bool.false_ne_true
theorem kNotT_c : kNotT T b m = T (!b) m := rfl
theorem kEx {P : Bool → Prop} {b : Bool} : (∃ c, PyData.bool b = .bool c ∧ P c) = P b := propext ⟨fun ⟨_, e, h⟩ => by cases e; exact h, fun h => ⟨_, rfl, h⟩⟩
theorem kExI {P : Int → Prop} {b : Int} : (∃ c, PyData.int b = .int c ∧ P c) = P b := propext ⟨fun ⟨_, e, h⟩ => by cases e; exact h, fun h => ⟨_, rfl, h⟩⟩
theorem kAnd_t : kAnd sb sl F R (.bool true) m = sb ⟨sl, m, F⟩ R := by unfold kAnd; rw [kEx (P := fun b => if b = true then _ else _)]; exact if_pos rfl
theorem kAnd_f : kAnd sb sl F R (.bool false) m = R (.bool false) m := by unfold kAnd; rw [kEx (P := fun b => if b = true then _ else _)]; exact if_neg Bool.false_ne_true
theorem kOr_t : kOr sb sl F R (.bool true) m = R (.bool true) m := by unfold kOr; rw [kEx (P := fun b => if b = true then _ else _)]; exact if_pos rfl
theorem kOr_f : kOr sb sl F R (.bool false) m = sb ⟨sl, m, F⟩ R := by unfold kOr; rw [kEx (P := fun b => if b = true then _ else _)]; exact if_neg Bool.false_ne_true
theorem kNot_b : kNot R (.bool b) m = R (.bool (!b)) m := kEx (P := fun b => R (.bool (!b)) m)
theorem kTest_b : kTest T (.bool b) m = T b m := kEx (P := fun b => T b m)
theorem kBin_c : kBin g sb sl F R x m = sb ⟨sl, m, F⟩ (kBin2 g x R) := rfl
theorem kBin2_c : kBin2 g x R y m = kVal (g x y) R m := rfl
theorem kUn_c {f : D → Option D} : kUn f R x m = kVal (f x) R m := rfl
theorem kChain_t : kChain g sc sl F R y (.bool true) m = sc ⟨sl, m, F⟩ (kBin2 g y R) := by unfold kChain; rw [kEx (P := fun b => if b = true then _ else _)]; exact if_pos rfl
theorem kChain_f : kChain g sc sl F R y (.bool false) m = R (.bool false) m := by unfold kChain; rw [kEx (P := fun b => if b = true then _ else _)]; exact if_neg Bool.false_ne_true
theorem kCh1_c : kCh1 g g' sb sc sl F R x m = sb ⟨sl, m, F⟩ (kCh2 g g' sc sl F R x) := rfl
theorem kCh2_c : kCh2 g g' sc sl F R x y m = kVal (g x y) (kChain g' sc sl F R y) m := rfl
theorem kRet_d : kRet R (.dat d) m = R d m := propext ⟨fun ⟨_, e, h⟩ => by cases e; exact h, fun h => ⟨_, rfl, h⟩⟩
theorem kRet_n : kRet R (.new ds) m = R (.list ds) m := propext ⟨fun ⟨_, e, h⟩ => by cases e; exact h, fun h => ⟨_, rfl, h⟩⟩
theorem kRetN_n : kRetN Q (.new ds) m = Q ds m := propext ⟨fun ⟨_, e, h⟩ => by cases e; exact h, fun h => ⟨_, rfl, h⟩⟩
theorem kSome_i {O : Option Int → Nat → Prop} {z : Int} : kSome O (.int z) m = O (some z) m := kExI (P := fun z => O (some z) m)
theorem kSlot_d : kSlot R m (some (.dat d)) = R d m := rfl
theorem kDc_c : kDc sd sl F Q d m = sd ⟨sl, m, F⟩ (kDc2 d Q) := rfl
theorem kDc2_c : kDc2 d Q ds m = Q (d :: ds) m := rfl
theorem kLst_c : kLst R ds m = R (.list ds) m := rfl
theorem kLen_c : kLen Q ds m = (lenOk ds.length ∧ Q ds m) := rfl
theorem kTup_c : kTup R ds m = (lenOk ds.length ∧ R (.tuple ds) m) := rfl
theorem kCB_c {α : Type} {f : List D → Option α} {R : α → Nat → Prop} : kCB f R ds m = kVal (f ds) R m := rfl
theorem kIsa_c {f : D → Bool} : kIsa f R d m = R (.bool (f d)) m := rfl
theorem kSl1_c {lo hi : SO} : kSl1 lo hi sl F R d m = lo ⟨sl, m, F⟩ (kSl2 hi sl F R d) := rfl
theorem kSl2_c {hi : SO} {o : Option Int} : kSl2 hi sl F R d o m = hi ⟨sl, m, F⟩ (kSl3 d o R) := rfl
theorem kSl3_c {o p : Option Int} : kSl3 d o R p m = kVal (sliceD d o p) R m := rfl
theorem kRtO_c : kRtO V m (some (.own ds)) = V (.new ds) m := rfl
theorem kOm_c {f : List D → List D → Option (List D)} : kOm i f sd De sl F m (some (.own ds)) = sd ⟨sl, m, F⟩ (kOm2 i f De sl F ds) := rfl
theorem kOm2_c {f : List D → List D → Option (List D)} : kOm2 i f De sl F ds es m = kVal (f ds es) (kOm3 i De sl F) m := rfl
theorem kOm3_c : kOm3 i De sl F ds m = De.nx ⟨sl.set i (.own ds), m, F⟩ := rfl
theorem kSo_c : kSo i sa d sl F m P (some (.own ds)) = sa ⟨sl, m, F⟩ (kSo2 i d sl F P ds) := rfl
theorem kSo2_c {z : Int} : kSo2 i d sl F P ds (.int z) m = kVal (ixN ds.length z) (kSo3 i d sl F P ds) m := kExI (P := fun z => kVal (ixN ds.length z) (kSo3 i d sl F P ds) m)
theorem kSo3_c : kSo3 i d sl F P ds j m = P ⟨sl.set i (.own (ds.set j d)), m, F⟩ := rfl
theorem kOi_c : kOi sb sl F m R (some (.own ds)) = sb ⟨sl, m, F⟩ (kOi2 ds R) := rfl
theorem kOi2_c {z : Int} : kOi2 ds R (.int z) m = kVal (atI ds z) R m := kExI (P := fun z => kVal (atI ds z) R m)
theorem kSeq_c : kSeq Q d m = kVal (itemsD d) Q m := rfl
theorem kEnum_c : kEnum Q d m = kVal (itemsD d) (kEnum2 Q) m := rfl
theorem kEnum2_c : kEnum2 Q ds m = Q (enumD 0 ds) m := rfl
theorem kZip_c : kZip sb sl F Q d m = sb ⟨sl, m, F⟩ (kZip2 Q d) := rfl
theorem kZip2_c : kZip2 Q d e m = kVal (itemsD d) (kZip3 Q e) m := rfl
theorem kZip3_c : kZip3 Q e ds m = kVal (itemsD e) (kZip4 Q ds) m := rfl
theorem kZip4_c : kZip4 Q ds es m = Q (zipD ds es) m := rfl
theorem kRg1_c {B z : Int} : kRg1 B Q (.int z) m = ((-B ≤ z ∧ z ≤ B) ∧ Q (rangeD 0 z.toNat) m) := kExI (P := fun z => (-B ≤ z ∧ z ≤ B) ∧ Q (rangeD 0 z.toNat) m)
theorem kRg2_c {B : Int} : kRg2 B sb sl F Q d m = sb ⟨sl, m, F⟩ (kRg2b B Q d) := rfl
theorem kRg2b_c {B p q : Int} : kRg2b B Q (.int p) (.int q) m = ((-B ≤ p ∧ p ≤ B) ∧ (-B ≤ q ∧ q ≤ B) ∧ Q (rangeD p (q - p).toNat) m) := propext ⟨fun ⟨_, _, e, f, h⟩ => by cases e; cases f; exact h, fun h => ⟨_, _, rfl, rfl, h⟩⟩
theorem kRgD_c : kRgD sb sl F Q d m = sb ⟨sl, m, F⟩ (kRgDb Q d) := rfl
theorem kRgDb_c {p q : Int} : kRgDb Q (.int p) (.int q) m = ((-1000000000 ≤ p ∧ p ≤ 1000000000) ∧ (-1000000000 ≤ q ∧ q ≤ 1000000000) ∧ Q ((List.range (p - q).toNat).map fun (k : Nat) => PyData.int (p - (k : Int))) m) := propext ⟨fun ⟨_, _, e, f, h⟩ => by cases e; cases f; exact h, fun h => ⟨_, _, rfl, rfl, h⟩⟩
theorem kCall_c {f : FS} : kCall n f F R ss m = (ss.length = n ∧ f ss m F (kRet R)) := rfl
theorem kCallN_c {f : FS} : kCallN n f F Q ss m = (ss.length = n ∧ f ss m F (kRetN Q)) := rfl
theorem kAc_c : kAc A sl F W d m = A ⟨sl, m, F⟩ (kAc2 (.dat d) W) := rfl
theorem kAc2_c {o : Slot} : kAc2 o W ss m = W (o :: ss) m := rfl
theorem kBag_b : kBag A sl F m W (some .bag) = A ⟨sl, m, F⟩ (kAc2 .bag W) := rfl
theorem kComp_c {vs : List Nat} : kComp vs G st sa sl Q ds m = (lenOk ds.length ∧ compL G st sa ⟨setUn vs (sl.map Slot.inner), m, fun _ => False⟩ ds m Q) := rfl
theorem kRev_c {xs : List D} : kRev Q (.list xs) m = Q xs.reverse m := propext ⟨fun ⟨_, e, h⟩ => by cases e; exact h, fun h => ⟨_, rfl, h⟩⟩
theorem kGc_c {ρ : DEnv} : kGc gs ds P ρ = gs ds ρ P := rfl
theorem kFl_c : kFl G s De ds ⟨sl, m, F⟩ = s { nx := forL G s De ds, rt := De.rt, bk := De.nx, ct := forL G s De ds } ⟨sl, m, F⟩ := rfl
theorem forL_c {ρ : DEnv} : forL G s De (d :: ds) ρ = G d ρ (kFl G s De ds) := rfl
theorem compT_c {K : D → Nat → Prop} {N : Nat → Prop} {m0 : Nat} {e : SE} : compT G st e ⟨sl, m0, F⟩ d m K N = G d ⟨sl, m, F⟩ (kCt st e K N) := rfl
theorem kCt_c {K : D → Nat → Prop} {N : Nat → Prop} {e : SE} : kCt st e K N ⟨sl, m, F⟩ = st ⟨sl, m, F⟩ (kCt2 e K N sl F) := rfl
theorem kCt2_t {K : D → Nat → Prop} {N : Nat → Prop} {e : SE} : kCt2 e K N sl F true m = e ⟨sl, m, F⟩ K := if_pos rfl
theorem kCt2_f {K : D → Nat → Prop} {N : Nat → Prop} {e : SE} : kCt2 e K N sl F false m = N m := if_neg Bool.false_ne_true
theorem fnS_c {N n : Nat} {body : SS} : fnS N n body ss m F V = body { nx := kNx V, rt := V, bk := fun _ => False, ct := fun _ => False } ⟨ss ++ List.replicate (N - n) .un, m, F⟩ := rfl
theorem ssSeq_c : ssSeq s t De ⟨sl, m, F⟩ = s { nx := hold t De, rt := De.rt, bk := De.bk, ct := De.ct } ⟨sl, m, F⟩ := rfl
theorem ssRet_c : ssRet sa De ⟨sl, m, F⟩ = sa ⟨sl, m, F⟩ (kRt De.rt) := rfl
theorem ssRetF_c : ssRetF sd De ⟨sl, m, F⟩ = sd ⟨sl, m, F⟩ (kRtN De.rt) := rfl
theorem ssRetOwn_c : ssRetOwn i De ⟨sl, m, F⟩ = kRtO De.rt m sl[i]? := by
  show (match sl[i]? with | some (.own ds) => De.rt (.new ds) m | _ => False) = _
  cases sl[i]? with
  | none => rfl
  | some x => cases x <;> rfl
theorem ssRetN_c : ssRetN De ⟨sl, m, F⟩ = De.rt (.dat .none) m := rfl
theorem ssAsg_c : ssAsg sa G De ⟨sl, m, F⟩ = sa ⟨sl, m, F⟩ (kAsg G De sl F) := rfl
theorem ssAsgF_c : ssAsgF sd i De ⟨sl, m, F⟩ = sd ⟨sl, m, F⟩ (kAsgF i De sl F) := rfl
theorem ssPar_c : ssPar sd i j De ⟨sl, m, F⟩ = sd ⟨sl, m, F⟩ (kPar i j De sl F) := rfl
theorem ssParF_c : ssParF sd sa i j De ⟨sl, m, F⟩ = sd ⟨sl, m, F⟩ (kParF sa i j De sl F) := rfl
theorem ssIf_c : ssIf st s u De ⟨sl, m, F⟩ = st ⟨sl, m, F⟩ (kIf s u De sl F) := rfl
theorem ssExpr_c : ssExpr sa De ⟨sl, m, F⟩ = sa ⟨sl, m, F⟩ (kExp De sl F) := rfl
theorem ssNil_c : ssNil De ⟨sl, m, F⟩ = De.nx ⟨sl, m, F⟩ := rfl
theorem ssPass_c : ssPass De ⟨sl, m, F⟩ = De.nx ⟨sl, m, F⟩ := rfl
theorem ssBreak_c : ssBreak De ⟨sl, m, F⟩ = De.bk ⟨sl, m, F⟩ := rfl
theorem ssCont_c : ssCont De ⟨sl, m, F⟩ = De.ct ⟨sl, m, F⟩ := rfl
theorem ssFor_c : ssFor sd G s De ⟨sl, m, F⟩ = sd ⟨sl, m, F⟩ (kFor G s De sl F) := rfl
theorem ssFreeze_c : ssFreeze i s De ⟨sl, m, F⟩ = s De ⟨freezeSl i sl, m, F⟩ := rfl
theorem ssOwnM_c {f : List D → List D → Option (List D)} : ssOwnM i f sd De ⟨sl, m, F⟩ = kOm i f sd De sl F m sl[i]? := by
  show (match sl[i]? with | some (.own ds) => _ | _ => False) = _
  cases sl[i]? with
  | none => rfl
  | some x => cases x <;> rfl
theorem sVar_c : sVar i ⟨sl, m, F⟩ R = kSlot R m sl[i]? := by
  show (match sl[i]? with | some (.dat d) => R d m | _ => False) = _
  cases sl[i]? with
  | none => rfl
  | some x => cases x <;> rfl
theorem sC_c : sC d ⟨sl, m, F⟩ R = R d m := rfl
theorem sBin_c : sBin g sa sb ⟨sl, m, F⟩ R = sa ⟨sl, m, F⟩ (kBin g sb sl F R) := rfl
theorem sUn_c {f : D → Option D} : sUn f sa ⟨sl, m, F⟩ R = sa ⟨sl, m, F⟩ (kUn f R) := rfl
theorem sTest_c : sTest sa ⟨sl, m, F⟩ T = sa ⟨sl, m, F⟩ (kTest T) := rfl
theorem sNotT_c : sNotT st ⟨sl, m, F⟩ T = st ⟨sl, m, F⟩ (kNotT T) := rfl
theorem sAndT_c : sAndT st st' ⟨sl, m, F⟩ T = st ⟨sl, m, F⟩ (kAndT st' sl F T) := rfl
theorem sOrT_c : sOrT st st' ⟨sl, m, F⟩ T = st ⟨sl, m, F⟩ (kOrT st' sl F T) := rfl
theorem sBorT_c : sBorT i st ⟨sl, m, F⟩ T = st ⟨freezeSl i sl, m, F⟩ T := rfl
theorem sAndV_c : sAndV sa sb ⟨sl, m, F⟩ R = sa ⟨sl, m, F⟩ (kAnd sb sl F R) := rfl
theorem sOrV_c : sOrV sa sb ⟨sl, m, F⟩ R = sa ⟨sl, m, F⟩ (kOr sb sl F R) := rfl
theorem sNotV_c : sNotV sa ⟨sl, m, F⟩ R = sa ⟨sl, m, F⟩ (kNot R) := rfl
theorem sIf_c : sIf st sa sb ⟨sl, m, F⟩ R = st ⟨sl, m, F⟩ (kIfV sa sb sl F R) := rfl
theorem sChain_c : sChain g g' sa sb sc ⟨sl, m, F⟩ R = sa ⟨sl, m, F⟩ (kCh1 g g' sb sc sl F R) :=
  congrArg (sa ⟨sl, m, F⟩) (funext fun x => funext fun m1 => congrArg (sb ⟨sl, m1, F⟩) (funext fun y => funext fun m2 => propext ⟨fun ⟨k, h1, h2⟩ => ⟨_, h1, k, rfl, h2⟩, fun ⟨_, h1, k, e, h2⟩ => ⟨k, by rw [h1, e], h2⟩⟩))
theorem stYes_c : stYes ⟨sl, m, F⟩ T = T true m := rfl
theorem sdNil_c : sdNil ⟨sl, m, F⟩ Q = Q [] m := rfl
theorem sdCons_c : sdCons sa sd ⟨sl, m, F⟩ Q = sa ⟨sl, m, F⟩ (kDc sd sl F Q) := rfl
theorem sLst_c : sLst sd ⟨sl, m, F⟩ R = sd ⟨sl, m, F⟩ (kLst R) := rfl
theorem sLen_c : sLen sd ⟨sl, m, F⟩ Q = sd ⟨sl, m, F⟩ (kLen Q) := rfl
theorem sTup_c : sTup sd ⟨sl, m, F⟩ R = sd ⟨sl, m, F⟩ (kTup R) := rfl
theorem sCallB_c {f : List D → Option D} : sCallB f sd ⟨sl, m, F⟩ R = sd ⟨sl, m, F⟩ (kCB f R) := rfl
theorem sCallL_c {f : List D → Option (List D)} : sCallL f sd ⟨sl, m, F⟩ Q = sd ⟨sl, m, F⟩ (kCB f Q) := rfl
theorem sIsa_c {f : D → Bool} : sIsa f sa ⟨sl, m, F⟩ R = sa ⟨sl, m, F⟩ (kIsa f R) := rfl
theorem sSlice_c {lo hi : SO} : sSlice sa lo hi ⟨sl, m, F⟩ R = sa ⟨sl, m, F⟩ (kSl1 lo hi sl F R) := rfl
theorem soNone_c {O : Option Int → Nat → Prop} : soNone ⟨sl, m, F⟩ O = O none m := rfl
theorem soSome_c {O : Option Int → Nat → Prop} : soSome sa ⟨sl, m, F⟩ O = sa ⟨sl, m, F⟩ (kSome O) := rfl
theorem sgName_c : sgName i d ⟨sl, m, F⟩ P = P ⟨sl.set i (.dat d), m, F⟩ := rfl
theorem sgOwn_c : sgOwn i sa d ⟨sl, m, F⟩ P = kSo i sa d sl F m P sl[i]? := by
  show (match sl[i]? with | some (.own ds) => sa ⟨sl, m, F⟩ fun k m' => ∃ z j, k = PyData.int z ∧ ixN ds.length z = some j ∧ P ⟨sl.set i (.own (ds.set j d)), m', F⟩ | _ => False) = _
  cases sl[i]? with
  | none => rfl
  | some x =>
    cases x <;> try rfl
    exact congrArg (sa ⟨sl, m, F⟩) (funext fun k => funext fun m' => propext ⟨fun ⟨z, j, h1, h2⟩ => ⟨z, h1, j, h2⟩, fun ⟨z, h1, j, h2⟩ => ⟨z, j, h1, h2⟩⟩)
theorem sOwnIx_c : sOwnIx i sb ⟨sl, m, F⟩ R = kOi sb sl F m R sl[i]? := by
  show (match sl[i]? with | some (.own ds) => sb ⟨sl, m, F⟩ fun y m => ∃ k z, y = PyData.int k ∧ atI ds k = some z ∧ R z m | _ => False) = _
  cases sl[i]? with
  | none => rfl
  | some x =>
    cases x <;> try rfl
    exact congrArg (sb ⟨sl, m, F⟩) (funext fun k => funext fun m' => propext ⟨fun ⟨z, j, h1, h2⟩ => ⟨z, h1, j, h2⟩, fun ⟨z, h1, j, h2⟩ => ⟨z, j, h1, h2⟩⟩)
theorem siSeq_c : siSeq sa ⟨sl, m, F⟩ Q = sa ⟨sl, m, F⟩ (kSeq Q) := rfl
theorem siEnum_c : siEnum sa ⟨sl, m, F⟩ Q = sa ⟨sl, m, F⟩ (kEnum Q) := rfl
theorem siZip_c : siZip sa sb ⟨sl, m, F⟩ Q = sa ⟨sl, m, F⟩ (kZip sb sl F Q) :=
  congrArg (sa ⟨sl, m, F⟩) (funext fun x => funext fun m1 => congrArg (sb ⟨sl, m1, F⟩) (funext fun y => funext fun m2 => propext ⟨fun ⟨i, j, h1, h2, h3⟩ => ⟨i, h1, j, h2, h3⟩, fun ⟨i, h1, j, h2, h3⟩ => ⟨i, j, h1, h2, h3⟩⟩))
theorem siRange1_c : siRange1 sa ⟨sl, m, F⟩ Q = sa ⟨sl, m, F⟩ (kRg1 1000000000 Q) := rfl
theorem siRange2_c : siRange2 sa sb ⟨sl, m, F⟩ Q = sa ⟨sl, m, F⟩ (kRg2 1000000000 sb sl F Q) := rfl
theorem siRangeD_c : siRangeD sa sb ⟨sl, m, F⟩ Q = sa ⟨sl, m, F⟩ (kRgD sb sl F Q) := rfl
theorem slR1_c : slR1 sa ⟨sl, m, F⟩ Q = sa ⟨sl, m, F⟩ (kRg1 8000000 Q) := rfl
theorem slR2_c : slR2 sa sb ⟨sl, m, F⟩ Q = sa ⟨sl, m, F⟩ (kRg2 8000000 sb sl F Q) := rfl
theorem sCall_c {f : FS} : sCall f n A ⟨sl, m, F⟩ R = A ⟨sl, m, F⟩ (kCall n f F R) := rfl
theorem sCallN_c {f : FS} : sCallN f n A ⟨sl, m, F⟩ Q = A ⟨sl, m, F⟩ (kCallN n f F Q) := rfl
theorem saNil_c : saNil ⟨sl, m, F⟩ W = W [] m := rfl
theorem saCons_c : saCons sa A ⟨sl, m, F⟩ W = sa ⟨sl, m, F⟩ (kAc A sl F W) := rfl
theorem saBag_c : saBag i A ⟨sl, m, F⟩ W = kBag A sl F m W sl[i]? := by
  show (match sl[i]? with | some .bag => A ⟨sl, m, F⟩ fun ss m => W (.bag :: ss) m | _ => False) = _
  cases sl[i]? with
  | none => rfl
  | some x => cases x <;> rfl
theorem sComp_c {vs : List Nat} : sComp sd vs G st sa ⟨sl, m, F⟩ Q = sd ⟨sl, m, F⟩ (kComp vs G st sa sl Q) := rfl
theorem sRevL_c : sRevL sa ⟨sl, m, F⟩ Q = sa ⟨sl, m, F⟩ (kRev Q) := rfl
theorem sgCons_c {g : SG} {gs : SGs} {d : D} {ds : List D} {ρ : DEnv} {R : DEnv → Prop} : sgCons g gs (d :: ds) ρ R = g d ρ (kGc gs ds R) := propext ⟨fun ⟨_, _, e, h⟩ => by cases e; exact h, fun h => ⟨_, _, rfl, h⟩⟩
theorem decT {p : Prop} [Decidable p] (h : p) : decide p = true := decide_eq_true h
theorem decF {p : Prop} [Decidable p] (h : ¬ p) : decide p = false := decide_eq_false h
end
/-! encodings -/
def tI (xs : List Int) : D := .tuple (xs.map .int)
def lI (xs : List Int) : D := .list (xs.map .int)
def pI (p : Int × Int) : D := .tuple [.int p.1, .int p.2]
theorem sumB_t {xs : List Int} : sumB [.tuple (xs.map .int)] = some (.int xs.sum) := by
  show (intsOf _).map _ = _
  rw [intsOf_map]
  rfl
theorem sumB_l {xs : List Int} : sumB [.list (xs.map .int)] = some (.int xs.sum) := by
  show (intsOf _).map _ = _
  rw [intsOf_map]
  rfl
theorem allB_l {bs : List Bool} : allB [.list (bs.map .bool)] = some (.bool (bs.all id)) := by
  show (boolsOf _).map _ = _
  rw [boolsOf_map]
  rfl
theorem foldB_t {f : Int → Int → Int} {x : Int} {xs : List Int} : foldB f [.tuple ((x :: xs).map .int)] = some (.int (xs.foldl f x)) := by
  have : (itemsD (.tuple ((x :: xs).map .int))).bind intsOf = some (x :: xs) := intsOf_map _
  simp only [foldB, this]
theorem foldB_l {f : Int → Int → Int} {x : Int} {xs : List Int} : foldB f [.list ((x :: xs).map .int)] = some (.int (xs.foldl f x)) := by
  have : (itemsD (.list ((x :: xs).map .int))).bind intsOf = some (x :: xs) := intsOf_map _
  simp only [foldB, this]
/-! places in a list -/
theorem ixN_pos {n : Nat} {i : Int} (h : 0 ≤ i ∧ i < n) : ixN n i = some i.toNat := by
  unfold ixN
  rw [if_pos h.1, if_pos h.2]
theorem atI_pos {α : Type} {xs : List α} {i : Int} (d : α) (h : 0 ≤ i ∧ i < xs.length) : atI xs i = some (xs.getD i.toNat d) := by
  have hl : i.toNat < xs.length := by omega
  unfold atI
  rw [ixN_pos h, Option.bind_some, List.getD_eq_getElem?_getD, List.getElem?_eq_getElem hl]
  rfl
theorem getD_map {α β : Type} (f : α → β) (xs : List α) (i : Nat) (d : α) : (xs.map f).getD i (f d) = f (xs.getD i d) := by
  rw [List.getD_eq_getElem?_getD, List.getD_eq_getElem?_getD, List.getElem?_map]
  cases xs[i]? <;> rfl
theorem ixD_t {xs : List Int} {i : Int} (h : 0 ≤ i ∧ i < xs.length) : ixD (.tuple (xs.map .int)) (.int i) = some (.int (xs.getD i.toNat 0)) := by
  show atI _ _ = _
  rw [atI_pos (.int 0) (by rw [List.length_map]; exact h), getD_map]
theorem ixD_l {xs : List Int} {i : Int} (h : 0 ≤ i ∧ i < xs.length) : ixD (.list (xs.map .int)) (.int i) = some (.int (xs.getD i.toNat 0)) := by
  show atI _ _ = _
  rw [atI_pos (.int 0) (by rw [List.length_map]; exact h), getD_map]
theorem atI_int {xs : List Int} {i : Int} (h : 0 ≤ i ∧ i < xs.length) : atI (xs.map PyData.int) i = some (.int (xs.getD i.toNat 0)) := by
  rw [atI_pos (.int 0) (by rw [List.length_map]; exact h), getD_map]
theorem ixN_len {α : Type} {xs : List α} {i : Int} (h : 0 ≤ i ∧ i < xs.length) : ixN xs.length i = some i.toNat := ixN_pos h
theorem ixN_map {α β : Type} {f : α → β} {xs : List α} {i : Int} (h : 0 ≤ i ∧ i < xs.length) : ixN (xs.map f).length i = some i.toNat := by
  rw [List.length_map]
  exact ixN_pos h
/-- a row of rows -/
theorem ixD_tt {xs : List (List Int)} {i : Int} (h : 0 ≤ i ∧ i < xs.length) : ixD (.tuple (xs.map tI)) (.int i) = some (tI (xs.getD i.toNat [])) := by
  show atI _ _ = _
  rw [atI_pos (tI []) (by rw [List.length_map]; exact h), getD_map]
theorem cut_to {α : Type} {xs : List α} {i : Int} (h : 0 ≤ i) : cutD xs none (some i) = xs.take i.toNat := by
  obtain ⟨k, rfl⟩ : ∃ k : Nat, i = k := ⟨i.toNat, by omega⟩
  unfold DL.cutD
  rw [HT.sIx_nat, HT.sIx_none, List.drop_zero, Nat.sub_zero, Int.toNat_natCast]
  by_cases e : k ≤ xs.length
  · rw [Nat.min_eq_left e]
  · rw [Nat.min_eq_right (by omega), List.take_of_length_le (Nat.le_refl _), List.take_of_length_le (by omega)]
theorem cut_from {α : Type} {xs : List α} {i : Int} (h : 0 ≤ i) : cutD xs (some i) none = xs.drop i.toNat := by
  obtain ⟨k, rfl⟩ : ∃ k : Nat, i = k := ⟨i.toNat, by omega⟩
  unfold DL.cutD
  rw [HT.sIx_nat, HT.sIx_none, Int.toNat_natCast]
  by_cases e : k ≤ xs.length
  · rw [Nat.min_eq_left e, List.take_of_length_le (by rw [List.length_drop]; omega)]
  · rw [Nat.min_eq_right (by omega), List.drop_eq_nil_of_le (Nat.le_refl _), List.drop_eq_nil_of_le (by omega), List.take_nil]
theorem slice_tt {xs : List D} {i : Int} (h : 0 ≤ i) : sliceD (.tuple xs) none (some i) = some (.tuple (xs.take i.toNat)) := by
  show some (PyData.tuple (cutD _ _ _)) = _
  rw [cut_to h]
theorem slice_tf {xs : List D} {i : Int} (h : 0 ≤ i) : sliceD (.tuple xs) (some i) none = some (.tuple (xs.drop i.toNat)) := by
  show some (PyData.tuple (cutD _ _ _)) = _
  rw [cut_from h]
theorem slice_lt {xs : List D} {i : Int} (h : 0 ≤ i) : sliceD (.list xs) none (some i) = some (.list (xs.take i.toNat)) := by
  show some (PyData.list (cutD _ _ _)) = _
  rw [cut_to h]
theorem slice_lf {xs : List D} {i : Int} (h : 0 ≤ i) : sliceD (.list xs) (some i) none = some (.list (xs.drop i.toNat)) := by
  show some (PyData.list (cutD _ _ _)) = _
  rw [cut_from h]
/-! turns of comprehensions and loops -/
theorem compL_cons {g : SG} {t : ST} {e : SE} {ρ0 : DEnv} {d : D} {ds : List D} {m : Nat} {R : List D → Nat → Prop} (h : compT g t e ρ0 d m (fun y m3 => compL g t e ρ0 ds m3 fun ys m' => R (y :: ys) m') fun m2 => compL g t e ρ0 ds m2 R) : compL g t e ρ0 (d :: ds) m R := h
theorem compL_filter {α : Type} {g : SG} {t : ST} {e : SE} {ρ0 : DEnv} {m : Nat} (enc : α → D) (p : α → Bool) (f : α → D) : ∀ (xs : List α) (R : List D → Nat → Prop),
    (∀ x ∈ xs, ∀ (K : D → Nat → Prop) (N : Nat → Prop), (p x = true → K (f x) m) → (p x = false → N m) → compT g t e ρ0 (enc x) m K N) → R ((xs.filter p).map f) m → compL g t e ρ0 (xs.map enc) m R
  | [], R, _, h => h
  | x :: xs, R, hT, h => compL_cons (d := enc x) (ds := xs.map enc) (hT x (List.mem_cons_self ..) _ _ (fun hp => compL_filter enc p f xs _ (fun y hy => hT y (List.mem_cons_of_mem _ hy)) (by
      rw [List.filter_cons_of_pos hp] at h
      exact h)) fun hp => compL_filter enc p f xs _ (fun y hy => hT y (List.mem_cons_of_mem _ hy)) (by
      rw [List.filter_cons_of_neg (by rw [hp]; decide)] at h
      exact h))
theorem compL_map {α : Type} {g : SG} {t : ST} {e : SE} {ρ0 : DEnv} {m : Nat} (enc : α → D) (f : α → D) (xs : List α) (R : List D → Nat → Prop)
    (hT : ∀ x ∈ xs, ∀ (K : D → Nat → Prop) (N : Nat → Prop), K (f x) m → compT g t e ρ0 (enc x) m K N) (h : R (xs.map f) m) : compL g t e ρ0 (xs.map enc) m R :=
  compL_filter enc (fun _ => true) f xs R (fun x hx K N h1 _ => hT x hx K N (h1 rfl)) (by rw [List.filter_eq_self.mpr (fun _ _ => rfl)]; exact h)
/-- a comprehension whose items draw -/
theorem compL_draw {α : Type} {g : SG} {t : ST} {e : SE} {ρ0 : DEnv} (enc : α → D) (P : D → Prop) (c M : Nat) : ∀ (xs : List α) (m : Nat) (R : List D → Nat → Prop),
    (∀ x ∈ xs, ∀ (m : Nat) (K : D → Nat → Prop) (N : Nat → Prop), m + c ≤ M → (∀ y m', P y → m ≤ m' → m' ≤ m + c → K y m') → compT g t e ρ0 (enc x) m K N) → m + c * xs.length ≤ M →
    (∀ ys m', ys.length = xs.length → (∀ y ∈ ys, P y) → m ≤ m' → m' ≤ m + c * xs.length → R ys m') → compL g t e ρ0 (xs.map enc) m R
  | [], m, R, _, _, h => h [] m rfl (fun _ hy => nomatch hy) (Nat.le_refl _) (Nat.le_add_right _ _)
  | x :: xs, m, R, hT, hM, h => by
    rw [List.length_cons, Nat.mul_succ] at hM
    refine compL_cons (d := enc x) (ds := xs.map enc) (hT x (List.mem_cons_self ..) m _ _ (by omega) fun y m1 hy h1 h2 => compL_draw enc P c M xs m1 _ (fun y hy => hT y (List.mem_cons_of_mem _ hy)) (by omega) fun ys m' hl hp h3 h4 => ?_)
    refine h (y :: ys) m' (by rw [List.length_cons, hl, List.length_cons]) (fun z hz => ?_) (by omega) (by rw [List.length_cons, Nat.mul_succ]; omega)
    rcases List.mem_cons.mp hz with e | e
    · rw [e]; exact hy
    · exact hp z e
theorem range_enc (lo : Int) (n : Nat) : rangeD lo n = ((List.range n).map fun (i : Nat) => lo + (i : Int)).map PyData.int := by
  unfold rangeD
  rw [List.map_map]
  rfl
theorem enumD_enc {α : Type} (f : α → D) : ∀ (xs : List α) (i : Nat), enumD i (xs.map f) = (xs.zipIdx i).map fun p => .tuple [.int (p.2 : Int), f p.1]
  | [], _ => rfl
  | x :: xs, i => by
    show .tuple [.int (i : Int), f x] :: enumD (i + 1) (xs.map f) = _
    rw [enumD_enc f xs (i + 1)]
    rfl
theorem zipD_enc {α β : Type} (f : α → D) (g : β → D) : ∀ (xs : List α) (ys : List β), zipD (xs.map f) (ys.map g) = (xs.zip ys).map fun p => .tuple [f p.1, g p.2]
  | [], _ => by simp [zipD]
  | _ :: _, [] => by simp [zipD]
  | x :: xs, y :: ys => by
    have := zipD_enc f g xs ys
    unfold zipD at this ⊢
    simp [this]
end PT
set_option maxHeartbeats 1000000
namespace PT
open PySem PySem.Spec PyProof.Rows L2 DL
/-! sorting; specs of the small defs -/
def leP (p q : Int × Int) : Bool := decide (p.1 < q.1 ∨ p.1 = q.1 ∧ p.2 ≤ q.2)
def leI (a b : Int) : Bool := decide (a ≤ b)
def sortI (xs : List Int) : List Int := xs.mergeSort leI
def sortP (xs : List (Int × Int)) : List (Int × Int) := xs.mergeSort leP
theorem sort_enc {α : Type} {enc : α → D} {le : α → α → Bool} (h : (PySem.W.dataLe false fun b => enc b) = le) (xs : List α) : (xs.map enc).mergeSort (PySem.W.dataLe false fun d : D => d) = (xs.mergeSort le).map enc := by
  subst h
  exact (PySem.W.sort_maps (s := PySem.W.dataLe false fun d : D => d) enc fun a _ b _ => rfl).symm
theorem sortOk_I (xs : List Int) : SortOk (xs.map .int) := by
  refine ⟨fun d h d' h' => ?_, .inr fun d h => ?_, fun d h => ?_⟩
  · obtain ⟨a, _, rfl⟩ := List.mem_map.mp h
    obtain ⟨b, _, rfl⟩ := List.mem_map.mp h'
    rfl
  · obtain ⟨a, _, rfl⟩ := List.mem_map.mp h
    exact ⟨nofun, nofun⟩
  · obtain ⟨a, _, rfl⟩ := List.mem_map.mp h
    exact Nat.zero_le _
theorem sortOk_P (xs : List (Int × Int)) : SortOk (xs.map pI) := by
  refine ⟨fun d h d' h' => ?_, .inl fun d h => ?_, fun d h => ?_⟩
  · obtain ⟨a, _, rfl⟩ := List.mem_map.mp h
    obtain ⟨b, _, rfl⟩ := List.mem_map.mp h'
    rfl
  · obtain ⟨a, _, rfl⟩ := List.mem_map.mp h
    exact ⟨_, _, rfl⟩
  · obtain ⟨a, _, rfl⟩ := List.mem_map.mp h
    exact (by decide : (1 : Nat) ≤ 100)
open Classical in
theorem sortB_of {d : D} {xs : List D} (h : itemsD d = some xs) (ok : SortOk xs) : sortB [d] = some (xs.mergeSort (PySem.W.dataLe false fun d : D => d)) := by
  unfold sortB
  simp only [h]
  rw [if_pos ok]
theorem sortB_lI (xs : List Int) : sortB [.list (xs.map .int)] = some ((sortI xs).map .int) := by
  rw [sortB_of rfl (sortOk_I xs), sort_enc (enc := PyData.int) (PySem.W.dataLe_int fun b => b)]
  rfl
theorem sortB_tI (xs : List Int) : sortB [.tuple (xs.map .int)] = some ((sortI xs).map .int) := by
  rw [sortB_of rfl (sortOk_I xs), sort_enc (enc := PyData.int) (PySem.W.dataLe_int fun b => b)]
  rfl
theorem sortB_lP (xs : List (Int × Int)) : sortB [.list (xs.map pI)] = some ((sortP xs).map pI) := by
  rw [sortB_of rfl (sortOk_P xs), sort_enc (enc := pI) (PySem.W.dataLe_ii (fun b : Int × Int => b.1) fun b => b.2)]
  rfl
theorem sortI_perm (xs : List Int) : (sortI xs).Perm xs := List.mergeSort_perm xs leI
theorem sortP_perm (xs : List (Int × Int)) : (sortP xs).Perm xs := List.mergeSort_perm xs leP
theorem sortI_sorted (xs : List Int) : (sortI xs).Pairwise (· ≤ ·) := by
  have h := List.pairwise_mergeSort (le := leI) (fun a b c h1 h2 => by simp [leI] at *; omega) (fun a b => by simp [leI]; omega) xs
  exact h.imp fun h => by simpa [leI] using h
theorem sortP_sorted (xs : List (Int × Int)) : (sortP xs).Pairwise fun p q => p.1 < q.1 ∨ p.1 = q.1 ∧ p.2 ≤ q.2 := by
  have h := List.pairwise_mergeSort (le := leP) (fun a b c h1 h2 => by simp [leP] at *; omega) (fun a b => by simp [leP]; omega) xs
  exact h.imp fun h => by simpa [leP] using h
end PT
set_option maxHeartbeats 1000000
namespace PT
open PySem PySem.Spec PyProof.Rows L2 DL
/-! specs of the small defs -/
theorem sp_is_integer {v : D} {m F R} (h : R (.dat (.bool (v.isInt && !v.isBool))) m) : m_is_integer [.dat v] m F R := by
  cases v <;> simp -implicitDefEqProofs (disch := ((try simp only [List.length_map, List.length_append, List.length_cons, List.length_nil, List.length_take, List.length_drop, List.length_set, List.length_replicate, List.length_range, List.length_zipIdx, List.length_zip]); omega)) only [kVal_s, hold_c, kNx_c, kRt_c, kRtN_c, kAsg_c, kAsgF_c, kPar_c, kParF_c, kParF2_c, kExp_c, kFor_c, kIf_t, kIf_f, kIfV_t, kIfV_f, kOrT_t, kOrT_f, kAndT_t, kAndT_f, kNotT_c, kAnd_t, kAnd_f, kOr_t, kOr_f, kNot_b, kTest_b, kBin_c, kBin2_c, kUn_c, kChain_t, kChain_f, kCh1_c, kCh2_c, kRet_d, kRet_n, kRetN_n, kSome_i, kSlot_d, kDc_c, kDc2_c, kLst_c, kLen_c, kTup_c, kCB_c, kIsa_c, kSl1_c, kSl2_c, kSl3_c, kRtO_c, kOm_c, kOm2_c, kOm3_c, kSo_c, kSo2_c, kSo3_c, kOi_c, kOi2_c, kSeq_c, kEnum_c, kEnum2_c, kZip_c, kZip2_c, kZip3_c, kZip4_c, kRg1_c, kRg2_c, kRg2b_c, kRgD_c, kRgDb_c, kCall_c, kCallN_c, kAc_c, kAc2_c, kBag_b, kComp_c, kRev_c, kGc_c, kFl_c, compT_c, kCt_c, kCt2_t, kCt2_f, fnS_c, ssSeq_c, ssRet_c, ssRetF_c, ssRetOwn_c, ssRetN_c, ssAsg_c, ssAsgF_c, ssPar_c, ssParF_c, ssIf_c, ssExpr_c, ssNil_c, ssPass_c, ssBreak_c, ssCont_c, ssFor_c, ssFreeze_c, ssOwnM_c, sVar_c, sC_c, sBin_c, sUn_c, sTest_c, sNotT_c, sAndT_c, sOrT_c, sBorT_c, sAndV_c, sOrV_c, sNotV_c, sIf_c, sChain_c, stYes_c, sdNil_c, sdCons_c, sLst_c, sLen_c, sTup_c, sCallB_c, sCallL_c, sIsa_c, sSlice_c, soNone_c, soSome_c, sgName_c, sgOwn_c, sOwnIx_c, siSeq_c, siEnum_c, siZip_c, siRange1_c, siRange2_c, siRangeD_c, slR1_c, slR2_c, sCall_c, sCallN_c, saNil_c, saCons_c, saBag_c, sComp_c, sRevL_c, sgTup_t, sgCons_c, sgNil_n, freezeSl, setUn, Slot.inner, List.map_cons, List.map_nil, List.replicate, List.cons_append, List.nil_append, List.append_nil, List.getElem?_cons_zero, List.getElem?_cons_succ, List.set_cons_zero, List.set_cons_succ, List.length_cons, List.length_nil, and_assoc, Option.some.injEq, PyData.list.injEq, PyData.tuple.injEq, toL_n, Nat.sub_self, Nat.zero_add, Nat.reduceAdd, Nat.reduceSub, true_and, and_true, addD_ii, subD_ii, ltD_ii, leD_ii, gtD_ii, geD_ii, negD_i, mulD_i, fdivD_i, modD_i, itemsD_l, itemsD_t, tupleB_l, tupleB_t, listB_l, listB_t, lenB_l, lenB_t, intB_i, intB_b, fold2_i, appendM_1, ixN_len, reduceCtorEq, reduceIte, Bool.and_self, Bool.true_and, Bool.false_and, Bool.and_true, Bool.and_false, Bool.not_true, Bool.not_false, PyData.isTuple, PyData.isInt, PyData.isBool, PyData.isList, PyData.isStr, isBLT, m_is_integer, b_is_integer] <;> exact h
def inR (v : D) (i j : Int) : Bool := match v with
  | .int k => decide (i ≤ k) && decide (k ≤ j)
  | _ => false
theorem sp_in_range {v : D} {i j : Int} {m F R} (h : R (.dat (.bool (inR v i j))) m) : m_in_range [.dat v, .dat (.int i), .dat (.int j)] m F R := by
  simp -implicitDefEqProofs (disch := ((try simp only [List.length_map, List.length_append, List.length_cons, List.length_nil, List.length_take, List.length_drop, List.length_set, List.length_replicate, List.length_range, List.length_zipIdx, List.length_zip]); omega)) only [kVal_s, hold_c, kNx_c, kRt_c, kRtN_c, kAsg_c, kAsgF_c, kPar_c, kParF_c, kParF2_c, kExp_c, kFor_c, kIf_t, kIf_f, kIfV_t, kIfV_f, kOrT_t, kOrT_f, kAndT_t, kAndT_f, kNotT_c, kAnd_t, kAnd_f, kOr_t, kOr_f, kNot_b, kTest_b, kBin_c, kBin2_c, kUn_c, kChain_t, kChain_f, kCh1_c, kCh2_c, kRet_d, kRet_n, kRetN_n, kSome_i, kSlot_d, kDc_c, kDc2_c, kLst_c, kLen_c, kTup_c, kCB_c, kIsa_c, kSl1_c, kSl2_c, kSl3_c, kRtO_c, kOm_c, kOm2_c, kOm3_c, kSo_c, kSo2_c, kSo3_c, kOi_c, kOi2_c, kSeq_c, kEnum_c, kEnum2_c, kZip_c, kZip2_c, kZip3_c, kZip4_c, kRg1_c, kRg2_c, kRg2b_c, kRgD_c, kRgDb_c, kCall_c, kCallN_c, kAc_c, kAc2_c, kBag_b, kComp_c, kRev_c, kGc_c, kFl_c, compT_c, kCt_c, kCt2_t, kCt2_f, fnS_c, ssSeq_c, ssRet_c, ssRetF_c, ssRetOwn_c, ssRetN_c, ssAsg_c, ssAsgF_c, ssPar_c, ssParF_c, ssIf_c, ssExpr_c, ssNil_c, ssPass_c, ssBreak_c, ssCont_c, ssFor_c, ssFreeze_c, ssOwnM_c, sVar_c, sC_c, sBin_c, sUn_c, sTest_c, sNotT_c, sAndT_c, sOrT_c, sBorT_c, sAndV_c, sOrV_c, sNotV_c, sIf_c, sChain_c, stYes_c, sdNil_c, sdCons_c, sLst_c, sLen_c, sTup_c, sCallB_c, sCallL_c, sIsa_c, sSlice_c, soNone_c, soSome_c, sgName_c, sgOwn_c, sOwnIx_c, siSeq_c, siEnum_c, siZip_c, siRange1_c, siRange2_c, siRangeD_c, slR1_c, slR2_c, sCall_c, sCallN_c, saNil_c, saCons_c, saBag_c, sComp_c, sRevL_c, sgTup_t, sgCons_c, sgNil_n, freezeSl, setUn, Slot.inner, List.map_cons, List.map_nil, List.replicate, List.cons_append, List.nil_append, List.append_nil, List.getElem?_cons_zero, List.getElem?_cons_succ, List.set_cons_zero, List.set_cons_succ, List.length_cons, List.length_nil, and_assoc, Option.some.injEq, PyData.list.injEq, PyData.tuple.injEq, toL_n, Nat.sub_self, Nat.zero_add, Nat.reduceAdd, Nat.reduceSub, true_and, and_true, addD_ii, subD_ii, ltD_ii, leD_ii, gtD_ii, geD_ii, negD_i, mulD_i, fdivD_i, modD_i, itemsD_l, itemsD_t, tupleB_l, tupleB_t, listB_l, listB_t, lenB_l, lenB_t, intB_i, intB_b, fold2_i, appendM_1, ixN_len, reduceCtorEq, reduceIte, Bool.and_self, Bool.true_and, Bool.false_and, Bool.and_true, Bool.and_false, Bool.not_true, Bool.not_false, PyData.isTuple, PyData.isInt, PyData.isBool, PyData.isList, PyData.isStr, isBLT, m_in_range, b_in_range]
  apply sp_is_integer
  cases v with
  | int k =>
    simp -implicitDefEqProofs (disch := ((try simp only [List.length_map, List.length_append, List.length_cons, List.length_nil, List.length_take, List.length_drop, List.length_set, List.length_replicate, List.length_range, List.length_zipIdx, List.length_zip]); omega)) only [kVal_s, hold_c, kNx_c, kRt_c, kRtN_c, kAsg_c, kAsgF_c, kPar_c, kParF_c, kParF2_c, kExp_c, kFor_c, kIf_t, kIf_f, kIfV_t, kIfV_f, kOrT_t, kOrT_f, kAndT_t, kAndT_f, kNotT_c, kAnd_t, kAnd_f, kOr_t, kOr_f, kNot_b, kTest_b, kBin_c, kBin2_c, kUn_c, kChain_t, kChain_f, kCh1_c, kCh2_c, kRet_d, kRet_n, kRetN_n, kSome_i, kSlot_d, kDc_c, kDc2_c, kLst_c, kLen_c, kTup_c, kCB_c, kIsa_c, kSl1_c, kSl2_c, kSl3_c, kRtO_c, kOm_c, kOm2_c, kOm3_c, kSo_c, kSo2_c, kSo3_c, kOi_c, kOi2_c, kSeq_c, kEnum_c, kEnum2_c, kZip_c, kZip2_c, kZip3_c, kZip4_c, kRg1_c, kRg2_c, kRg2b_c, kRgD_c, kRgDb_c, kCall_c, kCallN_c, kAc_c, kAc2_c, kBag_b, kComp_c, kRev_c, kGc_c, kFl_c, compT_c, kCt_c, kCt2_t, kCt2_f, fnS_c, ssSeq_c, ssRet_c, ssRetF_c, ssRetOwn_c, ssRetN_c, ssAsg_c, ssAsgF_c, ssPar_c, ssParF_c, ssIf_c, ssExpr_c, ssNil_c, ssPass_c, ssBreak_c, ssCont_c, ssFor_c, ssFreeze_c, ssOwnM_c, sVar_c, sC_c, sBin_c, sUn_c, sTest_c, sNotT_c, sAndT_c, sOrT_c, sBorT_c, sAndV_c, sOrV_c, sNotV_c, sIf_c, sChain_c, stYes_c, sdNil_c, sdCons_c, sLst_c, sLen_c, sTup_c, sCallB_c, sCallL_c, sIsa_c, sSlice_c, soNone_c, soSome_c, sgName_c, sgOwn_c, sOwnIx_c, siSeq_c, siEnum_c, siZip_c, siRange1_c, siRange2_c, siRangeD_c, slR1_c, slR2_c, sCall_c, sCallN_c, saNil_c, saCons_c, saBag_c, sComp_c, sRevL_c, sgTup_t, sgCons_c, sgNil_n, freezeSl, setUn, Slot.inner, List.map_cons, List.map_nil, List.replicate, List.cons_append, List.nil_append, List.append_nil, List.getElem?_cons_zero, List.getElem?_cons_succ, List.set_cons_zero, List.set_cons_succ, List.length_cons, List.length_nil, and_assoc, Option.some.injEq, PyData.list.injEq, PyData.tuple.injEq, toL_n, Nat.sub_self, Nat.zero_add, Nat.reduceAdd, Nat.reduceSub, true_and, and_true, addD_ii, subD_ii, ltD_ii, leD_ii, gtD_ii, geD_ii, negD_i, mulD_i, fdivD_i, modD_i, itemsD_l, itemsD_t, tupleB_l, tupleB_t, listB_l, listB_t, lenB_l, lenB_t, intB_i, intB_b, fold2_i, appendM_1, ixN_len, reduceCtorEq, reduceIte, Bool.and_self, Bool.true_and, Bool.false_and, Bool.and_true, Bool.and_false, Bool.not_true, Bool.not_false, PyData.isTuple, PyData.isInt, PyData.isBool, PyData.isList, PyData.isStr, isBLT]
    simp only [inR] at h
    cases e : decide (i ≤ k) with
    | true =>
      rw [e, Bool.true_and] at h
      simp -implicitDefEqProofs (disch := ((try simp only [List.length_map, List.length_append, List.length_cons, List.length_nil, List.length_take, List.length_drop, List.length_set, List.length_replicate, List.length_range, List.length_zipIdx, List.length_zip]); omega)) only [kVal_s, hold_c, kNx_c, kRt_c, kRtN_c, kAsg_c, kAsgF_c, kPar_c, kParF_c, kParF2_c, kExp_c, kFor_c, kIf_t, kIf_f, kIfV_t, kIfV_f, kOrT_t, kOrT_f, kAndT_t, kAndT_f, kNotT_c, kAnd_t, kAnd_f, kOr_t, kOr_f, kNot_b, kTest_b, kBin_c, kBin2_c, kUn_c, kChain_t, kChain_f, kCh1_c, kCh2_c, kRet_d, kRet_n, kRetN_n, kSome_i, kSlot_d, kDc_c, kDc2_c, kLst_c, kLen_c, kTup_c, kCB_c, kIsa_c, kSl1_c, kSl2_c, kSl3_c, kRtO_c, kOm_c, kOm2_c, kOm3_c, kSo_c, kSo2_c, kSo3_c, kOi_c, kOi2_c, kSeq_c, kEnum_c, kEnum2_c, kZip_c, kZip2_c, kZip3_c, kZip4_c, kRg1_c, kRg2_c, kRg2b_c, kRgD_c, kRgDb_c, kCall_c, kCallN_c, kAc_c, kAc2_c, kBag_b, kComp_c, kRev_c, kGc_c, kFl_c, compT_c, kCt_c, kCt2_t, kCt2_f, fnS_c, ssSeq_c, ssRet_c, ssRetF_c, ssRetOwn_c, ssRetN_c, ssAsg_c, ssAsgF_c, ssPar_c, ssParF_c, ssIf_c, ssExpr_c, ssNil_c, ssPass_c, ssBreak_c, ssCont_c, ssFor_c, ssFreeze_c, ssOwnM_c, sVar_c, sC_c, sBin_c, sUn_c, sTest_c, sNotT_c, sAndT_c, sOrT_c, sBorT_c, sAndV_c, sOrV_c, sNotV_c, sIf_c, sChain_c, stYes_c, sdNil_c, sdCons_c, sLst_c, sLen_c, sTup_c, sCallB_c, sCallL_c, sIsa_c, sSlice_c, soNone_c, soSome_c, sgName_c, sgOwn_c, sOwnIx_c, siSeq_c, siEnum_c, siZip_c, siRange1_c, siRange2_c, siRangeD_c, slR1_c, slR2_c, sCall_c, sCallN_c, saNil_c, saCons_c, saBag_c, sComp_c, sRevL_c, sgTup_t, sgCons_c, sgNil_n, freezeSl, setUn, Slot.inner, List.map_cons, List.map_nil, List.replicate, List.cons_append, List.nil_append, List.append_nil, List.getElem?_cons_zero, List.getElem?_cons_succ, List.set_cons_zero, List.set_cons_succ, List.length_cons, List.length_nil, and_assoc, Option.some.injEq, PyData.list.injEq, PyData.tuple.injEq, toL_n, Nat.sub_self, Nat.zero_add, Nat.reduceAdd, Nat.reduceSub, true_and, and_true, addD_ii, subD_ii, ltD_ii, leD_ii, gtD_ii, geD_ii, negD_i, mulD_i, fdivD_i, modD_i, itemsD_l, itemsD_t, tupleB_l, tupleB_t, listB_l, listB_t, lenB_l, lenB_t, intB_i, intB_b, fold2_i, appendM_1, ixN_len, reduceCtorEq, reduceIte, Bool.and_self, Bool.true_and, Bool.false_and, Bool.and_true, Bool.and_false, Bool.not_true, Bool.not_false, PyData.isTuple, PyData.isInt, PyData.isBool, PyData.isList, PyData.isStr, isBLT]
      exact h
    | false =>
      rw [e] at h
      simp -implicitDefEqProofs (disch := ((try simp only [List.length_map, List.length_append, List.length_cons, List.length_nil, List.length_take, List.length_drop, List.length_set, List.length_replicate, List.length_range, List.length_zipIdx, List.length_zip]); omega)) only [kVal_s, hold_c, kNx_c, kRt_c, kRtN_c, kAsg_c, kAsgF_c, kPar_c, kParF_c, kParF2_c, kExp_c, kFor_c, kIf_t, kIf_f, kIfV_t, kIfV_f, kOrT_t, kOrT_f, kAndT_t, kAndT_f, kNotT_c, kAnd_t, kAnd_f, kOr_t, kOr_f, kNot_b, kTest_b, kBin_c, kBin2_c, kUn_c, kChain_t, kChain_f, kCh1_c, kCh2_c, kRet_d, kRet_n, kRetN_n, kSome_i, kSlot_d, kDc_c, kDc2_c, kLst_c, kLen_c, kTup_c, kCB_c, kIsa_c, kSl1_c, kSl2_c, kSl3_c, kRtO_c, kOm_c, kOm2_c, kOm3_c, kSo_c, kSo2_c, kSo3_c, kOi_c, kOi2_c, kSeq_c, kEnum_c, kEnum2_c, kZip_c, kZip2_c, kZip3_c, kZip4_c, kRg1_c, kRg2_c, kRg2b_c, kRgD_c, kRgDb_c, kCall_c, kCallN_c, kAc_c, kAc2_c, kBag_b, kComp_c, kRev_c, kGc_c, kFl_c, compT_c, kCt_c, kCt2_t, kCt2_f, fnS_c, ssSeq_c, ssRet_c, ssRetF_c, ssRetOwn_c, ssRetN_c, ssAsg_c, ssAsgF_c, ssPar_c, ssParF_c, ssIf_c, ssExpr_c, ssNil_c, ssPass_c, ssBreak_c, ssCont_c, ssFor_c, ssFreeze_c, ssOwnM_c, sVar_c, sC_c, sBin_c, sUn_c, sTest_c, sNotT_c, sAndT_c, sOrT_c, sBorT_c, sAndV_c, sOrV_c, sNotV_c, sIf_c, sChain_c, stYes_c, sdNil_c, sdCons_c, sLst_c, sLen_c, sTup_c, sCallB_c, sCallL_c, sIsa_c, sSlice_c, soNone_c, soSome_c, sgName_c, sgOwn_c, sOwnIx_c, siSeq_c, siEnum_c, siZip_c, siRange1_c, siRange2_c, siRangeD_c, slR1_c, slR2_c, sCall_c, sCallN_c, saNil_c, saCons_c, saBag_c, sComp_c, sRevL_c, sgTup_t, sgCons_c, sgNil_n, freezeSl, setUn, Slot.inner, List.map_cons, List.map_nil, List.replicate, List.cons_append, List.nil_append, List.append_nil, List.getElem?_cons_zero, List.getElem?_cons_succ, List.set_cons_zero, List.set_cons_succ, List.length_cons, List.length_nil, and_assoc, Option.some.injEq, PyData.list.injEq, PyData.tuple.injEq, toL_n, Nat.sub_self, Nat.zero_add, Nat.reduceAdd, Nat.reduceSub, true_and, and_true, addD_ii, subD_ii, ltD_ii, leD_ii, gtD_ii, geD_ii, negD_i, mulD_i, fdivD_i, modD_i, itemsD_l, itemsD_t, tupleB_l, tupleB_t, listB_l, listB_t, lenB_l, lenB_t, intB_i, intB_b, fold2_i, appendM_1, ixN_len, reduceCtorEq, reduceIte, Bool.and_self, Bool.true_and, Bool.false_and, Bool.and_true, Bool.and_false, Bool.not_true, Bool.not_false, PyData.isTuple, PyData.isInt, PyData.isBool, PyData.isList, PyData.isStr, isBLT]
      exact h
  | _ => simp -implicitDefEqProofs (disch := ((try simp only [List.length_map, List.length_append, List.length_cons, List.length_nil, List.length_take, List.length_drop, List.length_set, List.length_replicate, List.length_range, List.length_zipIdx, List.length_zip]); omega)) only [kVal_s, hold_c, kNx_c, kRt_c, kRtN_c, kAsg_c, kAsgF_c, kPar_c, kParF_c, kParF2_c, kExp_c, kFor_c, kIf_t, kIf_f, kIfV_t, kIfV_f, kOrT_t, kOrT_f, kAndT_t, kAndT_f, kNotT_c, kAnd_t, kAnd_f, kOr_t, kOr_f, kNot_b, kTest_b, kBin_c, kBin2_c, kUn_c, kChain_t, kChain_f, kCh1_c, kCh2_c, kRet_d, kRet_n, kRetN_n, kSome_i, kSlot_d, kDc_c, kDc2_c, kLst_c, kLen_c, kTup_c, kCB_c, kIsa_c, kSl1_c, kSl2_c, kSl3_c, kRtO_c, kOm_c, kOm2_c, kOm3_c, kSo_c, kSo2_c, kSo3_c, kOi_c, kOi2_c, kSeq_c, kEnum_c, kEnum2_c, kZip_c, kZip2_c, kZip3_c, kZip4_c, kRg1_c, kRg2_c, kRg2b_c, kRgD_c, kRgDb_c, kCall_c, kCallN_c, kAc_c, kAc2_c, kBag_b, kComp_c, kRev_c, kGc_c, kFl_c, compT_c, kCt_c, kCt2_t, kCt2_f, fnS_c, ssSeq_c, ssRet_c, ssRetF_c, ssRetOwn_c, ssRetN_c, ssAsg_c, ssAsgF_c, ssPar_c, ssParF_c, ssIf_c, ssExpr_c, ssNil_c, ssPass_c, ssBreak_c, ssCont_c, ssFor_c, ssFreeze_c, ssOwnM_c, sVar_c, sC_c, sBin_c, sUn_c, sTest_c, sNotT_c, sAndT_c, sOrT_c, sBorT_c, sAndV_c, sOrV_c, sNotV_c, sIf_c, sChain_c, stYes_c, sdNil_c, sdCons_c, sLst_c, sLen_c, sTup_c, sCallB_c, sCallL_c, sIsa_c, sSlice_c, soNone_c, soSome_c, sgName_c, sgOwn_c, sOwnIx_c, siSeq_c, siEnum_c, siZip_c, siRange1_c, siRange2_c, siRangeD_c, slR1_c, slR2_c, sCall_c, sCallN_c, saNil_c, saCons_c, saBag_c, sComp_c, sRevL_c, sgTup_t, sgCons_c, sgNil_n, freezeSl, setUn, Slot.inner, List.map_cons, List.map_nil, List.replicate, List.cons_append, List.nil_append, List.append_nil, List.getElem?_cons_zero, List.getElem?_cons_succ, List.set_cons_zero, List.set_cons_succ, List.length_cons, List.length_nil, and_assoc, Option.some.injEq, PyData.list.injEq, PyData.tuple.injEq, toL_n, Nat.sub_self, Nat.zero_add, Nat.reduceAdd, Nat.reduceSub, true_and, and_true, addD_ii, subD_ii, ltD_ii, leD_ii, gtD_ii, geD_ii, negD_i, mulD_i, fdivD_i, modD_i, itemsD_l, itemsD_t, tupleB_l, tupleB_t, listB_l, listB_t, lenB_l, lenB_t, intB_i, intB_b, fold2_i, appendM_1, ixN_len, reduceCtorEq, reduceIte, Bool.and_self, Bool.true_and, Bool.false_and, Bool.and_true, Bool.and_false, Bool.not_true, Bool.not_false, PyData.isTuple, PyData.isInt, PyData.isBool, PyData.isList, PyData.isStr, isBLT]; exact h
theorem sp_least {c r : Int} {m F R} (hc : -1000 ≤ c ∧ c ≤ 1000) (h : R (.dat (.int (r * c * (c + 1) / 2))) m) : m_least [.dat (.int c), .dat (.int r)] m F R := by
  simp -implicitDefEqProofs (disch := ((try simp only [List.length_map, List.length_append, List.length_cons, List.length_nil, List.length_take, List.length_drop, List.length_set, List.length_replicate, List.length_range, List.length_zipIdx, List.length_zip]); omega)) only [kVal_s, hold_c, kNx_c, kRt_c, kRtN_c, kAsg_c, kAsgF_c, kPar_c, kParF_c, kParF2_c, kExp_c, kFor_c, kIf_t, kIf_f, kIfV_t, kIfV_f, kOrT_t, kOrT_f, kAndT_t, kAndT_f, kNotT_c, kAnd_t, kAnd_f, kOr_t, kOr_f, kNot_b, kTest_b, kBin_c, kBin2_c, kUn_c, kChain_t, kChain_f, kCh1_c, kCh2_c, kRet_d, kRet_n, kRetN_n, kSome_i, kSlot_d, kDc_c, kDc2_c, kLst_c, kLen_c, kTup_c, kCB_c, kIsa_c, kSl1_c, kSl2_c, kSl3_c, kRtO_c, kOm_c, kOm2_c, kOm3_c, kSo_c, kSo2_c, kSo3_c, kOi_c, kOi2_c, kSeq_c, kEnum_c, kEnum2_c, kZip_c, kZip2_c, kZip3_c, kZip4_c, kRg1_c, kRg2_c, kRg2b_c, kRgD_c, kRgDb_c, kCall_c, kCallN_c, kAc_c, kAc2_c, kBag_b, kComp_c, kRev_c, kGc_c, kFl_c, compT_c, kCt_c, kCt2_t, kCt2_f, fnS_c, ssSeq_c, ssRet_c, ssRetF_c, ssRetOwn_c, ssRetN_c, ssAsg_c, ssAsgF_c, ssPar_c, ssParF_c, ssIf_c, ssExpr_c, ssNil_c, ssPass_c, ssBreak_c, ssCont_c, ssFor_c, ssFreeze_c, ssOwnM_c, sVar_c, sC_c, sBin_c, sUn_c, sTest_c, sNotT_c, sAndT_c, sOrT_c, sBorT_c, sAndV_c, sOrV_c, sNotV_c, sIf_c, sChain_c, stYes_c, sdNil_c, sdCons_c, sLst_c, sLen_c, sTup_c, sCallB_c, sCallL_c, sIsa_c, sSlice_c, soNone_c, soSome_c, sgName_c, sgOwn_c, sOwnIx_c, siSeq_c, siEnum_c, siZip_c, siRange1_c, siRange2_c, siRangeD_c, slR1_c, slR2_c, sCall_c, sCallN_c, saNil_c, saCons_c, saBag_c, sComp_c, sRevL_c, sgTup_t, sgCons_c, sgNil_n, freezeSl, setUn, Slot.inner, List.map_cons, List.map_nil, List.replicate, List.cons_append, List.nil_append, List.append_nil, List.getElem?_cons_zero, List.getElem?_cons_succ, List.set_cons_zero, List.set_cons_succ, List.length_cons, List.length_nil, and_assoc, Option.some.injEq, PyData.list.injEq, PyData.tuple.injEq, toL_n, Nat.sub_self, Nat.zero_add, Nat.reduceAdd, Nat.reduceSub, true_and, and_true, addD_ii, subD_ii, ltD_ii, leD_ii, gtD_ii, geD_ii, negD_i, mulD_i, fdivD_i, modD_i, itemsD_l, itemsD_t, tupleB_l, tupleB_t, listB_l, listB_t, lenB_l, lenB_t, intB_i, intB_b, fold2_i, appendM_1, ixN_len, reduceCtorEq, reduceIte, Bool.and_self, Bool.true_and, Bool.false_and, Bool.and_true, Bool.and_false, Bool.not_true, Bool.not_false, PyData.isTuple, PyData.isInt, PyData.isBool, PyData.isList, PyData.isStr, isBLT, m_least, b_least]
  exact h
/-- valid totals -/
def okTot (rs : List Int) : Prop := (1 ≤ rs.length ∧ rs.length ≤ 6) ∧ ∀ x ∈ rs, 0 ≤ x ∧ x ≤ 100
theorem sp_is_totals {rs : List Int} {m F R} (hr : okTot rs) (h : R (.dat (.bool true)) m) : m_is_totals [.dat (tI rs)] m F R := by
  obtain ⟨hl, hx⟩ := hr
  unfold tI
  simp -implicitDefEqProofs (disch := ((try simp only [List.length_map, List.length_append, List.length_cons, List.length_nil, List.length_take, List.length_drop, List.length_set, List.length_replicate, List.length_range, List.length_zipIdx, List.length_zip]); omega)) only [kVal_s, hold_c, kNx_c, kRt_c, kRtN_c, kAsg_c, kAsgF_c, kPar_c, kParF_c, kParF2_c, kExp_c, kFor_c, kIf_t, kIf_f, kIfV_t, kIfV_f, kOrT_t, kOrT_f, kAndT_t, kAndT_f, kNotT_c, kAnd_t, kAnd_f, kOr_t, kOr_f, kNot_b, kTest_b, kBin_c, kBin2_c, kUn_c, kChain_t, kChain_f, kCh1_c, kCh2_c, kRet_d, kRet_n, kRetN_n, kSome_i, kSlot_d, kDc_c, kDc2_c, kLst_c, kLen_c, kTup_c, kCB_c, kIsa_c, kSl1_c, kSl2_c, kSl3_c, kRtO_c, kOm_c, kOm2_c, kOm3_c, kSo_c, kSo2_c, kSo3_c, kOi_c, kOi2_c, kSeq_c, kEnum_c, kEnum2_c, kZip_c, kZip2_c, kZip3_c, kZip4_c, kRg1_c, kRg2_c, kRg2b_c, kRgD_c, kRgDb_c, kCall_c, kCallN_c, kAc_c, kAc2_c, kBag_b, kComp_c, kRev_c, kGc_c, kFl_c, compT_c, kCt_c, kCt2_t, kCt2_f, fnS_c, ssSeq_c, ssRet_c, ssRetF_c, ssRetOwn_c, ssRetN_c, ssAsg_c, ssAsgF_c, ssPar_c, ssParF_c, ssIf_c, ssExpr_c, ssNil_c, ssPass_c, ssBreak_c, ssCont_c, ssFor_c, ssFreeze_c, ssOwnM_c, sVar_c, sC_c, sBin_c, sUn_c, sTest_c, sNotT_c, sAndT_c, sOrT_c, sBorT_c, sAndV_c, sOrV_c, sNotV_c, sIf_c, sChain_c, stYes_c, sdNil_c, sdCons_c, sLst_c, sLen_c, sTup_c, sCallB_c, sCallL_c, sIsa_c, sSlice_c, soNone_c, soSome_c, sgName_c, sgOwn_c, sOwnIx_c, siSeq_c, siEnum_c, siZip_c, siRange1_c, siRange2_c, siRangeD_c, slR1_c, slR2_c, sCall_c, sCallN_c, saNil_c, saCons_c, saBag_c, sComp_c, sRevL_c, sgTup_t, sgCons_c, sgNil_n, freezeSl, setUn, Slot.inner, List.map_cons, List.map_nil, List.replicate, List.cons_append, List.nil_append, List.append_nil, List.getElem?_cons_zero, List.getElem?_cons_succ, List.set_cons_zero, List.set_cons_succ, List.length_cons, List.length_nil, and_assoc, Option.some.injEq, PyData.list.injEq, PyData.tuple.injEq, toL_n, Nat.sub_self, Nat.zero_add, Nat.reduceAdd, Nat.reduceSub, true_and, and_true, addD_ii, subD_ii, ltD_ii, leD_ii, gtD_ii, geD_ii, negD_i, mulD_i, fdivD_i, modD_i, itemsD_l, itemsD_t, tupleB_l, tupleB_t, listB_l, listB_t, lenB_l, lenB_t, intB_i, intB_b, fold2_i, appendM_1, ixN_len, reduceCtorEq, reduceIte, Bool.and_self, Bool.true_and, Bool.false_and, Bool.and_true, Bool.and_false, Bool.not_true, Bool.not_false, PyData.isTuple, PyData.isInt, PyData.isBool, PyData.isList, PyData.isStr, isBLT, m_is_totals, b_is_totals, List.length_map, decT, decF]
  refine ⟨Nat.le_trans hl.2 (by decide), ?_⟩
  refine compL_map PyData.int (fun _ => .bool true) rs _ (fun x hxm K N hk => ?_) ?_
  · simp -implicitDefEqProofs (disch := ((try simp only [List.length_map, List.length_append, List.length_cons, List.length_nil, List.length_take, List.length_drop, List.length_set, List.length_replicate, List.length_range, List.length_zipIdx, List.length_zip]); omega)) only [kVal_s, hold_c, kNx_c, kRt_c, kRtN_c, kAsg_c, kAsgF_c, kPar_c, kParF_c, kParF2_c, kExp_c, kFor_c, kIf_t, kIf_f, kIfV_t, kIfV_f, kOrT_t, kOrT_f, kAndT_t, kAndT_f, kNotT_c, kAnd_t, kAnd_f, kOr_t, kOr_f, kNot_b, kTest_b, kBin_c, kBin2_c, kUn_c, kChain_t, kChain_f, kCh1_c, kCh2_c, kRet_d, kRet_n, kRetN_n, kSome_i, kSlot_d, kDc_c, kDc2_c, kLst_c, kLen_c, kTup_c, kCB_c, kIsa_c, kSl1_c, kSl2_c, kSl3_c, kRtO_c, kOm_c, kOm2_c, kOm3_c, kSo_c, kSo2_c, kSo3_c, kOi_c, kOi2_c, kSeq_c, kEnum_c, kEnum2_c, kZip_c, kZip2_c, kZip3_c, kZip4_c, kRg1_c, kRg2_c, kRg2b_c, kRgD_c, kRgDb_c, kCall_c, kCallN_c, kAc_c, kAc2_c, kBag_b, kComp_c, kRev_c, kGc_c, kFl_c, compT_c, kCt_c, kCt2_t, kCt2_f, fnS_c, ssSeq_c, ssRet_c, ssRetF_c, ssRetOwn_c, ssRetN_c, ssAsg_c, ssAsgF_c, ssPar_c, ssParF_c, ssIf_c, ssExpr_c, ssNil_c, ssPass_c, ssBreak_c, ssCont_c, ssFor_c, ssFreeze_c, ssOwnM_c, sVar_c, sC_c, sBin_c, sUn_c, sTest_c, sNotT_c, sAndT_c, sOrT_c, sBorT_c, sAndV_c, sOrV_c, sNotV_c, sIf_c, sChain_c, stYes_c, sdNil_c, sdCons_c, sLst_c, sLen_c, sTup_c, sCallB_c, sCallL_c, sIsa_c, sSlice_c, soNone_c, soSome_c, sgName_c, sgOwn_c, sOwnIx_c, siSeq_c, siEnum_c, siZip_c, siRange1_c, siRange2_c, siRangeD_c, slR1_c, slR2_c, sCall_c, sCallN_c, saNil_c, saCons_c, saBag_c, sComp_c, sRevL_c, sgTup_t, sgCons_c, sgNil_n, freezeSl, setUn, Slot.inner, List.map_cons, List.map_nil, List.replicate, List.cons_append, List.nil_append, List.append_nil, List.getElem?_cons_zero, List.getElem?_cons_succ, List.set_cons_zero, List.set_cons_succ, List.length_cons, List.length_nil, and_assoc, Option.some.injEq, PyData.list.injEq, PyData.tuple.injEq, toL_n, Nat.sub_self, Nat.zero_add, Nat.reduceAdd, Nat.reduceSub, true_and, and_true, addD_ii, subD_ii, ltD_ii, leD_ii, gtD_ii, geD_ii, negD_i, mulD_i, fdivD_i, modD_i, itemsD_l, itemsD_t, tupleB_l, tupleB_t, listB_l, listB_t, lenB_l, lenB_t, intB_i, intB_b, fold2_i, appendM_1, ixN_len, reduceCtorEq, reduceIte, Bool.and_self, Bool.true_and, Bool.false_and, Bool.and_true, Bool.and_false, Bool.not_true, Bool.not_false, PyData.isTuple, PyData.isInt, PyData.isBool, PyData.isList, PyData.isStr, isBLT, e1_is_totals]
    refine sp_in_range ?_
    simp -implicitDefEqProofs (disch := ((try simp only [List.length_map, List.length_append, List.length_cons, List.length_nil, List.length_take, List.length_drop, List.length_set, List.length_replicate, List.length_range, List.length_zipIdx, List.length_zip]); omega)) only [kVal_s, hold_c, kNx_c, kRt_c, kRtN_c, kAsg_c, kAsgF_c, kPar_c, kParF_c, kParF2_c, kExp_c, kFor_c, kIf_t, kIf_f, kIfV_t, kIfV_f, kOrT_t, kOrT_f, kAndT_t, kAndT_f, kNotT_c, kAnd_t, kAnd_f, kOr_t, kOr_f, kNot_b, kTest_b, kBin_c, kBin2_c, kUn_c, kChain_t, kChain_f, kCh1_c, kCh2_c, kRet_d, kRet_n, kRetN_n, kSome_i, kSlot_d, kDc_c, kDc2_c, kLst_c, kLen_c, kTup_c, kCB_c, kIsa_c, kSl1_c, kSl2_c, kSl3_c, kRtO_c, kOm_c, kOm2_c, kOm3_c, kSo_c, kSo2_c, kSo3_c, kOi_c, kOi2_c, kSeq_c, kEnum_c, kEnum2_c, kZip_c, kZip2_c, kZip3_c, kZip4_c, kRg1_c, kRg2_c, kRg2b_c, kRgD_c, kRgDb_c, kCall_c, kCallN_c, kAc_c, kAc2_c, kBag_b, kComp_c, kRev_c, kGc_c, kFl_c, compT_c, kCt_c, kCt2_t, kCt2_f, fnS_c, ssSeq_c, ssRet_c, ssRetF_c, ssRetOwn_c, ssRetN_c, ssAsg_c, ssAsgF_c, ssPar_c, ssParF_c, ssIf_c, ssExpr_c, ssNil_c, ssPass_c, ssBreak_c, ssCont_c, ssFor_c, ssFreeze_c, ssOwnM_c, sVar_c, sC_c, sBin_c, sUn_c, sTest_c, sNotT_c, sAndT_c, sOrT_c, sBorT_c, sAndV_c, sOrV_c, sNotV_c, sIf_c, sChain_c, stYes_c, sdNil_c, sdCons_c, sLst_c, sLen_c, sTup_c, sCallB_c, sCallL_c, sIsa_c, sSlice_c, soNone_c, soSome_c, sgName_c, sgOwn_c, sOwnIx_c, siSeq_c, siEnum_c, siZip_c, siRange1_c, siRange2_c, siRangeD_c, slR1_c, slR2_c, sCall_c, sCallN_c, saNil_c, saCons_c, saBag_c, sComp_c, sRevL_c, sgTup_t, sgCons_c, sgNil_n, freezeSl, setUn, Slot.inner, List.map_cons, List.map_nil, List.replicate, List.cons_append, List.nil_append, List.append_nil, List.getElem?_cons_zero, List.getElem?_cons_succ, List.set_cons_zero, List.set_cons_succ, List.length_cons, List.length_nil, and_assoc, Option.some.injEq, PyData.list.injEq, PyData.tuple.injEq, toL_n, Nat.sub_self, Nat.zero_add, Nat.reduceAdd, Nat.reduceSub, true_and, and_true, addD_ii, subD_ii, ltD_ii, leD_ii, gtD_ii, geD_ii, negD_i, mulD_i, fdivD_i, modD_i, itemsD_l, itemsD_t, tupleB_l, tupleB_t, listB_l, listB_t, lenB_l, lenB_t, intB_i, intB_b, fold2_i, appendM_1, ixN_len, reduceCtorEq, reduceIte, Bool.and_self, Bool.true_and, Bool.false_and, Bool.and_true, Bool.and_false, Bool.not_true, Bool.not_false, PyData.isTuple, PyData.isInt, PyData.isBool, PyData.isList, PyData.isStr, isBLT]
    rw [show inR (.int x) 0 100 = true by unfold inR; have := hx x hxm; simp; omega]
    exact hk
  · rw [show (rs.map fun _ => PyData.bool true) = (rs.map fun _ => true).map PyData.bool by rw [List.map_map]; rfl]
    simp -implicitDefEqProofs (disch := ((try simp only [List.length_map, List.length_append, List.length_cons, List.length_nil, List.length_take, List.length_drop, List.length_set, List.length_replicate, List.length_range, List.length_zipIdx, List.length_zip]); omega)) only [kVal_s, hold_c, kNx_c, kRt_c, kRtN_c, kAsg_c, kAsgF_c, kPar_c, kParF_c, kParF2_c, kExp_c, kFor_c, kIf_t, kIf_f, kIfV_t, kIfV_f, kOrT_t, kOrT_f, kAndT_t, kAndT_f, kNotT_c, kAnd_t, kAnd_f, kOr_t, kOr_f, kNot_b, kTest_b, kBin_c, kBin2_c, kUn_c, kChain_t, kChain_f, kCh1_c, kCh2_c, kRet_d, kRet_n, kRetN_n, kSome_i, kSlot_d, kDc_c, kDc2_c, kLst_c, kLen_c, kTup_c, kCB_c, kIsa_c, kSl1_c, kSl2_c, kSl3_c, kRtO_c, kOm_c, kOm2_c, kOm3_c, kSo_c, kSo2_c, kSo3_c, kOi_c, kOi2_c, kSeq_c, kEnum_c, kEnum2_c, kZip_c, kZip2_c, kZip3_c, kZip4_c, kRg1_c, kRg2_c, kRg2b_c, kRgD_c, kRgDb_c, kCall_c, kCallN_c, kAc_c, kAc2_c, kBag_b, kComp_c, kRev_c, kGc_c, kFl_c, compT_c, kCt_c, kCt2_t, kCt2_f, fnS_c, ssSeq_c, ssRet_c, ssRetF_c, ssRetOwn_c, ssRetN_c, ssAsg_c, ssAsgF_c, ssPar_c, ssParF_c, ssIf_c, ssExpr_c, ssNil_c, ssPass_c, ssBreak_c, ssCont_c, ssFor_c, ssFreeze_c, ssOwnM_c, sVar_c, sC_c, sBin_c, sUn_c, sTest_c, sNotT_c, sAndT_c, sOrT_c, sBorT_c, sAndV_c, sOrV_c, sNotV_c, sIf_c, sChain_c, stYes_c, sdNil_c, sdCons_c, sLst_c, sLen_c, sTup_c, sCallB_c, sCallL_c, sIsa_c, sSlice_c, soNone_c, soSome_c, sgName_c, sgOwn_c, sOwnIx_c, siSeq_c, siEnum_c, siZip_c, siRange1_c, siRange2_c, siRangeD_c, slR1_c, slR2_c, sCall_c, sCallN_c, saNil_c, saCons_c, saBag_c, sComp_c, sRevL_c, sgTup_t, sgCons_c, sgNil_n, freezeSl, setUn, Slot.inner, List.map_cons, List.map_nil, List.replicate, List.cons_append, List.nil_append, List.append_nil, List.getElem?_cons_zero, List.getElem?_cons_succ, List.set_cons_zero, List.set_cons_succ, List.length_cons, List.length_nil, and_assoc, Option.some.injEq, PyData.list.injEq, PyData.tuple.injEq, toL_n, Nat.sub_self, Nat.zero_add, Nat.reduceAdd, Nat.reduceSub, true_and, and_true, addD_ii, subD_ii, ltD_ii, leD_ii, gtD_ii, geD_ii, negD_i, mulD_i, fdivD_i, modD_i, itemsD_l, itemsD_t, tupleB_l, tupleB_t, listB_l, listB_t, lenB_l, lenB_t, intB_i, intB_b, fold2_i, appendM_1, ixN_len, reduceCtorEq, reduceIte, Bool.and_self, Bool.true_and, Bool.false_and, Bool.and_true, Bool.and_false, Bool.not_true, Bool.not_false, PyData.isTuple, PyData.isInt, PyData.isBool, PyData.isList, PyData.isStr, isBLT, allB_l]
    rw [show ((rs.map fun _ => true).all id) = true by simp]
    exact h
theorem sp_check_totals {rs : List Int} {m F R} (hr : okTot rs) (h : R (.dat .none) m) : m_check_totals [.dat (tI rs)] m F R := by
  simp -implicitDefEqProofs (disch := ((try simp only [List.length_map, List.length_append, List.length_cons, List.length_nil, List.length_take, List.length_drop, List.length_set, List.length_replicate, List.length_range, List.length_zipIdx, List.length_zip]); omega)) only [kVal_s, hold_c, kNx_c, kRt_c, kRtN_c, kAsg_c, kAsgF_c, kPar_c, kParF_c, kParF2_c, kExp_c, kFor_c, kIf_t, kIf_f, kIfV_t, kIfV_f, kOrT_t, kOrT_f, kAndT_t, kAndT_f, kNotT_c, kAnd_t, kAnd_f, kOr_t, kOr_f, kNot_b, kTest_b, kBin_c, kBin2_c, kUn_c, kChain_t, kChain_f, kCh1_c, kCh2_c, kRet_d, kRet_n, kRetN_n, kSome_i, kSlot_d, kDc_c, kDc2_c, kLst_c, kLen_c, kTup_c, kCB_c, kIsa_c, kSl1_c, kSl2_c, kSl3_c, kRtO_c, kOm_c, kOm2_c, kOm3_c, kSo_c, kSo2_c, kSo3_c, kOi_c, kOi2_c, kSeq_c, kEnum_c, kEnum2_c, kZip_c, kZip2_c, kZip3_c, kZip4_c, kRg1_c, kRg2_c, kRg2b_c, kRgD_c, kRgDb_c, kCall_c, kCallN_c, kAc_c, kAc2_c, kBag_b, kComp_c, kRev_c, kGc_c, kFl_c, compT_c, kCt_c, kCt2_t, kCt2_f, fnS_c, ssSeq_c, ssRet_c, ssRetF_c, ssRetOwn_c, ssRetN_c, ssAsg_c, ssAsgF_c, ssPar_c, ssParF_c, ssIf_c, ssExpr_c, ssNil_c, ssPass_c, ssBreak_c, ssCont_c, ssFor_c, ssFreeze_c, ssOwnM_c, sVar_c, sC_c, sBin_c, sUn_c, sTest_c, sNotT_c, sAndT_c, sOrT_c, sBorT_c, sAndV_c, sOrV_c, sNotV_c, sIf_c, sChain_c, stYes_c, sdNil_c, sdCons_c, sLst_c, sLen_c, sTup_c, sCallB_c, sCallL_c, sIsa_c, sSlice_c, soNone_c, soSome_c, sgName_c, sgOwn_c, sOwnIx_c, siSeq_c, siEnum_c, siZip_c, siRange1_c, siRange2_c, siRangeD_c, slR1_c, slR2_c, sCall_c, sCallN_c, saNil_c, saCons_c, saBag_c, sComp_c, sRevL_c, sgTup_t, sgCons_c, sgNil_n, freezeSl, setUn, Slot.inner, List.map_cons, List.map_nil, List.replicate, List.cons_append, List.nil_append, List.append_nil, List.getElem?_cons_zero, List.getElem?_cons_succ, List.set_cons_zero, List.set_cons_succ, List.length_cons, List.length_nil, and_assoc, Option.some.injEq, PyData.list.injEq, PyData.tuple.injEq, toL_n, Nat.sub_self, Nat.zero_add, Nat.reduceAdd, Nat.reduceSub, true_and, and_true, addD_ii, subD_ii, ltD_ii, leD_ii, gtD_ii, geD_ii, negD_i, mulD_i, fdivD_i, modD_i, itemsD_l, itemsD_t, tupleB_l, tupleB_t, listB_l, listB_t, lenB_l, lenB_t, intB_i, intB_b, fold2_i, appendM_1, ixN_len, reduceCtorEq, reduceIte, Bool.and_self, Bool.true_and, Bool.false_and, Bool.and_true, Bool.and_false, Bool.not_true, Bool.not_false, PyData.isTuple, PyData.isInt, PyData.isBool, PyData.isList, PyData.isStr, isBLT, m_check_totals, b_check_totals]
  refine sp_is_totals hr ?_
  simp -implicitDefEqProofs (disch := ((try simp only [List.length_map, List.length_append, List.length_cons, List.length_nil, List.length_take, List.length_drop, List.length_set, List.length_replicate, List.length_range, List.length_zipIdx, List.length_zip]); omega)) only [kVal_s, hold_c, kNx_c, kRt_c, kRtN_c, kAsg_c, kAsgF_c, kPar_c, kParF_c, kParF2_c, kExp_c, kFor_c, kIf_t, kIf_f, kIfV_t, kIfV_f, kOrT_t, kOrT_f, kAndT_t, kAndT_f, kNotT_c, kAnd_t, kAnd_f, kOr_t, kOr_f, kNot_b, kTest_b, kBin_c, kBin2_c, kUn_c, kChain_t, kChain_f, kCh1_c, kCh2_c, kRet_d, kRet_n, kRetN_n, kSome_i, kSlot_d, kDc_c, kDc2_c, kLst_c, kLen_c, kTup_c, kCB_c, kIsa_c, kSl1_c, kSl2_c, kSl3_c, kRtO_c, kOm_c, kOm2_c, kOm3_c, kSo_c, kSo2_c, kSo3_c, kOi_c, kOi2_c, kSeq_c, kEnum_c, kEnum2_c, kZip_c, kZip2_c, kZip3_c, kZip4_c, kRg1_c, kRg2_c, kRg2b_c, kRgD_c, kRgDb_c, kCall_c, kCallN_c, kAc_c, kAc2_c, kBag_b, kComp_c, kRev_c, kGc_c, kFl_c, compT_c, kCt_c, kCt2_t, kCt2_f, fnS_c, ssSeq_c, ssRet_c, ssRetF_c, ssRetOwn_c, ssRetN_c, ssAsg_c, ssAsgF_c, ssPar_c, ssParF_c, ssIf_c, ssExpr_c, ssNil_c, ssPass_c, ssBreak_c, ssCont_c, ssFor_c, ssFreeze_c, ssOwnM_c, sVar_c, sC_c, sBin_c, sUn_c, sTest_c, sNotT_c, sAndT_c, sOrT_c, sBorT_c, sAndV_c, sOrV_c, sNotV_c, sIf_c, sChain_c, stYes_c, sdNil_c, sdCons_c, sLst_c, sLen_c, sTup_c, sCallB_c, sCallL_c, sIsa_c, sSlice_c, soNone_c, soSome_c, sgName_c, sgOwn_c, sOwnIx_c, siSeq_c, siEnum_c, siZip_c, siRange1_c, siRange2_c, siRangeD_c, slR1_c, slR2_c, sCall_c, sCallN_c, saNil_c, saCons_c, saBag_c, sComp_c, sRevL_c, sgTup_t, sgCons_c, sgNil_n, freezeSl, setUn, Slot.inner, List.map_cons, List.map_nil, List.replicate, List.cons_append, List.nil_append, List.append_nil, List.getElem?_cons_zero, List.getElem?_cons_succ, List.set_cons_zero, List.set_cons_succ, List.length_cons, List.length_nil, and_assoc, Option.some.injEq, PyData.list.injEq, PyData.tuple.injEq, toL_n, Nat.sub_self, Nat.zero_add, Nat.reduceAdd, Nat.reduceSub, true_and, and_true, addD_ii, subD_ii, ltD_ii, leD_ii, gtD_ii, geD_ii, negD_i, mulD_i, fdivD_i, modD_i, itemsD_l, itemsD_t, tupleB_l, tupleB_t, listB_l, listB_t, lenB_l, lenB_t, intB_i, intB_b, fold2_i, appendM_1, ixN_len, reduceCtorEq, reduceIte, Bool.and_self, Bool.true_and, Bool.false_and, Bool.and_true, Bool.and_false, Bool.not_true, Bool.not_false, PyData.isTuple, PyData.isInt, PyData.isBool, PyData.isList, PyData.isStr, isBLT]
  exact h
theorem sp_check_number {v i j : Int} {m F R} (hv : i ≤ v ∧ v ≤ j) (h : R (.dat .none) m) : m_check_number [.dat (.int v), .dat (.int i), .dat (.int j)] m F R := by
  simp -implicitDefEqProofs (disch := ((try simp only [List.length_map, List.length_append, List.length_cons, List.length_nil, List.length_take, List.length_drop, List.length_set, List.length_replicate, List.length_range, List.length_zipIdx, List.length_zip]); omega)) only [kVal_s, hold_c, kNx_c, kRt_c, kRtN_c, kAsg_c, kAsgF_c, kPar_c, kParF_c, kParF2_c, kExp_c, kFor_c, kIf_t, kIf_f, kIfV_t, kIfV_f, kOrT_t, kOrT_f, kAndT_t, kAndT_f, kNotT_c, kAnd_t, kAnd_f, kOr_t, kOr_f, kNot_b, kTest_b, kBin_c, kBin2_c, kUn_c, kChain_t, kChain_f, kCh1_c, kCh2_c, kRet_d, kRet_n, kRetN_n, kSome_i, kSlot_d, kDc_c, kDc2_c, kLst_c, kLen_c, kTup_c, kCB_c, kIsa_c, kSl1_c, kSl2_c, kSl3_c, kRtO_c, kOm_c, kOm2_c, kOm3_c, kSo_c, kSo2_c, kSo3_c, kOi_c, kOi2_c, kSeq_c, kEnum_c, kEnum2_c, kZip_c, kZip2_c, kZip3_c, kZip4_c, kRg1_c, kRg2_c, kRg2b_c, kRgD_c, kRgDb_c, kCall_c, kCallN_c, kAc_c, kAc2_c, kBag_b, kComp_c, kRev_c, kGc_c, kFl_c, compT_c, kCt_c, kCt2_t, kCt2_f, fnS_c, ssSeq_c, ssRet_c, ssRetF_c, ssRetOwn_c, ssRetN_c, ssAsg_c, ssAsgF_c, ssPar_c, ssParF_c, ssIf_c, ssExpr_c, ssNil_c, ssPass_c, ssBreak_c, ssCont_c, ssFor_c, ssFreeze_c, ssOwnM_c, sVar_c, sC_c, sBin_c, sUn_c, sTest_c, sNotT_c, sAndT_c, sOrT_c, sBorT_c, sAndV_c, sOrV_c, sNotV_c, sIf_c, sChain_c, stYes_c, sdNil_c, sdCons_c, sLst_c, sLen_c, sTup_c, sCallB_c, sCallL_c, sIsa_c, sSlice_c, soNone_c, soSome_c, sgName_c, sgOwn_c, sOwnIx_c, siSeq_c, siEnum_c, siZip_c, siRange1_c, siRange2_c, siRangeD_c, slR1_c, slR2_c, sCall_c, sCallN_c, saNil_c, saCons_c, saBag_c, sComp_c, sRevL_c, sgTup_t, sgCons_c, sgNil_n, freezeSl, setUn, Slot.inner, List.map_cons, List.map_nil, List.replicate, List.cons_append, List.nil_append, List.append_nil, List.getElem?_cons_zero, List.getElem?_cons_succ, List.set_cons_zero, List.set_cons_succ, List.length_cons, List.length_nil, and_assoc, Option.some.injEq, PyData.list.injEq, PyData.tuple.injEq, toL_n, Nat.sub_self, Nat.zero_add, Nat.reduceAdd, Nat.reduceSub, true_and, and_true, addD_ii, subD_ii, ltD_ii, leD_ii, gtD_ii, geD_ii, negD_i, mulD_i, fdivD_i, modD_i, itemsD_l, itemsD_t, tupleB_l, tupleB_t, listB_l, listB_t, lenB_l, lenB_t, intB_i, intB_b, fold2_i, appendM_1, ixN_len, reduceCtorEq, reduceIte, Bool.and_self, Bool.true_and, Bool.false_and, Bool.and_true, Bool.and_false, Bool.not_true, Bool.not_false, PyData.isTuple, PyData.isInt, PyData.isBool, PyData.isList, PyData.isStr, isBLT, m_check_number, b_check_number]
  refine sp_in_range ?_
  rw [show inR (.int v) i j = true by unfold inR; simp; omega]
  simp -implicitDefEqProofs (disch := ((try simp only [List.length_map, List.length_append, List.length_cons, List.length_nil, List.length_take, List.length_drop, List.length_set, List.length_replicate, List.length_range, List.length_zipIdx, List.length_zip]); omega)) only [kVal_s, hold_c, kNx_c, kRt_c, kRtN_c, kAsg_c, kAsgF_c, kPar_c, kParF_c, kParF2_c, kExp_c, kFor_c, kIf_t, kIf_f, kIfV_t, kIfV_f, kOrT_t, kOrT_f, kAndT_t, kAndT_f, kNotT_c, kAnd_t, kAnd_f, kOr_t, kOr_f, kNot_b, kTest_b, kBin_c, kBin2_c, kUn_c, kChain_t, kChain_f, kCh1_c, kCh2_c, kRet_d, kRet_n, kRetN_n, kSome_i, kSlot_d, kDc_c, kDc2_c, kLst_c, kLen_c, kTup_c, kCB_c, kIsa_c, kSl1_c, kSl2_c, kSl3_c, kRtO_c, kOm_c, kOm2_c, kOm3_c, kSo_c, kSo2_c, kSo3_c, kOi_c, kOi2_c, kSeq_c, kEnum_c, kEnum2_c, kZip_c, kZip2_c, kZip3_c, kZip4_c, kRg1_c, kRg2_c, kRg2b_c, kRgD_c, kRgDb_c, kCall_c, kCallN_c, kAc_c, kAc2_c, kBag_b, kComp_c, kRev_c, kGc_c, kFl_c, compT_c, kCt_c, kCt2_t, kCt2_f, fnS_c, ssSeq_c, ssRet_c, ssRetF_c, ssRetOwn_c, ssRetN_c, ssAsg_c, ssAsgF_c, ssPar_c, ssParF_c, ssIf_c, ssExpr_c, ssNil_c, ssPass_c, ssBreak_c, ssCont_c, ssFor_c, ssFreeze_c, ssOwnM_c, sVar_c, sC_c, sBin_c, sUn_c, sTest_c, sNotT_c, sAndT_c, sOrT_c, sBorT_c, sAndV_c, sOrV_c, sNotV_c, sIf_c, sChain_c, stYes_c, sdNil_c, sdCons_c, sLst_c, sLen_c, sTup_c, sCallB_c, sCallL_c, sIsa_c, sSlice_c, soNone_c, soSome_c, sgName_c, sgOwn_c, sOwnIx_c, siSeq_c, siEnum_c, siZip_c, siRange1_c, siRange2_c, siRangeD_c, slR1_c, slR2_c, sCall_c, sCallN_c, saNil_c, saCons_c, saBag_c, sComp_c, sRevL_c, sgTup_t, sgCons_c, sgNil_n, freezeSl, setUn, Slot.inner, List.map_cons, List.map_nil, List.replicate, List.cons_append, List.nil_append, List.append_nil, List.getElem?_cons_zero, List.getElem?_cons_succ, List.set_cons_zero, List.set_cons_succ, List.length_cons, List.length_nil, and_assoc, Option.some.injEq, PyData.list.injEq, PyData.tuple.injEq, toL_n, Nat.sub_self, Nat.zero_add, Nat.reduceAdd, Nat.reduceSub, true_and, and_true, addD_ii, subD_ii, ltD_ii, leD_ii, gtD_ii, geD_ii, negD_i, mulD_i, fdivD_i, modD_i, itemsD_l, itemsD_t, tupleB_l, tupleB_t, listB_l, listB_t, lenB_l, lenB_t, intB_i, intB_b, fold2_i, appendM_1, ixN_len, reduceCtorEq, reduceIte, Bool.and_self, Bool.true_and, Bool.false_and, Bool.and_true, Bool.and_false, Bool.not_true, Bool.not_false, PyData.isTuple, PyData.isInt, PyData.isBool, PyData.isList, PyData.isStr, isBLT]
  exact h
end PT
set_option maxHeartbeats 1000000
namespace PT
open PySem PySem.Spec PyProof.Rows L2 DL
/-! short_set, shortage, is_shortage -/
def numbered (rs : List Int) : List (Int × Int) := (rs.zipIdx 0).map fun p => (p.1, (p.2 : Int))
def ordP (rs : List Int) : List (Int × Int) := sortP (numbered rs)
def shortGo (r : Int) (ord : List (Int × Int)) : List (Int × Int) → Nat → Int → Option (List Int)
  | [], _, _ => none
  | p :: ps, c, f => if f + p.1 < r * ((c : Int) + 1) * ((c : Int) + 1 + 1) / 2 then some (sortI ((ord.take (c + 1)).map (·.2))) else shortGo r ord ps (c + 1) (f + p.1)
def shortSet (rs : List Int) (r : Int) : Option (List Int) := shortGo r (ordP rs) (ordP rs) 0 0
def optT : Option (List Int) → D
  | none => .none
  | some xs => tI xs
theorem lp_short {De : DEnds} {F : Exc → Prop} {m : Nat} {rs : List Int} {r : Int} {ord : List (Int × Int)} (hord : ord.length ≤ 1000) : ∀ (ps : List (Int × Int)) (c : Nat) (f : Int) (x3 x4 x6 : Slot), c + ps.length ≤ 100 →
    (∀ xs, shortGo r ord ps c f = some xs → De.rt (.dat (tI xs)) m) → (shortGo r ord ps c f = none → ∀ x3 x4 f x6, De.nx ⟨[.dat (tI rs), .dat (.int r), .dat (.list (ord.map pI)), x3, x4, .dat (.int f), x6, .un], m, F⟩) →
    forL (sgTup 2 (sgCons (sgName 6) (sgCons (sgTup 2 (sgCons (sgName 4) (sgCons (sgName 3) sgNil))) sgNil))) L2_short_set De (enumD c (ps.map pI)) ⟨[.dat (tI rs), .dat (.int r), .dat (.list (ord.map pI)), x3, x4, .dat (.int f), x6, .un], m, F⟩
  | [], c, f, x3, x4, x6, hc, h1, h2 => h2 rfl x3 x4 f x6
  | p :: ps, c, f, x3, x4, x6, hc, h1, h2 => by
    rw [List.length_cons] at hc
    rw [List.map_cons, enumD, forL_c]
    simp -implicitDefEqProofs (disch := ((try simp only [List.length_map, List.length_append, List.length_cons, List.length_nil, List.length_take, List.length_drop, List.length_set, List.length_replicate, List.length_range, List.length_zipIdx, List.length_zip]); omega)) only [kVal_s, hold_c, kNx_c, kRt_c, kRtN_c, kAsg_c, kAsgF_c, kPar_c, kParF_c, kParF2_c, kExp_c, kFor_c, kIf_t, kIf_f, kIfV_t, kIfV_f, kOrT_t, kOrT_f, kAndT_t, kAndT_f, kNotT_c, kAnd_t, kAnd_f, kOr_t, kOr_f, kNot_b, kTest_b, kBin_c, kBin2_c, kUn_c, kChain_t, kChain_f, kCh1_c, kCh2_c, kRet_d, kRet_n, kRetN_n, kSome_i, kSlot_d, kDc_c, kDc2_c, kLst_c, kLen_c, kTup_c, kCB_c, kIsa_c, kSl1_c, kSl2_c, kSl3_c, kRtO_c, kOm_c, kOm2_c, kOm3_c, kSo_c, kSo2_c, kSo3_c, kOi_c, kOi2_c, kSeq_c, kEnum_c, kEnum2_c, kZip_c, kZip2_c, kZip3_c, kZip4_c, kRg1_c, kRg2_c, kRg2b_c, kRgD_c, kRgDb_c, kCall_c, kCallN_c, kAc_c, kAc2_c, kBag_b, kComp_c, kRev_c, kGc_c, kFl_c, compT_c, kCt_c, kCt2_t, kCt2_f, fnS_c, ssSeq_c, ssRet_c, ssRetF_c, ssRetOwn_c, ssRetN_c, ssAsg_c, ssAsgF_c, ssPar_c, ssParF_c, ssIf_c, ssExpr_c, ssNil_c, ssPass_c, ssBreak_c, ssCont_c, ssFor_c, ssFreeze_c, ssOwnM_c, sVar_c, sC_c, sBin_c, sUn_c, sTest_c, sNotT_c, sAndT_c, sOrT_c, sBorT_c, sAndV_c, sOrV_c, sNotV_c, sIf_c, sChain_c, stYes_c, sdNil_c, sdCons_c, sLst_c, sLen_c, sTup_c, sCallB_c, sCallL_c, sIsa_c, sSlice_c, soNone_c, soSome_c, sgName_c, sgOwn_c, sOwnIx_c, siSeq_c, siEnum_c, siZip_c, siRange1_c, siRange2_c, siRangeD_c, slR1_c, slR2_c, sCall_c, sCallN_c, saNil_c, saCons_c, saBag_c, sComp_c, sRevL_c, sgTup_t, sgCons_c, sgNil_n, freezeSl, setUn, Slot.inner, List.map_cons, List.map_nil, List.replicate, List.cons_append, List.nil_append, List.append_nil, List.getElem?_cons_zero, List.getElem?_cons_succ, List.set_cons_zero, List.set_cons_succ, List.length_cons, List.length_nil, and_assoc, Option.some.injEq, PyData.list.injEq, PyData.tuple.injEq, toL_n, Nat.sub_self, Nat.zero_add, Nat.reduceAdd, Nat.reduceSub, true_and, and_true, addD_ii, subD_ii, ltD_ii, leD_ii, gtD_ii, geD_ii, negD_i, mulD_i, fdivD_i, modD_i, itemsD_l, itemsD_t, tupleB_l, tupleB_t, listB_l, listB_t, lenB_l, lenB_t, intB_i, intB_b, fold2_i, appendM_1, ixN_len, reduceCtorEq, reduceIte, Bool.and_self, Bool.true_and, Bool.false_and, Bool.and_true, Bool.and_false, Bool.not_true, Bool.not_false, PyData.isTuple, PyData.isInt, PyData.isBool, PyData.isList, PyData.isStr, isBLT, L2_short_set, pI]
    refine sp_least (by omega) ?_
    simp -implicitDefEqProofs (disch := ((try simp only [List.length_map, List.length_append, List.length_cons, List.length_nil, List.length_take, List.length_drop, List.length_set, List.length_replicate, List.length_range, List.length_zipIdx, List.length_zip]); omega)) only [kVal_s, hold_c, kNx_c, kRt_c, kRtN_c, kAsg_c, kAsgF_c, kPar_c, kParF_c, kParF2_c, kExp_c, kFor_c, kIf_t, kIf_f, kIfV_t, kIfV_f, kOrT_t, kOrT_f, kAndT_t, kAndT_f, kNotT_c, kAnd_t, kAnd_f, kOr_t, kOr_f, kNot_b, kTest_b, kBin_c, kBin2_c, kUn_c, kChain_t, kChain_f, kCh1_c, kCh2_c, kRet_d, kRet_n, kRetN_n, kSome_i, kSlot_d, kDc_c, kDc2_c, kLst_c, kLen_c, kTup_c, kCB_c, kIsa_c, kSl1_c, kSl2_c, kSl3_c, kRtO_c, kOm_c, kOm2_c, kOm3_c, kSo_c, kSo2_c, kSo3_c, kOi_c, kOi2_c, kSeq_c, kEnum_c, kEnum2_c, kZip_c, kZip2_c, kZip3_c, kZip4_c, kRg1_c, kRg2_c, kRg2b_c, kRgD_c, kRgDb_c, kCall_c, kCallN_c, kAc_c, kAc2_c, kBag_b, kComp_c, kRev_c, kGc_c, kFl_c, compT_c, kCt_c, kCt2_t, kCt2_f, fnS_c, ssSeq_c, ssRet_c, ssRetF_c, ssRetOwn_c, ssRetN_c, ssAsg_c, ssAsgF_c, ssPar_c, ssParF_c, ssIf_c, ssExpr_c, ssNil_c, ssPass_c, ssBreak_c, ssCont_c, ssFor_c, ssFreeze_c, ssOwnM_c, sVar_c, sC_c, sBin_c, sUn_c, sTest_c, sNotT_c, sAndT_c, sOrT_c, sBorT_c, sAndV_c, sOrV_c, sNotV_c, sIf_c, sChain_c, stYes_c, sdNil_c, sdCons_c, sLst_c, sLen_c, sTup_c, sCallB_c, sCallL_c, sIsa_c, sSlice_c, soNone_c, soSome_c, sgName_c, sgOwn_c, sOwnIx_c, siSeq_c, siEnum_c, siZip_c, siRange1_c, siRange2_c, siRangeD_c, slR1_c, slR2_c, sCall_c, sCallN_c, saNil_c, saCons_c, saBag_c, sComp_c, sRevL_c, sgTup_t, sgCons_c, sgNil_n, freezeSl, setUn, Slot.inner, List.map_cons, List.map_nil, List.replicate, List.cons_append, List.nil_append, List.append_nil, List.getElem?_cons_zero, List.getElem?_cons_succ, List.set_cons_zero, List.set_cons_succ, List.length_cons, List.length_nil, and_assoc, Option.some.injEq, PyData.list.injEq, PyData.tuple.injEq, toL_n, Nat.sub_self, Nat.zero_add, Nat.reduceAdd, Nat.reduceSub, true_and, and_true, addD_ii, subD_ii, ltD_ii, leD_ii, gtD_ii, geD_ii, negD_i, mulD_i, fdivD_i, modD_i, itemsD_l, itemsD_t, tupleB_l, tupleB_t, listB_l, listB_t, lenB_l, lenB_t, intB_i, intB_b, fold2_i, appendM_1, ixN_len, reduceCtorEq, reduceIte, Bool.and_self, Bool.true_and, Bool.false_and, Bool.and_true, Bool.and_false, Bool.not_true, Bool.not_false, PyData.isTuple, PyData.isInt, PyData.isBool, PyData.isList, PyData.isStr, isBLT]
    unfold shortGo at h1 h2
    by_cases e : f + p.1 < r * ((c : Int) + 1) * ((c : Int) + 1 + 1) / 2
    · rw [if_pos e] at h1
      rw [decide_eq_true e]
      simp -implicitDefEqProofs (disch := ((try simp only [List.length_map, List.length_append, List.length_cons, List.length_nil, List.length_take, List.length_drop, List.length_set, List.length_replicate, List.length_range, List.length_zipIdx, List.length_zip]); omega)) only [kVal_s, hold_c, kNx_c, kRt_c, kRtN_c, kAsg_c, kAsgF_c, kPar_c, kParF_c, kParF2_c, kExp_c, kFor_c, kIf_t, kIf_f, kIfV_t, kIfV_f, kOrT_t, kOrT_f, kAndT_t, kAndT_f, kNotT_c, kAnd_t, kAnd_f, kOr_t, kOr_f, kNot_b, kTest_b, kBin_c, kBin2_c, kUn_c, kChain_t, kChain_f, kCh1_c, kCh2_c, kRet_d, kRet_n, kRetN_n, kSome_i, kSlot_d, kDc_c, kDc2_c, kLst_c, kLen_c, kTup_c, kCB_c, kIsa_c, kSl1_c, kSl2_c, kSl3_c, kRtO_c, kOm_c, kOm2_c, kOm3_c, kSo_c, kSo2_c, kSo3_c, kOi_c, kOi2_c, kSeq_c, kEnum_c, kEnum2_c, kZip_c, kZip2_c, kZip3_c, kZip4_c, kRg1_c, kRg2_c, kRg2b_c, kRgD_c, kRgDb_c, kCall_c, kCallN_c, kAc_c, kAc2_c, kBag_b, kComp_c, kRev_c, kGc_c, kFl_c, compT_c, kCt_c, kCt2_t, kCt2_f, fnS_c, ssSeq_c, ssRet_c, ssRetF_c, ssRetOwn_c, ssRetN_c, ssAsg_c, ssAsgF_c, ssPar_c, ssParF_c, ssIf_c, ssExpr_c, ssNil_c, ssPass_c, ssBreak_c, ssCont_c, ssFor_c, ssFreeze_c, ssOwnM_c, sVar_c, sC_c, sBin_c, sUn_c, sTest_c, sNotT_c, sAndT_c, sOrT_c, sBorT_c, sAndV_c, sOrV_c, sNotV_c, sIf_c, sChain_c, stYes_c, sdNil_c, sdCons_c, sLst_c, sLen_c, sTup_c, sCallB_c, sCallL_c, sIsa_c, sSlice_c, soNone_c, soSome_c, sgName_c, sgOwn_c, sOwnIx_c, siSeq_c, siEnum_c, siZip_c, siRange1_c, siRange2_c, siRangeD_c, slR1_c, slR2_c, sCall_c, sCallN_c, saNil_c, saCons_c, saBag_c, sComp_c, sRevL_c, sgTup_t, sgCons_c, sgNil_n, freezeSl, setUn, Slot.inner, List.map_cons, List.map_nil, List.replicate, List.cons_append, List.nil_append, List.append_nil, List.getElem?_cons_zero, List.getElem?_cons_succ, List.set_cons_zero, List.set_cons_succ, List.length_cons, List.length_nil, and_assoc, Option.some.injEq, PyData.list.injEq, PyData.tuple.injEq, toL_n, Nat.sub_self, Nat.zero_add, Nat.reduceAdd, Nat.reduceSub, true_and, and_true, addD_ii, subD_ii, ltD_ii, leD_ii, gtD_ii, geD_ii, negD_i, mulD_i, fdivD_i, modD_i, itemsD_l, itemsD_t, tupleB_l, tupleB_t, listB_l, listB_t, lenB_l, lenB_t, intB_i, intB_b, fold2_i, appendM_1, ixN_len, reduceCtorEq, reduceIte, Bool.and_self, Bool.true_and, Bool.false_and, Bool.and_true, Bool.and_false, Bool.not_true, Bool.not_false, PyData.isTuple, PyData.isInt, PyData.isBool, PyData.isList, PyData.isStr, isBLT, slice_lt]
      refine ⟨Nat.le_trans (by rw [List.length_take, List.length_map]; exact Nat.min_le_right _ _) (Nat.le_trans hord (by decide)), ?_⟩
      rw [show ((c : Int) + 1).toNat = c + 1 by omega, ← List.map_take]
      refine compL_map pI (fun p => .int p.2) _ _ (fun q hq K N hk => ?_) ?_
      · simp -implicitDefEqProofs (disch := ((try simp only [List.length_map, List.length_append, List.length_cons, List.length_nil, List.length_take, List.length_drop, List.length_set, List.length_replicate, List.length_range, List.length_zipIdx, List.length_zip]); omega)) only [kVal_s, hold_c, kNx_c, kRt_c, kRtN_c, kAsg_c, kAsgF_c, kPar_c, kParF_c, kParF2_c, kExp_c, kFor_c, kIf_t, kIf_f, kIfV_t, kIfV_f, kOrT_t, kOrT_f, kAndT_t, kAndT_f, kNotT_c, kAnd_t, kAnd_f, kOr_t, kOr_f, kNot_b, kTest_b, kBin_c, kBin2_c, kUn_c, kChain_t, kChain_f, kCh1_c, kCh2_c, kRet_d, kRet_n, kRetN_n, kSome_i, kSlot_d, kDc_c, kDc2_c, kLst_c, kLen_c, kTup_c, kCB_c, kIsa_c, kSl1_c, kSl2_c, kSl3_c, kRtO_c, kOm_c, kOm2_c, kOm3_c, kSo_c, kSo2_c, kSo3_c, kOi_c, kOi2_c, kSeq_c, kEnum_c, kEnum2_c, kZip_c, kZip2_c, kZip3_c, kZip4_c, kRg1_c, kRg2_c, kRg2b_c, kRgD_c, kRgDb_c, kCall_c, kCallN_c, kAc_c, kAc2_c, kBag_b, kComp_c, kRev_c, kGc_c, kFl_c, compT_c, kCt_c, kCt2_t, kCt2_f, fnS_c, ssSeq_c, ssRet_c, ssRetF_c, ssRetOwn_c, ssRetN_c, ssAsg_c, ssAsgF_c, ssPar_c, ssParF_c, ssIf_c, ssExpr_c, ssNil_c, ssPass_c, ssBreak_c, ssCont_c, ssFor_c, ssFreeze_c, ssOwnM_c, sVar_c, sC_c, sBin_c, sUn_c, sTest_c, sNotT_c, sAndT_c, sOrT_c, sBorT_c, sAndV_c, sOrV_c, sNotV_c, sIf_c, sChain_c, stYes_c, sdNil_c, sdCons_c, sLst_c, sLen_c, sTup_c, sCallB_c, sCallL_c, sIsa_c, sSlice_c, soNone_c, soSome_c, sgName_c, sgOwn_c, sOwnIx_c, siSeq_c, siEnum_c, siZip_c, siRange1_c, siRange2_c, siRangeD_c, slR1_c, slR2_c, sCall_c, sCallN_c, saNil_c, saCons_c, saBag_c, sComp_c, sRevL_c, sgTup_t, sgCons_c, sgNil_n, freezeSl, setUn, Slot.inner, List.map_cons, List.map_nil, List.replicate, List.cons_append, List.nil_append, List.append_nil, List.getElem?_cons_zero, List.getElem?_cons_succ, List.set_cons_zero, List.set_cons_succ, List.length_cons, List.length_nil, and_assoc, Option.some.injEq, PyData.list.injEq, PyData.tuple.injEq, toL_n, Nat.sub_self, Nat.zero_add, Nat.reduceAdd, Nat.reduceSub, true_and, and_true, addD_ii, subD_ii, ltD_ii, leD_ii, gtD_ii, geD_ii, negD_i, mulD_i, fdivD_i, modD_i, itemsD_l, itemsD_t, tupleB_l, tupleB_t, listB_l, listB_t, lenB_l, lenB_t, intB_i, intB_b, fold2_i, appendM_1, ixN_len, reduceCtorEq, reduceIte, Bool.and_self, Bool.true_and, Bool.false_and, Bool.and_true, Bool.and_false, Bool.not_true, Bool.not_false, PyData.isTuple, PyData.isInt, PyData.isBool, PyData.isList, PyData.isStr, isBLT, pI]
        exact hk
      · rw [show ((ord.take (c + 1)).map fun p => PyData.int p.2) = ((ord.take (c + 1)).map (·.2)).map PyData.int by rw [List.map_map]; rfl]
        simp -implicitDefEqProofs (disch := ((try simp only [List.length_map, List.length_append, List.length_cons, List.length_nil, List.length_take, List.length_drop, List.length_set, List.length_replicate, List.length_range, List.length_zipIdx, List.length_zip]); omega)) only [kVal_s, hold_c, kNx_c, kRt_c, kRtN_c, kAsg_c, kAsgF_c, kPar_c, kParF_c, kParF2_c, kExp_c, kFor_c, kIf_t, kIf_f, kIfV_t, kIfV_f, kOrT_t, kOrT_f, kAndT_t, kAndT_f, kNotT_c, kAnd_t, kAnd_f, kOr_t, kOr_f, kNot_b, kTest_b, kBin_c, kBin2_c, kUn_c, kChain_t, kChain_f, kCh1_c, kCh2_c, kRet_d, kRet_n, kRetN_n, kSome_i, kSlot_d, kDc_c, kDc2_c, kLst_c, kLen_c, kTup_c, kCB_c, kIsa_c, kSl1_c, kSl2_c, kSl3_c, kRtO_c, kOm_c, kOm2_c, kOm3_c, kSo_c, kSo2_c, kSo3_c, kOi_c, kOi2_c, kSeq_c, kEnum_c, kEnum2_c, kZip_c, kZip2_c, kZip3_c, kZip4_c, kRg1_c, kRg2_c, kRg2b_c, kRgD_c, kRgDb_c, kCall_c, kCallN_c, kAc_c, kAc2_c, kBag_b, kComp_c, kRev_c, kGc_c, kFl_c, compT_c, kCt_c, kCt2_t, kCt2_f, fnS_c, ssSeq_c, ssRet_c, ssRetF_c, ssRetOwn_c, ssRetN_c, ssAsg_c, ssAsgF_c, ssPar_c, ssParF_c, ssIf_c, ssExpr_c, ssNil_c, ssPass_c, ssBreak_c, ssCont_c, ssFor_c, ssFreeze_c, ssOwnM_c, sVar_c, sC_c, sBin_c, sUn_c, sTest_c, sNotT_c, sAndT_c, sOrT_c, sBorT_c, sAndV_c, sOrV_c, sNotV_c, sIf_c, sChain_c, stYes_c, sdNil_c, sdCons_c, sLst_c, sLen_c, sTup_c, sCallB_c, sCallL_c, sIsa_c, sSlice_c, soNone_c, soSome_c, sgName_c, sgOwn_c, sOwnIx_c, siSeq_c, siEnum_c, siZip_c, siRange1_c, siRange2_c, siRangeD_c, slR1_c, slR2_c, sCall_c, sCallN_c, saNil_c, saCons_c, saBag_c, sComp_c, sRevL_c, sgTup_t, sgCons_c, sgNil_n, freezeSl, setUn, Slot.inner, List.map_cons, List.map_nil, List.replicate, List.cons_append, List.nil_append, List.append_nil, List.getElem?_cons_zero, List.getElem?_cons_succ, List.set_cons_zero, List.set_cons_succ, List.length_cons, List.length_nil, and_assoc, Option.some.injEq, PyData.list.injEq, PyData.tuple.injEq, toL_n, Nat.sub_self, Nat.zero_add, Nat.reduceAdd, Nat.reduceSub, true_and, and_true, addD_ii, subD_ii, ltD_ii, leD_ii, gtD_ii, geD_ii, negD_i, mulD_i, fdivD_i, modD_i, itemsD_l, itemsD_t, tupleB_l, tupleB_t, listB_l, listB_t, lenB_l, lenB_t, intB_i, intB_b, fold2_i, appendM_1, ixN_len, reduceCtorEq, reduceIte, Bool.and_self, Bool.true_and, Bool.false_and, Bool.and_true, Bool.and_false, Bool.not_true, Bool.not_false, PyData.isTuple, PyData.isInt, PyData.isBool, PyData.isList, PyData.isStr, isBLT, sortB_lI]
        exact h1 _ rfl
    · rw [if_neg e] at h1 h2
      rw [decide_eq_false e]
      simp -implicitDefEqProofs (disch := ((try simp only [List.length_map, List.length_append, List.length_cons, List.length_nil, List.length_take, List.length_drop, List.length_set, List.length_replicate, List.length_range, List.length_zipIdx, List.length_zip]); omega)) only [kVal_s, hold_c, kNx_c, kRt_c, kRtN_c, kAsg_c, kAsgF_c, kPar_c, kParF_c, kParF2_c, kExp_c, kFor_c, kIf_t, kIf_f, kIfV_t, kIfV_f, kOrT_t, kOrT_f, kAndT_t, kAndT_f, kNotT_c, kAnd_t, kAnd_f, kOr_t, kOr_f, kNot_b, kTest_b, kBin_c, kBin2_c, kUn_c, kChain_t, kChain_f, kCh1_c, kCh2_c, kRet_d, kRet_n, kRetN_n, kSome_i, kSlot_d, kDc_c, kDc2_c, kLst_c, kLen_c, kTup_c, kCB_c, kIsa_c, kSl1_c, kSl2_c, kSl3_c, kRtO_c, kOm_c, kOm2_c, kOm3_c, kSo_c, kSo2_c, kSo3_c, kOi_c, kOi2_c, kSeq_c, kEnum_c, kEnum2_c, kZip_c, kZip2_c, kZip3_c, kZip4_c, kRg1_c, kRg2_c, kRg2b_c, kRgD_c, kRgDb_c, kCall_c, kCallN_c, kAc_c, kAc2_c, kBag_b, kComp_c, kRev_c, kGc_c, kFl_c, compT_c, kCt_c, kCt2_t, kCt2_f, fnS_c, ssSeq_c, ssRet_c, ssRetF_c, ssRetOwn_c, ssRetN_c, ssAsg_c, ssAsgF_c, ssPar_c, ssParF_c, ssIf_c, ssExpr_c, ssNil_c, ssPass_c, ssBreak_c, ssCont_c, ssFor_c, ssFreeze_c, ssOwnM_c, sVar_c, sC_c, sBin_c, sUn_c, sTest_c, sNotT_c, sAndT_c, sOrT_c, sBorT_c, sAndV_c, sOrV_c, sNotV_c, sIf_c, sChain_c, stYes_c, sdNil_c, sdCons_c, sLst_c, sLen_c, sTup_c, sCallB_c, sCallL_c, sIsa_c, sSlice_c, soNone_c, soSome_c, sgName_c, sgOwn_c, sOwnIx_c, siSeq_c, siEnum_c, siZip_c, siRange1_c, siRange2_c, siRangeD_c, slR1_c, slR2_c, sCall_c, sCallN_c, saNil_c, saCons_c, saBag_c, sComp_c, sRevL_c, sgTup_t, sgCons_c, sgNil_n, freezeSl, setUn, Slot.inner, List.map_cons, List.map_nil, List.replicate, List.cons_append, List.nil_append, List.append_nil, List.getElem?_cons_zero, List.getElem?_cons_succ, List.set_cons_zero, List.set_cons_succ, List.length_cons, List.length_nil, and_assoc, Option.some.injEq, PyData.list.injEq, PyData.tuple.injEq, toL_n, Nat.sub_self, Nat.zero_add, Nat.reduceAdd, Nat.reduceSub, true_and, and_true, addD_ii, subD_ii, ltD_ii, leD_ii, gtD_ii, geD_ii, negD_i, mulD_i, fdivD_i, modD_i, itemsD_l, itemsD_t, tupleB_l, tupleB_t, listB_l, listB_t, lenB_l, lenB_t, intB_i, intB_b, fold2_i, appendM_1, ixN_len, reduceCtorEq, reduceIte, Bool.and_self, Bool.true_and, Bool.false_and, Bool.and_true, Bool.and_false, Bool.not_true, Bool.not_false, PyData.isTuple, PyData.isInt, PyData.isBool, PyData.isList, PyData.isStr, isBLT]
      exact lp_short hord ps (c + 1) (f + p.1) _ _ _ (by omega) h1 h2
theorem sp_short_set {rs : List Int} {r : Int} {m F R} (hl : rs.length ≤ 100) (h : R (.dat (optT (shortSet rs r))) m) : m_short_set [.dat (tI rs), .dat (.int r)] m F R := by
  simp -implicitDefEqProofs (disch := ((try simp only [List.length_map, List.length_append, List.length_cons, List.length_nil, List.length_take, List.length_drop, List.length_set, List.length_replicate, List.length_range, List.length_zipIdx, List.length_zip]); omega)) only [kVal_s, hold_c, kNx_c, kRt_c, kRtN_c, kAsg_c, kAsgF_c, kPar_c, kParF_c, kParF2_c, kExp_c, kFor_c, kIf_t, kIf_f, kIfV_t, kIfV_f, kOrT_t, kOrT_f, kAndT_t, kAndT_f, kNotT_c, kAnd_t, kAnd_f, kOr_t, kOr_f, kNot_b, kTest_b, kBin_c, kBin2_c, kUn_c, kChain_t, kChain_f, kCh1_c, kCh2_c, kRet_d, kRet_n, kRetN_n, kSome_i, kSlot_d, kDc_c, kDc2_c, kLst_c, kLen_c, kTup_c, kCB_c, kIsa_c, kSl1_c, kSl2_c, kSl3_c, kRtO_c, kOm_c, kOm2_c, kOm3_c, kSo_c, kSo2_c, kSo3_c, kOi_c, kOi2_c, kSeq_c, kEnum_c, kEnum2_c, kZip_c, kZip2_c, kZip3_c, kZip4_c, kRg1_c, kRg2_c, kRg2b_c, kRgD_c, kRgDb_c, kCall_c, kCallN_c, kAc_c, kAc2_c, kBag_b, kComp_c, kRev_c, kGc_c, kFl_c, compT_c, kCt_c, kCt2_t, kCt2_f, fnS_c, ssSeq_c, ssRet_c, ssRetF_c, ssRetOwn_c, ssRetN_c, ssAsg_c, ssAsgF_c, ssPar_c, ssParF_c, ssIf_c, ssExpr_c, ssNil_c, ssPass_c, ssBreak_c, ssCont_c, ssFor_c, ssFreeze_c, ssOwnM_c, sVar_c, sC_c, sBin_c, sUn_c, sTest_c, sNotT_c, sAndT_c, sOrT_c, sBorT_c, sAndV_c, sOrV_c, sNotV_c, sIf_c, sChain_c, stYes_c, sdNil_c, sdCons_c, sLst_c, sLen_c, sTup_c, sCallB_c, sCallL_c, sIsa_c, sSlice_c, soNone_c, soSome_c, sgName_c, sgOwn_c, sOwnIx_c, siSeq_c, siEnum_c, siZip_c, siRange1_c, siRange2_c, siRangeD_c, slR1_c, slR2_c, sCall_c, sCallN_c, saNil_c, saCons_c, saBag_c, sComp_c, sRevL_c, sgTup_t, sgCons_c, sgNil_n, freezeSl, setUn, Slot.inner, List.map_cons, List.map_nil, List.replicate, List.cons_append, List.nil_append, List.append_nil, List.getElem?_cons_zero, List.getElem?_cons_succ, List.set_cons_zero, List.set_cons_succ, List.length_cons, List.length_nil, and_assoc, Option.some.injEq, PyData.list.injEq, PyData.tuple.injEq, toL_n, Nat.sub_self, Nat.zero_add, Nat.reduceAdd, Nat.reduceSub, true_and, and_true, addD_ii, subD_ii, ltD_ii, leD_ii, gtD_ii, geD_ii, negD_i, mulD_i, fdivD_i, modD_i, itemsD_l, itemsD_t, tupleB_l, tupleB_t, listB_l, listB_t, lenB_l, lenB_t, intB_i, intB_b, fold2_i, appendM_1, ixN_len, reduceCtorEq, reduceIte, Bool.and_self, Bool.true_and, Bool.false_and, Bool.and_true, Bool.and_false, Bool.not_true, Bool.not_false, PyData.isTuple, PyData.isInt, PyData.isBool, PyData.isList, PyData.isStr, isBLT, m_short_set, b_short_set, tI]
  rw [enumD_enc]
  refine ⟨Nat.le_trans (by rw [List.length_map, List.length_zipIdx]; exact hl) (by decide), ?_⟩
  refine compL_map (fun p : Int × Nat => .tuple [.int (p.2 : Int), .int p.1]) (fun p => pI (p.1, (p.2 : Int))) _ _ (fun q hq K N hk => ?_) ?_
  · simp -implicitDefEqProofs (disch := ((try simp only [List.length_map, List.length_append, List.length_cons, List.length_nil, List.length_take, List.length_drop, List.length_set, List.length_replicate, List.length_range, List.length_zipIdx, List.length_zip]); omega)) only [kVal_s, hold_c, kNx_c, kRt_c, kRtN_c, kAsg_c, kAsgF_c, kPar_c, kParF_c, kParF2_c, kExp_c, kFor_c, kIf_t, kIf_f, kIfV_t, kIfV_f, kOrT_t, kOrT_f, kAndT_t, kAndT_f, kNotT_c, kAnd_t, kAnd_f, kOr_t, kOr_f, kNot_b, kTest_b, kBin_c, kBin2_c, kUn_c, kChain_t, kChain_f, kCh1_c, kCh2_c, kRet_d, kRet_n, kRetN_n, kSome_i, kSlot_d, kDc_c, kDc2_c, kLst_c, kLen_c, kTup_c, kCB_c, kIsa_c, kSl1_c, kSl2_c, kSl3_c, kRtO_c, kOm_c, kOm2_c, kOm3_c, kSo_c, kSo2_c, kSo3_c, kOi_c, kOi2_c, kSeq_c, kEnum_c, kEnum2_c, kZip_c, kZip2_c, kZip3_c, kZip4_c, kRg1_c, kRg2_c, kRg2b_c, kRgD_c, kRgDb_c, kCall_c, kCallN_c, kAc_c, kAc2_c, kBag_b, kComp_c, kRev_c, kGc_c, kFl_c, compT_c, kCt_c, kCt2_t, kCt2_f, fnS_c, ssSeq_c, ssRet_c, ssRetF_c, ssRetOwn_c, ssRetN_c, ssAsg_c, ssAsgF_c, ssPar_c, ssParF_c, ssIf_c, ssExpr_c, ssNil_c, ssPass_c, ssBreak_c, ssCont_c, ssFor_c, ssFreeze_c, ssOwnM_c, sVar_c, sC_c, sBin_c, sUn_c, sTest_c, sNotT_c, sAndT_c, sOrT_c, sBorT_c, sAndV_c, sOrV_c, sNotV_c, sIf_c, sChain_c, stYes_c, sdNil_c, sdCons_c, sLst_c, sLen_c, sTup_c, sCallB_c, sCallL_c, sIsa_c, sSlice_c, soNone_c, soSome_c, sgName_c, sgOwn_c, sOwnIx_c, siSeq_c, siEnum_c, siZip_c, siRange1_c, siRange2_c, siRangeD_c, slR1_c, slR2_c, sCall_c, sCallN_c, saNil_c, saCons_c, saBag_c, sComp_c, sRevL_c, sgTup_t, sgCons_c, sgNil_n, freezeSl, setUn, Slot.inner, List.map_cons, List.map_nil, List.replicate, List.cons_append, List.nil_append, List.append_nil, List.getElem?_cons_zero, List.getElem?_cons_succ, List.set_cons_zero, List.set_cons_succ, List.length_cons, List.length_nil, and_assoc, Option.some.injEq, PyData.list.injEq, PyData.tuple.injEq, toL_n, Nat.sub_self, Nat.zero_add, Nat.reduceAdd, Nat.reduceSub, true_and, and_true, addD_ii, subD_ii, ltD_ii, leD_ii, gtD_ii, geD_ii, negD_i, mulD_i, fdivD_i, modD_i, itemsD_l, itemsD_t, tupleB_l, tupleB_t, listB_l, listB_t, lenB_l, lenB_t, intB_i, intB_b, fold2_i, appendM_1, ixN_len, reduceCtorEq, reduceIte, Bool.and_self, Bool.true_and, Bool.false_and, Bool.and_true, Bool.and_false, Bool.not_true, Bool.not_false, PyData.isTuple, PyData.isInt, PyData.isBool, PyData.isList, PyData.isStr, isBLT, e1_short_set]
    exact ⟨by decide, hk⟩
  · have e : ((rs.zipIdx 0).map fun p => pI (p.1, (p.2 : Int))) = (numbered rs).map pI := by
      unfold numbered
      rw [List.map_map]
      rfl
    have hlen : (ordP rs).length = rs.length := by
      rw [ordP, (sortP_perm _).length_eq, numbered, List.length_map, List.length_zipIdx]
    rw [e]
    simp -implicitDefEqProofs (disch := ((try simp only [List.length_map, List.length_append, List.length_cons, List.length_nil, List.length_take, List.length_drop, List.length_set, List.length_replicate, List.length_range, List.length_zipIdx, List.length_zip]); omega)) only [kVal_s, hold_c, kNx_c, kRt_c, kRtN_c, kAsg_c, kAsgF_c, kPar_c, kParF_c, kParF2_c, kExp_c, kFor_c, kIf_t, kIf_f, kIfV_t, kIfV_f, kOrT_t, kOrT_f, kAndT_t, kAndT_f, kNotT_c, kAnd_t, kAnd_f, kOr_t, kOr_f, kNot_b, kTest_b, kBin_c, kBin2_c, kUn_c, kChain_t, kChain_f, kCh1_c, kCh2_c, kRet_d, kRet_n, kRetN_n, kSome_i, kSlot_d, kDc_c, kDc2_c, kLst_c, kLen_c, kTup_c, kCB_c, kIsa_c, kSl1_c, kSl2_c, kSl3_c, kRtO_c, kOm_c, kOm2_c, kOm3_c, kSo_c, kSo2_c, kSo3_c, kOi_c, kOi2_c, kSeq_c, kEnum_c, kEnum2_c, kZip_c, kZip2_c, kZip3_c, kZip4_c, kRg1_c, kRg2_c, kRg2b_c, kRgD_c, kRgDb_c, kCall_c, kCallN_c, kAc_c, kAc2_c, kBag_b, kComp_c, kRev_c, kGc_c, kFl_c, compT_c, kCt_c, kCt2_t, kCt2_f, fnS_c, ssSeq_c, ssRet_c, ssRetF_c, ssRetOwn_c, ssRetN_c, ssAsg_c, ssAsgF_c, ssPar_c, ssParF_c, ssIf_c, ssExpr_c, ssNil_c, ssPass_c, ssBreak_c, ssCont_c, ssFor_c, ssFreeze_c, ssOwnM_c, sVar_c, sC_c, sBin_c, sUn_c, sTest_c, sNotT_c, sAndT_c, sOrT_c, sBorT_c, sAndV_c, sOrV_c, sNotV_c, sIf_c, sChain_c, stYes_c, sdNil_c, sdCons_c, sLst_c, sLen_c, sTup_c, sCallB_c, sCallL_c, sIsa_c, sSlice_c, soNone_c, soSome_c, sgName_c, sgOwn_c, sOwnIx_c, siSeq_c, siEnum_c, siZip_c, siRange1_c, siRange2_c, siRangeD_c, slR1_c, slR2_c, sCall_c, sCallN_c, saNil_c, saCons_c, saBag_c, sComp_c, sRevL_c, sgTup_t, sgCons_c, sgNil_n, freezeSl, setUn, Slot.inner, List.map_cons, List.map_nil, List.replicate, List.cons_append, List.nil_append, List.append_nil, List.getElem?_cons_zero, List.getElem?_cons_succ, List.set_cons_zero, List.set_cons_succ, List.length_cons, List.length_nil, and_assoc, Option.some.injEq, PyData.list.injEq, PyData.tuple.injEq, toL_n, Nat.sub_self, Nat.zero_add, Nat.reduceAdd, Nat.reduceSub, true_and, and_true, addD_ii, subD_ii, ltD_ii, leD_ii, gtD_ii, geD_ii, negD_i, mulD_i, fdivD_i, modD_i, itemsD_l, itemsD_t, tupleB_l, tupleB_t, listB_l, listB_t, lenB_l, lenB_t, intB_i, intB_b, fold2_i, appendM_1, ixN_len, reduceCtorEq, reduceIte, Bool.and_self, Bool.true_and, Bool.false_and, Bool.and_true, Bool.and_false, Bool.not_true, Bool.not_false, PyData.isTuple, PyData.isInt, PyData.isBool, PyData.isList, PyData.isStr, isBLT, sortB_lP]
    refine lp_short (rs := rs) (by rw [← ordP, hlen]; omega) (sortP (numbered rs)) 0 0 _ _ _ (by rw [← ordP, hlen]; omega) (fun xs hx => ?_) fun hn x3 x4 f x6 => ?_
    · rw [show shortSet rs r = some xs from hx] at h
      exact h
    · simp -implicitDefEqProofs (disch := ((try simp only [List.length_map, List.length_append, List.length_cons, List.length_nil, List.length_take, List.length_drop, List.length_set, List.length_replicate, List.length_range, List.length_zipIdx, List.length_zip]); omega)) only [kVal_s, hold_c, kNx_c, kRt_c, kRtN_c, kAsg_c, kAsgF_c, kPar_c, kParF_c, kParF2_c, kExp_c, kFor_c, kIf_t, kIf_f, kIfV_t, kIfV_f, kOrT_t, kOrT_f, kAndT_t, kAndT_f, kNotT_c, kAnd_t, kAnd_f, kOr_t, kOr_f, kNot_b, kTest_b, kBin_c, kBin2_c, kUn_c, kChain_t, kChain_f, kCh1_c, kCh2_c, kRet_d, kRet_n, kRetN_n, kSome_i, kSlot_d, kDc_c, kDc2_c, kLst_c, kLen_c, kTup_c, kCB_c, kIsa_c, kSl1_c, kSl2_c, kSl3_c, kRtO_c, kOm_c, kOm2_c, kOm3_c, kSo_c, kSo2_c, kSo3_c, kOi_c, kOi2_c, kSeq_c, kEnum_c, kEnum2_c, kZip_c, kZip2_c, kZip3_c, kZip4_c, kRg1_c, kRg2_c, kRg2b_c, kRgD_c, kRgDb_c, kCall_c, kCallN_c, kAc_c, kAc2_c, kBag_b, kComp_c, kRev_c, kGc_c, kFl_c, compT_c, kCt_c, kCt2_t, kCt2_f, fnS_c, ssSeq_c, ssRet_c, ssRetF_c, ssRetOwn_c, ssRetN_c, ssAsg_c, ssAsgF_c, ssPar_c, ssParF_c, ssIf_c, ssExpr_c, ssNil_c, ssPass_c, ssBreak_c, ssCont_c, ssFor_c, ssFreeze_c, ssOwnM_c, sVar_c, sC_c, sBin_c, sUn_c, sTest_c, sNotT_c, sAndT_c, sOrT_c, sBorT_c, sAndV_c, sOrV_c, sNotV_c, sIf_c, sChain_c, stYes_c, sdNil_c, sdCons_c, sLst_c, sLen_c, sTup_c, sCallB_c, sCallL_c, sIsa_c, sSlice_c, soNone_c, soSome_c, sgName_c, sgOwn_c, sOwnIx_c, siSeq_c, siEnum_c, siZip_c, siRange1_c, siRange2_c, siRangeD_c, slR1_c, slR2_c, sCall_c, sCallN_c, saNil_c, saCons_c, saBag_c, sComp_c, sRevL_c, sgTup_t, sgCons_c, sgNil_n, freezeSl, setUn, Slot.inner, List.map_cons, List.map_nil, List.replicate, List.cons_append, List.nil_append, List.append_nil, List.getElem?_cons_zero, List.getElem?_cons_succ, List.set_cons_zero, List.set_cons_succ, List.length_cons, List.length_nil, and_assoc, Option.some.injEq, PyData.list.injEq, PyData.tuple.injEq, toL_n, Nat.sub_self, Nat.zero_add, Nat.reduceAdd, Nat.reduceSub, true_and, and_true, addD_ii, subD_ii, ltD_ii, leD_ii, gtD_ii, geD_ii, negD_i, mulD_i, fdivD_i, modD_i, itemsD_l, itemsD_t, tupleB_l, tupleB_t, listB_l, listB_t, lenB_l, lenB_t, intB_i, intB_b, fold2_i, appendM_1, ixN_len, reduceCtorEq, reduceIte, Bool.and_self, Bool.true_and, Bool.false_and, Bool.and_true, Bool.and_false, Bool.not_true, Bool.not_false, PyData.isTuple, PyData.isInt, PyData.isBool, PyData.isList, PyData.isStr, isBLT]
      rw [show shortSet rs r = none from hn] at h
      exact h
end PT
set_option maxHeartbeats 1000000
namespace PT
open PySem PySem.Spec PyProof.Rows L2 DL
theorem sp_shortage {rs : List Int} {r : Int} {m F R} (hr : okTot rs) (h8 : 1 ≤ r ∧ r ≤ 8) (h : R (.dat (optT (shortSet rs r))) m) : m_shortage [.dat (tI rs), .dat (.int r)] m F R := by
  have := hr.1
  simp -implicitDefEqProofs (disch := ((try simp only [List.length_map, List.length_append, List.length_cons, List.length_nil, List.length_take, List.length_drop, List.length_set, List.length_replicate, List.length_range, List.length_zipIdx, List.length_zip]); omega)) only [kVal_s, hold_c, kNx_c, kRt_c, kRtN_c, kAsg_c, kAsgF_c, kPar_c, kParF_c, kParF2_c, kExp_c, kFor_c, kIf_t, kIf_f, kIfV_t, kIfV_f, kOrT_t, kOrT_f, kAndT_t, kAndT_f, kNotT_c, kAnd_t, kAnd_f, kOr_t, kOr_f, kNot_b, kTest_b, kBin_c, kBin2_c, kUn_c, kChain_t, kChain_f, kCh1_c, kCh2_c, kRet_d, kRet_n, kRetN_n, kSome_i, kSlot_d, kDc_c, kDc2_c, kLst_c, kLen_c, kTup_c, kCB_c, kIsa_c, kSl1_c, kSl2_c, kSl3_c, kRtO_c, kOm_c, kOm2_c, kOm3_c, kSo_c, kSo2_c, kSo3_c, kOi_c, kOi2_c, kSeq_c, kEnum_c, kEnum2_c, kZip_c, kZip2_c, kZip3_c, kZip4_c, kRg1_c, kRg2_c, kRg2b_c, kRgD_c, kRgDb_c, kCall_c, kCallN_c, kAc_c, kAc2_c, kBag_b, kComp_c, kRev_c, kGc_c, kFl_c, compT_c, kCt_c, kCt2_t, kCt2_f, fnS_c, ssSeq_c, ssRet_c, ssRetF_c, ssRetOwn_c, ssRetN_c, ssAsg_c, ssAsgF_c, ssPar_c, ssParF_c, ssIf_c, ssExpr_c, ssNil_c, ssPass_c, ssBreak_c, ssCont_c, ssFor_c, ssFreeze_c, ssOwnM_c, sVar_c, sC_c, sBin_c, sUn_c, sTest_c, sNotT_c, sAndT_c, sOrT_c, sBorT_c, sAndV_c, sOrV_c, sNotV_c, sIf_c, sChain_c, stYes_c, sdNil_c, sdCons_c, sLst_c, sLen_c, sTup_c, sCallB_c, sCallL_c, sIsa_c, sSlice_c, soNone_c, soSome_c, sgName_c, sgOwn_c, sOwnIx_c, siSeq_c, siEnum_c, siZip_c, siRange1_c, siRange2_c, siRangeD_c, slR1_c, slR2_c, sCall_c, sCallN_c, saNil_c, saCons_c, saBag_c, sComp_c, sRevL_c, sgTup_t, sgCons_c, sgNil_n, freezeSl, setUn, Slot.inner, List.map_cons, List.map_nil, List.replicate, List.cons_append, List.nil_append, List.append_nil, List.getElem?_cons_zero, List.getElem?_cons_succ, List.set_cons_zero, List.set_cons_succ, List.length_cons, List.length_nil, and_assoc, Option.some.injEq, PyData.list.injEq, PyData.tuple.injEq, toL_n, Nat.sub_self, Nat.zero_add, Nat.reduceAdd, Nat.reduceSub, true_and, and_true, addD_ii, subD_ii, ltD_ii, leD_ii, gtD_ii, geD_ii, negD_i, mulD_i, fdivD_i, modD_i, itemsD_l, itemsD_t, tupleB_l, tupleB_t, listB_l, listB_t, lenB_l, lenB_t, intB_i, intB_b, fold2_i, appendM_1, ixN_len, reduceCtorEq, reduceIte, Bool.and_self, Bool.true_and, Bool.false_and, Bool.and_true, Bool.and_false, Bool.not_true, Bool.not_false, PyData.isTuple, PyData.isInt, PyData.isBool, PyData.isList, PyData.isStr, isBLT, m_shortage, b_shortage]
  refine sp_check_totals hr ?_
  simp -implicitDefEqProofs (disch := ((try simp only [List.length_map, List.length_append, List.length_cons, List.length_nil, List.length_take, List.length_drop, List.length_set, List.length_replicate, List.length_range, List.length_zipIdx, List.length_zip]); omega)) only [kVal_s, hold_c, kNx_c, kRt_c, kRtN_c, kAsg_c, kAsgF_c, kPar_c, kParF_c, kParF2_c, kExp_c, kFor_c, kIf_t, kIf_f, kIfV_t, kIfV_f, kOrT_t, kOrT_f, kAndT_t, kAndT_f, kNotT_c, kAnd_t, kAnd_f, kOr_t, kOr_f, kNot_b, kTest_b, kBin_c, kBin2_c, kUn_c, kChain_t, kChain_f, kCh1_c, kCh2_c, kRet_d, kRet_n, kRetN_n, kSome_i, kSlot_d, kDc_c, kDc2_c, kLst_c, kLen_c, kTup_c, kCB_c, kIsa_c, kSl1_c, kSl2_c, kSl3_c, kRtO_c, kOm_c, kOm2_c, kOm3_c, kSo_c, kSo2_c, kSo3_c, kOi_c, kOi2_c, kSeq_c, kEnum_c, kEnum2_c, kZip_c, kZip2_c, kZip3_c, kZip4_c, kRg1_c, kRg2_c, kRg2b_c, kRgD_c, kRgDb_c, kCall_c, kCallN_c, kAc_c, kAc2_c, kBag_b, kComp_c, kRev_c, kGc_c, kFl_c, compT_c, kCt_c, kCt2_t, kCt2_f, fnS_c, ssSeq_c, ssRet_c, ssRetF_c, ssRetOwn_c, ssRetN_c, ssAsg_c, ssAsgF_c, ssPar_c, ssParF_c, ssIf_c, ssExpr_c, ssNil_c, ssPass_c, ssBreak_c, ssCont_c, ssFor_c, ssFreeze_c, ssOwnM_c, sVar_c, sC_c, sBin_c, sUn_c, sTest_c, sNotT_c, sAndT_c, sOrT_c, sBorT_c, sAndV_c, sOrV_c, sNotV_c, sIf_c, sChain_c, stYes_c, sdNil_c, sdCons_c, sLst_c, sLen_c, sTup_c, sCallB_c, sCallL_c, sIsa_c, sSlice_c, soNone_c, soSome_c, sgName_c, sgOwn_c, sOwnIx_c, siSeq_c, siEnum_c, siZip_c, siRange1_c, siRange2_c, siRangeD_c, slR1_c, slR2_c, sCall_c, sCallN_c, saNil_c, saCons_c, saBag_c, sComp_c, sRevL_c, sgTup_t, sgCons_c, sgNil_n, freezeSl, setUn, Slot.inner, List.map_cons, List.map_nil, List.replicate, List.cons_append, List.nil_append, List.append_nil, List.getElem?_cons_zero, List.getElem?_cons_succ, List.set_cons_zero, List.set_cons_succ, List.length_cons, List.length_nil, and_assoc, Option.some.injEq, PyData.list.injEq, PyData.tuple.injEq, toL_n, Nat.sub_self, Nat.zero_add, Nat.reduceAdd, Nat.reduceSub, true_and, and_true, addD_ii, subD_ii, ltD_ii, leD_ii, gtD_ii, geD_ii, negD_i, mulD_i, fdivD_i, modD_i, itemsD_l, itemsD_t, tupleB_l, tupleB_t, listB_l, listB_t, lenB_l, lenB_t, intB_i, intB_b, fold2_i, appendM_1, ixN_len, reduceCtorEq, reduceIte, Bool.and_self, Bool.true_and, Bool.false_and, Bool.and_true, Bool.and_false, Bool.not_true, Bool.not_false, PyData.isTuple, PyData.isInt, PyData.isBool, PyData.isList, PyData.isStr, isBLT]
  refine sp_check_number h8 ?_
  simp -implicitDefEqProofs (disch := ((try simp only [List.length_map, List.length_append, List.length_cons, List.length_nil, List.length_take, List.length_drop, List.length_set, List.length_replicate, List.length_range, List.length_zipIdx, List.length_zip]); omega)) only [kVal_s, hold_c, kNx_c, kRt_c, kRtN_c, kAsg_c, kAsgF_c, kPar_c, kParF_c, kParF2_c, kExp_c, kFor_c, kIf_t, kIf_f, kIfV_t, kIfV_f, kOrT_t, kOrT_f, kAndT_t, kAndT_f, kNotT_c, kAnd_t, kAnd_f, kOr_t, kOr_f, kNot_b, kTest_b, kBin_c, kBin2_c, kUn_c, kChain_t, kChain_f, kCh1_c, kCh2_c, kRet_d, kRet_n, kRetN_n, kSome_i, kSlot_d, kDc_c, kDc2_c, kLst_c, kLen_c, kTup_c, kCB_c, kIsa_c, kSl1_c, kSl2_c, kSl3_c, kRtO_c, kOm_c, kOm2_c, kOm3_c, kSo_c, kSo2_c, kSo3_c, kOi_c, kOi2_c, kSeq_c, kEnum_c, kEnum2_c, kZip_c, kZip2_c, kZip3_c, kZip4_c, kRg1_c, kRg2_c, kRg2b_c, kRgD_c, kRgDb_c, kCall_c, kCallN_c, kAc_c, kAc2_c, kBag_b, kComp_c, kRev_c, kGc_c, kFl_c, compT_c, kCt_c, kCt2_t, kCt2_f, fnS_c, ssSeq_c, ssRet_c, ssRetF_c, ssRetOwn_c, ssRetN_c, ssAsg_c, ssAsgF_c, ssPar_c, ssParF_c, ssIf_c, ssExpr_c, ssNil_c, ssPass_c, ssBreak_c, ssCont_c, ssFor_c, ssFreeze_c, ssOwnM_c, sVar_c, sC_c, sBin_c, sUn_c, sTest_c, sNotT_c, sAndT_c, sOrT_c, sBorT_c, sAndV_c, sOrV_c, sNotV_c, sIf_c, sChain_c, stYes_c, sdNil_c, sdCons_c, sLst_c, sLen_c, sTup_c, sCallB_c, sCallL_c, sIsa_c, sSlice_c, soNone_c, soSome_c, sgName_c, sgOwn_c, sOwnIx_c, siSeq_c, siEnum_c, siZip_c, siRange1_c, siRange2_c, siRangeD_c, slR1_c, slR2_c, sCall_c, sCallN_c, saNil_c, saCons_c, saBag_c, sComp_c, sRevL_c, sgTup_t, sgCons_c, sgNil_n, freezeSl, setUn, Slot.inner, List.map_cons, List.map_nil, List.replicate, List.cons_append, List.nil_append, List.append_nil, List.getElem?_cons_zero, List.getElem?_cons_succ, List.set_cons_zero, List.set_cons_succ, List.length_cons, List.length_nil, and_assoc, Option.some.injEq, PyData.list.injEq, PyData.tuple.injEq, toL_n, Nat.sub_self, Nat.zero_add, Nat.reduceAdd, Nat.reduceSub, true_and, and_true, addD_ii, subD_ii, ltD_ii, leD_ii, gtD_ii, geD_ii, negD_i, mulD_i, fdivD_i, modD_i, itemsD_l, itemsD_t, tupleB_l, tupleB_t, listB_l, listB_t, lenB_l, lenB_t, intB_i, intB_b, fold2_i, appendM_1, ixN_len, reduceCtorEq, reduceIte, Bool.and_self, Bool.true_and, Bool.false_and, Bool.and_true, Bool.and_false, Bool.not_true, Bool.not_false, PyData.isTuple, PyData.isInt, PyData.isBool, PyData.isList, PyData.isStr, isBLT]
  refine sp_short_set (by omega) ?_
  simp -implicitDefEqProofs (disch := ((try simp only [List.length_map, List.length_append, List.length_cons, List.length_nil, List.length_take, List.length_drop, List.length_set, List.length_replicate, List.length_range, List.length_zipIdx, List.length_zip]); omega)) only [kVal_s, hold_c, kNx_c, kRt_c, kRtN_c, kAsg_c, kAsgF_c, kPar_c, kParF_c, kParF2_c, kExp_c, kFor_c, kIf_t, kIf_f, kIfV_t, kIfV_f, kOrT_t, kOrT_f, kAndT_t, kAndT_f, kNotT_c, kAnd_t, kAnd_f, kOr_t, kOr_f, kNot_b, kTest_b, kBin_c, kBin2_c, kUn_c, kChain_t, kChain_f, kCh1_c, kCh2_c, kRet_d, kRet_n, kRetN_n, kSome_i, kSlot_d, kDc_c, kDc2_c, kLst_c, kLen_c, kTup_c, kCB_c, kIsa_c, kSl1_c, kSl2_c, kSl3_c, kRtO_c, kOm_c, kOm2_c, kOm3_c, kSo_c, kSo2_c, kSo3_c, kOi_c, kOi2_c, kSeq_c, kEnum_c, kEnum2_c, kZip_c, kZip2_c, kZip3_c, kZip4_c, kRg1_c, kRg2_c, kRg2b_c, kRgD_c, kRgDb_c, kCall_c, kCallN_c, kAc_c, kAc2_c, kBag_b, kComp_c, kRev_c, kGc_c, kFl_c, compT_c, kCt_c, kCt2_t, kCt2_f, fnS_c, ssSeq_c, ssRet_c, ssRetF_c, ssRetOwn_c, ssRetN_c, ssAsg_c, ssAsgF_c, ssPar_c, ssParF_c, ssIf_c, ssExpr_c, ssNil_c, ssPass_c, ssBreak_c, ssCont_c, ssFor_c, ssFreeze_c, ssOwnM_c, sVar_c, sC_c, sBin_c, sUn_c, sTest_c, sNotT_c, sAndT_c, sOrT_c, sBorT_c, sAndV_c, sOrV_c, sNotV_c, sIf_c, sChain_c, stYes_c, sdNil_c, sdCons_c, sLst_c, sLen_c, sTup_c, sCallB_c, sCallL_c, sIsa_c, sSlice_c, soNone_c, soSome_c, sgName_c, sgOwn_c, sOwnIx_c, siSeq_c, siEnum_c, siZip_c, siRange1_c, siRange2_c, siRangeD_c, slR1_c, slR2_c, sCall_c, sCallN_c, saNil_c, saCons_c, saBag_c, sComp_c, sRevL_c, sgTup_t, sgCons_c, sgNil_n, freezeSl, setUn, Slot.inner, List.map_cons, List.map_nil, List.replicate, List.cons_append, List.nil_append, List.append_nil, List.getElem?_cons_zero, List.getElem?_cons_succ, List.set_cons_zero, List.set_cons_succ, List.length_cons, List.length_nil, and_assoc, Option.some.injEq, PyData.list.injEq, PyData.tuple.injEq, toL_n, Nat.sub_self, Nat.zero_add, Nat.reduceAdd, Nat.reduceSub, true_and, and_true, addD_ii, subD_ii, ltD_ii, leD_ii, gtD_ii, geD_ii, negD_i, mulD_i, fdivD_i, modD_i, itemsD_l, itemsD_t, tupleB_l, tupleB_t, listB_l, listB_t, lenB_l, lenB_t, intB_i, intB_b, fold2_i, appendM_1, ixN_len, reduceCtorEq, reduceIte, Bool.and_self, Bool.true_and, Bool.false_and, Bool.and_true, Bool.and_false, Bool.not_true, Bool.not_false, PyData.isTuple, PyData.isInt, PyData.isBool, PyData.isList, PyData.isStr, isBLT]
  exact h
/-- boats, in order, that are short -/
def shortB (rs : List Int) (r : Int) (is : List Int) : Bool := (is.zip (is.drop 1)).all (fun p => decide (p.1 < p.2)) && decide ((is.map fun i => rs.getD i.toNat 0).sum < r * is.length * (is.length + 1) / 2)
def inAll (n : Nat) (xs : List D) : Bool := xs.all fun v => inR v 0 ((n : Int) - 1)
def isShort (rs : List Int) (r : Int) : D → Bool
  | .tuple xs => inAll rs.length xs && match intsOf xs with
    | some is => shortB rs r is
    | none => false
  | _ => false
theorem ints_of_all {n : Nat} : ∀ {xs : List D}, inAll n xs = true → ∃ is : List Int, xs = is.map .int ∧ ∀ i ∈ is, 0 ≤ i ∧ i < n
  | [], _ => ⟨[], rfl, fun _ h => nomatch h⟩
  | x :: xs, h => by
    unfold inAll at h
    rw [List.all_cons, Bool.and_eq_true] at h
    obtain ⟨is, rfl, hi⟩ := ints_of_all (n := n) (xs := xs) h.2
    cases x with
    | int i =>
      have h1 := h.1
      unfold inR at h1
      rw [Bool.and_eq_true, decide_eq_true_eq, decide_eq_true_eq] at h1
      refine ⟨i :: is, rfl, fun j hj => ?_⟩
      rcases List.mem_cons.mp hj with e | e
      · rw [e]; omega
      · exact hi j e
    | _ => cases h.1
theorem sp_is_shortage {rs : List Int} {r : Int} {v : D} {m F R} (hr : okTot rs) (h8 : 1 ≤ r ∧ r ≤ 8) (hv : ∀ xs, v = .tuple xs → xs.length ≤ 100) (h : R (.dat (.bool (isShort rs r v))) m) : m_is_shortage [.dat (tI rs), .dat (.int r), .dat v] m F R := by
  have hl := hr.1
  simp -implicitDefEqProofs (disch := ((try simp only [List.length_map, List.length_append, List.length_cons, List.length_nil, List.length_take, List.length_drop, List.length_set, List.length_replicate, List.length_range, List.length_zipIdx, List.length_zip]); omega)) only [kVal_s, hold_c, kNx_c, kRt_c, kRtN_c, kAsg_c, kAsgF_c, kPar_c, kParF_c, kParF2_c, kExp_c, kFor_c, kIf_t, kIf_f, kIfV_t, kIfV_f, kOrT_t, kOrT_f, kAndT_t, kAndT_f, kNotT_c, kAnd_t, kAnd_f, kOr_t, kOr_f, kNot_b, kTest_b, kBin_c, kBin2_c, kUn_c, kChain_t, kChain_f, kCh1_c, kCh2_c, kRet_d, kRet_n, kRetN_n, kSome_i, kSlot_d, kDc_c, kDc2_c, kLst_c, kLen_c, kTup_c, kCB_c, kIsa_c, kSl1_c, kSl2_c, kSl3_c, kRtO_c, kOm_c, kOm2_c, kOm3_c, kSo_c, kSo2_c, kSo3_c, kOi_c, kOi2_c, kSeq_c, kEnum_c, kEnum2_c, kZip_c, kZip2_c, kZip3_c, kZip4_c, kRg1_c, kRg2_c, kRg2b_c, kRgD_c, kRgDb_c, kCall_c, kCallN_c, kAc_c, kAc2_c, kBag_b, kComp_c, kRev_c, kGc_c, kFl_c, compT_c, kCt_c, kCt2_t, kCt2_f, fnS_c, ssSeq_c, ssRet_c, ssRetF_c, ssRetOwn_c, ssRetN_c, ssAsg_c, ssAsgF_c, ssPar_c, ssParF_c, ssIf_c, ssExpr_c, ssNil_c, ssPass_c, ssBreak_c, ssCont_c, ssFor_c, ssFreeze_c, ssOwnM_c, sVar_c, sC_c, sBin_c, sUn_c, sTest_c, sNotT_c, sAndT_c, sOrT_c, sBorT_c, sAndV_c, sOrV_c, sNotV_c, sIf_c, sChain_c, stYes_c, sdNil_c, sdCons_c, sLst_c, sLen_c, sTup_c, sCallB_c, sCallL_c, sIsa_c, sSlice_c, soNone_c, soSome_c, sgName_c, sgOwn_c, sOwnIx_c, siSeq_c, siEnum_c, siZip_c, siRange1_c, siRange2_c, siRangeD_c, slR1_c, slR2_c, sCall_c, sCallN_c, saNil_c, saCons_c, saBag_c, sComp_c, sRevL_c, sgTup_t, sgCons_c, sgNil_n, freezeSl, setUn, Slot.inner, List.map_cons, List.map_nil, List.replicate, List.cons_append, List.nil_append, List.append_nil, List.getElem?_cons_zero, List.getElem?_cons_succ, List.set_cons_zero, List.set_cons_succ, List.length_cons, List.length_nil, and_assoc, Option.some.injEq, PyData.list.injEq, PyData.tuple.injEq, toL_n, Nat.sub_self, Nat.zero_add, Nat.reduceAdd, Nat.reduceSub, true_and, and_true, addD_ii, subD_ii, ltD_ii, leD_ii, gtD_ii, geD_ii, negD_i, mulD_i, fdivD_i, modD_i, itemsD_l, itemsD_t, tupleB_l, tupleB_t, listB_l, listB_t, lenB_l, lenB_t, intB_i, intB_b, fold2_i, appendM_1, ixN_len, reduceCtorEq, reduceIte, Bool.and_self, Bool.true_and, Bool.false_and, Bool.and_true, Bool.and_false, Bool.not_true, Bool.not_false, PyData.isTuple, PyData.isInt, PyData.isBool, PyData.isList, PyData.isStr, isBLT, m_is_shortage, b_is_shortage]
  refine sp_check_totals hr ?_
  simp -implicitDefEqProofs (disch := ((try simp only [List.length_map, List.length_append, List.length_cons, List.length_nil, List.length_take, List.length_drop, List.length_set, List.length_replicate, List.length_range, List.length_zipIdx, List.length_zip]); omega)) only [kVal_s, hold_c, kNx_c, kRt_c, kRtN_c, kAsg_c, kAsgF_c, kPar_c, kParF_c, kParF2_c, kExp_c, kFor_c, kIf_t, kIf_f, kIfV_t, kIfV_f, kOrT_t, kOrT_f, kAndT_t, kAndT_f, kNotT_c, kAnd_t, kAnd_f, kOr_t, kOr_f, kNot_b, kTest_b, kBin_c, kBin2_c, kUn_c, kChain_t, kChain_f, kCh1_c, kCh2_c, kRet_d, kRet_n, kRetN_n, kSome_i, kSlot_d, kDc_c, kDc2_c, kLst_c, kLen_c, kTup_c, kCB_c, kIsa_c, kSl1_c, kSl2_c, kSl3_c, kRtO_c, kOm_c, kOm2_c, kOm3_c, kSo_c, kSo2_c, kSo3_c, kOi_c, kOi2_c, kSeq_c, kEnum_c, kEnum2_c, kZip_c, kZip2_c, kZip3_c, kZip4_c, kRg1_c, kRg2_c, kRg2b_c, kRgD_c, kRgDb_c, kCall_c, kCallN_c, kAc_c, kAc2_c, kBag_b, kComp_c, kRev_c, kGc_c, kFl_c, compT_c, kCt_c, kCt2_t, kCt2_f, fnS_c, ssSeq_c, ssRet_c, ssRetF_c, ssRetOwn_c, ssRetN_c, ssAsg_c, ssAsgF_c, ssPar_c, ssParF_c, ssIf_c, ssExpr_c, ssNil_c, ssPass_c, ssBreak_c, ssCont_c, ssFor_c, ssFreeze_c, ssOwnM_c, sVar_c, sC_c, sBin_c, sUn_c, sTest_c, sNotT_c, sAndT_c, sOrT_c, sBorT_c, sAndV_c, sOrV_c, sNotV_c, sIf_c, sChain_c, stYes_c, sdNil_c, sdCons_c, sLst_c, sLen_c, sTup_c, sCallB_c, sCallL_c, sIsa_c, sSlice_c, soNone_c, soSome_c, sgName_c, sgOwn_c, sOwnIx_c, siSeq_c, siEnum_c, siZip_c, siRange1_c, siRange2_c, siRangeD_c, slR1_c, slR2_c, sCall_c, sCallN_c, saNil_c, saCons_c, saBag_c, sComp_c, sRevL_c, sgTup_t, sgCons_c, sgNil_n, freezeSl, setUn, Slot.inner, List.map_cons, List.map_nil, List.replicate, List.cons_append, List.nil_append, List.append_nil, List.getElem?_cons_zero, List.getElem?_cons_succ, List.set_cons_zero, List.set_cons_succ, List.length_cons, List.length_nil, and_assoc, Option.some.injEq, PyData.list.injEq, PyData.tuple.injEq, toL_n, Nat.sub_self, Nat.zero_add, Nat.reduceAdd, Nat.reduceSub, true_and, and_true, addD_ii, subD_ii, ltD_ii, leD_ii, gtD_ii, geD_ii, negD_i, mulD_i, fdivD_i, modD_i, itemsD_l, itemsD_t, tupleB_l, tupleB_t, listB_l, listB_t, lenB_l, lenB_t, intB_i, intB_b, fold2_i, appendM_1, ixN_len, reduceCtorEq, reduceIte, Bool.and_self, Bool.true_and, Bool.false_and, Bool.and_true, Bool.and_false, Bool.not_true, Bool.not_false, PyData.isTuple, PyData.isInt, PyData.isBool, PyData.isList, PyData.isStr, isBLT]
  refine sp_check_number h8 ?_
  cases v with
  | tuple xs =>
    have hx := hv xs rfl
    simp -implicitDefEqProofs (disch := ((try simp only [List.length_map, List.length_append, List.length_cons, List.length_nil, List.length_take, List.length_drop, List.length_set, List.length_replicate, List.length_range, List.length_zipIdx, List.length_zip]); omega)) only [kVal_s, hold_c, kNx_c, kRt_c, kRtN_c, kAsg_c, kAsgF_c, kPar_c, kParF_c, kParF2_c, kExp_c, kFor_c, kIf_t, kIf_f, kIfV_t, kIfV_f, kOrT_t, kOrT_f, kAndT_t, kAndT_f, kNotT_c, kAnd_t, kAnd_f, kOr_t, kOr_f, kNot_b, kTest_b, kBin_c, kBin2_c, kUn_c, kChain_t, kChain_f, kCh1_c, kCh2_c, kRet_d, kRet_n, kRetN_n, kSome_i, kSlot_d, kDc_c, kDc2_c, kLst_c, kLen_c, kTup_c, kCB_c, kIsa_c, kSl1_c, kSl2_c, kSl3_c, kRtO_c, kOm_c, kOm2_c, kOm3_c, kSo_c, kSo2_c, kSo3_c, kOi_c, kOi2_c, kSeq_c, kEnum_c, kEnum2_c, kZip_c, kZip2_c, kZip3_c, kZip4_c, kRg1_c, kRg2_c, kRg2b_c, kRgD_c, kRgDb_c, kCall_c, kCallN_c, kAc_c, kAc2_c, kBag_b, kComp_c, kRev_c, kGc_c, kFl_c, compT_c, kCt_c, kCt2_t, kCt2_f, fnS_c, ssSeq_c, ssRet_c, ssRetF_c, ssRetOwn_c, ssRetN_c, ssAsg_c, ssAsgF_c, ssPar_c, ssParF_c, ssIf_c, ssExpr_c, ssNil_c, ssPass_c, ssBreak_c, ssCont_c, ssFor_c, ssFreeze_c, ssOwnM_c, sVar_c, sC_c, sBin_c, sUn_c, sTest_c, sNotT_c, sAndT_c, sOrT_c, sBorT_c, sAndV_c, sOrV_c, sNotV_c, sIf_c, sChain_c, stYes_c, sdNil_c, sdCons_c, sLst_c, sLen_c, sTup_c, sCallB_c, sCallL_c, sIsa_c, sSlice_c, soNone_c, soSome_c, sgName_c, sgOwn_c, sOwnIx_c, siSeq_c, siEnum_c, siZip_c, siRange1_c, siRange2_c, siRangeD_c, slR1_c, slR2_c, sCall_c, sCallN_c, saNil_c, saCons_c, saBag_c, sComp_c, sRevL_c, sgTup_t, sgCons_c, sgNil_n, freezeSl, setUn, Slot.inner, List.map_cons, List.map_nil, List.replicate, List.cons_append, List.nil_append, List.append_nil, List.getElem?_cons_zero, List.getElem?_cons_succ, List.set_cons_zero, List.set_cons_succ, List.length_cons, List.length_nil, and_assoc, Option.some.injEq, PyData.list.injEq, PyData.tuple.injEq, toL_n, Nat.sub_self, Nat.zero_add, Nat.reduceAdd, Nat.reduceSub, true_and, and_true, addD_ii, subD_ii, ltD_ii, leD_ii, gtD_ii, geD_ii, negD_i, mulD_i, fdivD_i, modD_i, itemsD_l, itemsD_t, tupleB_l, tupleB_t, listB_l, listB_t, lenB_l, lenB_t, intB_i, intB_b, fold2_i, appendM_1, ixN_len, reduceCtorEq, reduceIte, Bool.and_self, Bool.true_and, Bool.false_and, Bool.and_true, Bool.and_false, Bool.not_true, Bool.not_false, PyData.isTuple, PyData.isInt, PyData.isBool, PyData.isList, PyData.isStr, isBLT, tI]
    refine ⟨Nat.le_trans hx (by decide), ?_⟩
    refine (List.map_id' xs ▸ compL_map (m := m) (fun d : D => d) (fun d => .bool (inR d 0 ((rs.length : Int) - 1))) xs _ (fun d hd K N hk => ?_) ?_ : compL _ _ _ _ xs m _)
    · simp -implicitDefEqProofs (disch := ((try simp only [List.length_map, List.length_append, List.length_cons, List.length_nil, List.length_take, List.length_drop, List.length_set, List.length_replicate, List.length_range, List.length_zipIdx, List.length_zip]); omega)) only [kVal_s, hold_c, kNx_c, kRt_c, kRtN_c, kAsg_c, kAsgF_c, kPar_c, kParF_c, kParF2_c, kExp_c, kFor_c, kIf_t, kIf_f, kIfV_t, kIfV_f, kOrT_t, kOrT_f, kAndT_t, kAndT_f, kNotT_c, kAnd_t, kAnd_f, kOr_t, kOr_f, kNot_b, kTest_b, kBin_c, kBin2_c, kUn_c, kChain_t, kChain_f, kCh1_c, kCh2_c, kRet_d, kRet_n, kRetN_n, kSome_i, kSlot_d, kDc_c, kDc2_c, kLst_c, kLen_c, kTup_c, kCB_c, kIsa_c, kSl1_c, kSl2_c, kSl3_c, kRtO_c, kOm_c, kOm2_c, kOm3_c, kSo_c, kSo2_c, kSo3_c, kOi_c, kOi2_c, kSeq_c, kEnum_c, kEnum2_c, kZip_c, kZip2_c, kZip3_c, kZip4_c, kRg1_c, kRg2_c, kRg2b_c, kRgD_c, kRgDb_c, kCall_c, kCallN_c, kAc_c, kAc2_c, kBag_b, kComp_c, kRev_c, kGc_c, kFl_c, compT_c, kCt_c, kCt2_t, kCt2_f, fnS_c, ssSeq_c, ssRet_c, ssRetF_c, ssRetOwn_c, ssRetN_c, ssAsg_c, ssAsgF_c, ssPar_c, ssParF_c, ssIf_c, ssExpr_c, ssNil_c, ssPass_c, ssBreak_c, ssCont_c, ssFor_c, ssFreeze_c, ssOwnM_c, sVar_c, sC_c, sBin_c, sUn_c, sTest_c, sNotT_c, sAndT_c, sOrT_c, sBorT_c, sAndV_c, sOrV_c, sNotV_c, sIf_c, sChain_c, stYes_c, sdNil_c, sdCons_c, sLst_c, sLen_c, sTup_c, sCallB_c, sCallL_c, sIsa_c, sSlice_c, soNone_c, soSome_c, sgName_c, sgOwn_c, sOwnIx_c, siSeq_c, siEnum_c, siZip_c, siRange1_c, siRange2_c, siRangeD_c, slR1_c, slR2_c, sCall_c, sCallN_c, saNil_c, saCons_c, saBag_c, sComp_c, sRevL_c, sgTup_t, sgCons_c, sgNil_n, freezeSl, setUn, Slot.inner, List.map_cons, List.map_nil, List.replicate, List.cons_append, List.nil_append, List.append_nil, List.getElem?_cons_zero, List.getElem?_cons_succ, List.set_cons_zero, List.set_cons_succ, List.length_cons, List.length_nil, and_assoc, Option.some.injEq, PyData.list.injEq, PyData.tuple.injEq, toL_n, Nat.sub_self, Nat.zero_add, Nat.reduceAdd, Nat.reduceSub, true_and, and_true, addD_ii, subD_ii, ltD_ii, leD_ii, gtD_ii, geD_ii, negD_i, mulD_i, fdivD_i, modD_i, itemsD_l, itemsD_t, tupleB_l, tupleB_t, listB_l, listB_t, lenB_l, lenB_t, intB_i, intB_b, fold2_i, appendM_1, ixN_len, reduceCtorEq, reduceIte, Bool.and_self, Bool.true_and, Bool.false_and, Bool.and_true, Bool.and_false, Bool.not_true, Bool.not_false, PyData.isTuple, PyData.isInt, PyData.isBool, PyData.isList, PyData.isStr, isBLT, e1_is_shortage, List.length_map]
      refine sp_in_range ?_
      simp -implicitDefEqProofs (disch := ((try simp only [List.length_map, List.length_append, List.length_cons, List.length_nil, List.length_take, List.length_drop, List.length_set, List.length_replicate, List.length_range, List.length_zipIdx, List.length_zip]); omega)) only [kVal_s, hold_c, kNx_c, kRt_c, kRtN_c, kAsg_c, kAsgF_c, kPar_c, kParF_c, kParF2_c, kExp_c, kFor_c, kIf_t, kIf_f, kIfV_t, kIfV_f, kOrT_t, kOrT_f, kAndT_t, kAndT_f, kNotT_c, kAnd_t, kAnd_f, kOr_t, kOr_f, kNot_b, kTest_b, kBin_c, kBin2_c, kUn_c, kChain_t, kChain_f, kCh1_c, kCh2_c, kRet_d, kRet_n, kRetN_n, kSome_i, kSlot_d, kDc_c, kDc2_c, kLst_c, kLen_c, kTup_c, kCB_c, kIsa_c, kSl1_c, kSl2_c, kSl3_c, kRtO_c, kOm_c, kOm2_c, kOm3_c, kSo_c, kSo2_c, kSo3_c, kOi_c, kOi2_c, kSeq_c, kEnum_c, kEnum2_c, kZip_c, kZip2_c, kZip3_c, kZip4_c, kRg1_c, kRg2_c, kRg2b_c, kRgD_c, kRgDb_c, kCall_c, kCallN_c, kAc_c, kAc2_c, kBag_b, kComp_c, kRev_c, kGc_c, kFl_c, compT_c, kCt_c, kCt2_t, kCt2_f, fnS_c, ssSeq_c, ssRet_c, ssRetF_c, ssRetOwn_c, ssRetN_c, ssAsg_c, ssAsgF_c, ssPar_c, ssParF_c, ssIf_c, ssExpr_c, ssNil_c, ssPass_c, ssBreak_c, ssCont_c, ssFor_c, ssFreeze_c, ssOwnM_c, sVar_c, sC_c, sBin_c, sUn_c, sTest_c, sNotT_c, sAndT_c, sOrT_c, sBorT_c, sAndV_c, sOrV_c, sNotV_c, sIf_c, sChain_c, stYes_c, sdNil_c, sdCons_c, sLst_c, sLen_c, sTup_c, sCallB_c, sCallL_c, sIsa_c, sSlice_c, soNone_c, soSome_c, sgName_c, sgOwn_c, sOwnIx_c, siSeq_c, siEnum_c, siZip_c, siRange1_c, siRange2_c, siRangeD_c, slR1_c, slR2_c, sCall_c, sCallN_c, saNil_c, saCons_c, saBag_c, sComp_c, sRevL_c, sgTup_t, sgCons_c, sgNil_n, freezeSl, setUn, Slot.inner, List.map_cons, List.map_nil, List.replicate, List.cons_append, List.nil_append, List.append_nil, List.getElem?_cons_zero, List.getElem?_cons_succ, List.set_cons_zero, List.set_cons_succ, List.length_cons, List.length_nil, and_assoc, Option.some.injEq, PyData.list.injEq, PyData.tuple.injEq, toL_n, Nat.sub_self, Nat.zero_add, Nat.reduceAdd, Nat.reduceSub, true_and, and_true, addD_ii, subD_ii, ltD_ii, leD_ii, gtD_ii, geD_ii, negD_i, mulD_i, fdivD_i, modD_i, itemsD_l, itemsD_t, tupleB_l, tupleB_t, listB_l, listB_t, lenB_l, lenB_t, intB_i, intB_b, fold2_i, appendM_1, ixN_len, reduceCtorEq, reduceIte, Bool.and_self, Bool.true_and, Bool.false_and, Bool.and_true, Bool.and_false, Bool.not_true, Bool.not_false, PyData.isTuple, PyData.isInt, PyData.isBool, PyData.isList, PyData.isStr, isBLT]
      exact hk
    · rw [show (xs.map fun d => PyData.bool (inR d 0 ((rs.length : Int) - 1))) = (xs.map fun d => inR d 0 ((rs.length : Int) - 1)).map PyData.bool by rw [List.map_map]; rfl]
      simp -implicitDefEqProofs (disch := ((try simp only [List.length_map, List.length_append, List.length_cons, List.length_nil, List.length_take, List.length_drop, List.length_set, List.length_replicate, List.length_range, List.length_zipIdx, List.length_zip]); omega)) only [kVal_s, hold_c, kNx_c, kRt_c, kRtN_c, kAsg_c, kAsgF_c, kPar_c, kParF_c, kParF2_c, kExp_c, kFor_c, kIf_t, kIf_f, kIfV_t, kIfV_f, kOrT_t, kOrT_f, kAndT_t, kAndT_f, kNotT_c, kAnd_t, kAnd_f, kOr_t, kOr_f, kNot_b, kTest_b, kBin_c, kBin2_c, kUn_c, kChain_t, kChain_f, kCh1_c, kCh2_c, kRet_d, kRet_n, kRetN_n, kSome_i, kSlot_d, kDc_c, kDc2_c, kLst_c, kLen_c, kTup_c, kCB_c, kIsa_c, kSl1_c, kSl2_c, kSl3_c, kRtO_c, kOm_c, kOm2_c, kOm3_c, kSo_c, kSo2_c, kSo3_c, kOi_c, kOi2_c, kSeq_c, kEnum_c, kEnum2_c, kZip_c, kZip2_c, kZip3_c, kZip4_c, kRg1_c, kRg2_c, kRg2b_c, kRgD_c, kRgDb_c, kCall_c, kCallN_c, kAc_c, kAc2_c, kBag_b, kComp_c, kRev_c, kGc_c, kFl_c, compT_c, kCt_c, kCt2_t, kCt2_f, fnS_c, ssSeq_c, ssRet_c, ssRetF_c, ssRetOwn_c, ssRetN_c, ssAsg_c, ssAsgF_c, ssPar_c, ssParF_c, ssIf_c, ssExpr_c, ssNil_c, ssPass_c, ssBreak_c, ssCont_c, ssFor_c, ssFreeze_c, ssOwnM_c, sVar_c, sC_c, sBin_c, sUn_c, sTest_c, sNotT_c, sAndT_c, sOrT_c, sBorT_c, sAndV_c, sOrV_c, sNotV_c, sIf_c, sChain_c, stYes_c, sdNil_c, sdCons_c, sLst_c, sLen_c, sTup_c, sCallB_c, sCallL_c, sIsa_c, sSlice_c, soNone_c, soSome_c, sgName_c, sgOwn_c, sOwnIx_c, siSeq_c, siEnum_c, siZip_c, siRange1_c, siRange2_c, siRangeD_c, slR1_c, slR2_c, sCall_c, sCallN_c, saNil_c, saCons_c, saBag_c, sComp_c, sRevL_c, sgTup_t, sgCons_c, sgNil_n, freezeSl, setUn, Slot.inner, List.map_cons, List.map_nil, List.replicate, List.cons_append, List.nil_append, List.append_nil, List.getElem?_cons_zero, List.getElem?_cons_succ, List.set_cons_zero, List.set_cons_succ, List.length_cons, List.length_nil, and_assoc, Option.some.injEq, PyData.list.injEq, PyData.tuple.injEq, toL_n, Nat.sub_self, Nat.zero_add, Nat.reduceAdd, Nat.reduceSub, true_and, and_true, addD_ii, subD_ii, ltD_ii, leD_ii, gtD_ii, geD_ii, negD_i, mulD_i, fdivD_i, modD_i, itemsD_l, itemsD_t, tupleB_l, tupleB_t, listB_l, listB_t, lenB_l, lenB_t, intB_i, intB_b, fold2_i, appendM_1, ixN_len, reduceCtorEq, reduceIte, Bool.and_self, Bool.true_and, Bool.false_and, Bool.and_true, Bool.and_false, Bool.not_true, Bool.not_false, PyData.isTuple, PyData.isInt, PyData.isBool, PyData.isList, PyData.isStr, isBLT, allB_l]
      rw [show (xs.map fun d => inR d 0 ((rs.length : Int) - 1)).all id = inAll rs.length xs by unfold inAll; rw [List.all_map]; rfl]
      simp only [isShort] at h
      cases e : inAll rs.length xs with
      | false =>
        rw [e] at h
        simp -implicitDefEqProofs (disch := ((try simp only [List.length_map, List.length_append, List.length_cons, List.length_nil, List.length_take, List.length_drop, List.length_set, List.length_replicate, List.length_range, List.length_zipIdx, List.length_zip]); omega)) only [kVal_s, hold_c, kNx_c, kRt_c, kRtN_c, kAsg_c, kAsgF_c, kPar_c, kParF_c, kParF2_c, kExp_c, kFor_c, kIf_t, kIf_f, kIfV_t, kIfV_f, kOrT_t, kOrT_f, kAndT_t, kAndT_f, kNotT_c, kAnd_t, kAnd_f, kOr_t, kOr_f, kNot_b, kTest_b, kBin_c, kBin2_c, kUn_c, kChain_t, kChain_f, kCh1_c, kCh2_c, kRet_d, kRet_n, kRetN_n, kSome_i, kSlot_d, kDc_c, kDc2_c, kLst_c, kLen_c, kTup_c, kCB_c, kIsa_c, kSl1_c, kSl2_c, kSl3_c, kRtO_c, kOm_c, kOm2_c, kOm3_c, kSo_c, kSo2_c, kSo3_c, kOi_c, kOi2_c, kSeq_c, kEnum_c, kEnum2_c, kZip_c, kZip2_c, kZip3_c, kZip4_c, kRg1_c, kRg2_c, kRg2b_c, kRgD_c, kRgDb_c, kCall_c, kCallN_c, kAc_c, kAc2_c, kBag_b, kComp_c, kRev_c, kGc_c, kFl_c, compT_c, kCt_c, kCt2_t, kCt2_f, fnS_c, ssSeq_c, ssRet_c, ssRetF_c, ssRetOwn_c, ssRetN_c, ssAsg_c, ssAsgF_c, ssPar_c, ssParF_c, ssIf_c, ssExpr_c, ssNil_c, ssPass_c, ssBreak_c, ssCont_c, ssFor_c, ssFreeze_c, ssOwnM_c, sVar_c, sC_c, sBin_c, sUn_c, sTest_c, sNotT_c, sAndT_c, sOrT_c, sBorT_c, sAndV_c, sOrV_c, sNotV_c, sIf_c, sChain_c, stYes_c, sdNil_c, sdCons_c, sLst_c, sLen_c, sTup_c, sCallB_c, sCallL_c, sIsa_c, sSlice_c, soNone_c, soSome_c, sgName_c, sgOwn_c, sOwnIx_c, siSeq_c, siEnum_c, siZip_c, siRange1_c, siRange2_c, siRangeD_c, slR1_c, slR2_c, sCall_c, sCallN_c, saNil_c, saCons_c, saBag_c, sComp_c, sRevL_c, sgTup_t, sgCons_c, sgNil_n, freezeSl, setUn, Slot.inner, List.map_cons, List.map_nil, List.replicate, List.cons_append, List.nil_append, List.append_nil, List.getElem?_cons_zero, List.getElem?_cons_succ, List.set_cons_zero, List.set_cons_succ, List.length_cons, List.length_nil, and_assoc, Option.some.injEq, PyData.list.injEq, PyData.tuple.injEq, toL_n, Nat.sub_self, Nat.zero_add, Nat.reduceAdd, Nat.reduceSub, true_and, and_true, addD_ii, subD_ii, ltD_ii, leD_ii, gtD_ii, geD_ii, negD_i, mulD_i, fdivD_i, modD_i, itemsD_l, itemsD_t, tupleB_l, tupleB_t, listB_l, listB_t, lenB_l, lenB_t, intB_i, intB_b, fold2_i, appendM_1, ixN_len, reduceCtorEq, reduceIte, Bool.and_self, Bool.true_and, Bool.false_and, Bool.and_true, Bool.and_false, Bool.not_true, Bool.not_false, PyData.isTuple, PyData.isInt, PyData.isBool, PyData.isList, PyData.isStr, isBLT]
        exact h
      | true =>
        rw [e] at h
        obtain ⟨is, rfl, hi⟩ := ints_of_all e
        rw [intsOf_map, Bool.true_and] at h
        rw [List.length_map] at hx
        simp -implicitDefEqProofs (disch := ((try simp only [List.length_map, List.length_append, List.length_cons, List.length_nil, List.length_take, List.length_drop, List.length_set, List.length_replicate, List.length_range, List.length_zipIdx, List.length_zip]); omega)) only [kVal_s, hold_c, kNx_c, kRt_c, kRtN_c, kAsg_c, kAsgF_c, kPar_c, kParF_c, kParF2_c, kExp_c, kFor_c, kIf_t, kIf_f, kIfV_t, kIfV_f, kOrT_t, kOrT_f, kAndT_t, kAndT_f, kNotT_c, kAnd_t, kAnd_f, kOr_t, kOr_f, kNot_b, kTest_b, kBin_c, kBin2_c, kUn_c, kChain_t, kChain_f, kCh1_c, kCh2_c, kRet_d, kRet_n, kRetN_n, kSome_i, kSlot_d, kDc_c, kDc2_c, kLst_c, kLen_c, kTup_c, kCB_c, kIsa_c, kSl1_c, kSl2_c, kSl3_c, kRtO_c, kOm_c, kOm2_c, kOm3_c, kSo_c, kSo2_c, kSo3_c, kOi_c, kOi2_c, kSeq_c, kEnum_c, kEnum2_c, kZip_c, kZip2_c, kZip3_c, kZip4_c, kRg1_c, kRg2_c, kRg2b_c, kRgD_c, kRgDb_c, kCall_c, kCallN_c, kAc_c, kAc2_c, kBag_b, kComp_c, kRev_c, kGc_c, kFl_c, compT_c, kCt_c, kCt2_t, kCt2_f, fnS_c, ssSeq_c, ssRet_c, ssRetF_c, ssRetOwn_c, ssRetN_c, ssAsg_c, ssAsgF_c, ssPar_c, ssParF_c, ssIf_c, ssExpr_c, ssNil_c, ssPass_c, ssBreak_c, ssCont_c, ssFor_c, ssFreeze_c, ssOwnM_c, sVar_c, sC_c, sBin_c, sUn_c, sTest_c, sNotT_c, sAndT_c, sOrT_c, sBorT_c, sAndV_c, sOrV_c, sNotV_c, sIf_c, sChain_c, stYes_c, sdNil_c, sdCons_c, sLst_c, sLen_c, sTup_c, sCallB_c, sCallL_c, sIsa_c, sSlice_c, soNone_c, soSome_c, sgName_c, sgOwn_c, sOwnIx_c, siSeq_c, siEnum_c, siZip_c, siRange1_c, siRange2_c, siRangeD_c, slR1_c, slR2_c, sCall_c, sCallN_c, saNil_c, saCons_c, saBag_c, sComp_c, sRevL_c, sgTup_t, sgCons_c, sgNil_n, freezeSl, setUn, Slot.inner, List.map_cons, List.map_nil, List.replicate, List.cons_append, List.nil_append, List.append_nil, List.getElem?_cons_zero, List.getElem?_cons_succ, List.set_cons_zero, List.set_cons_succ, List.length_cons, List.length_nil, and_assoc, Option.some.injEq, PyData.list.injEq, PyData.tuple.injEq, toL_n, Nat.sub_self, Nat.zero_add, Nat.reduceAdd, Nat.reduceSub, true_and, and_true, addD_ii, subD_ii, ltD_ii, leD_ii, gtD_ii, geD_ii, negD_i, mulD_i, fdivD_i, modD_i, itemsD_l, itemsD_t, tupleB_l, tupleB_t, listB_l, listB_t, lenB_l, lenB_t, intB_i, intB_b, fold2_i, appendM_1, ixN_len, reduceCtorEq, reduceIte, Bool.and_self, Bool.true_and, Bool.false_and, Bool.and_true, Bool.and_false, Bool.not_true, Bool.not_false, PyData.isTuple, PyData.isInt, PyData.isBool, PyData.isList, PyData.isStr, isBLT, slice_tf, List.length_map]
        rw [← List.map_drop, zipD_enc]
        refine ⟨Nat.le_trans (by rw [List.length_map, List.length_zip]; omega) (by decide : 100 ≤ 16000000), ?_⟩
        refine compL_map (fun p : Int × Int => .tuple [.int p.1, .int p.2]) (fun p => .bool (decide (p.1 < p.2))) _ _ (fun q hq K N hk => ?_) ?_
        · simp -implicitDefEqProofs (disch := ((try simp only [List.length_map, List.length_append, List.length_cons, List.length_nil, List.length_take, List.length_drop, List.length_set, List.length_replicate, List.length_range, List.length_zipIdx, List.length_zip]); omega)) only [kVal_s, hold_c, kNx_c, kRt_c, kRtN_c, kAsg_c, kAsgF_c, kPar_c, kParF_c, kParF2_c, kExp_c, kFor_c, kIf_t, kIf_f, kIfV_t, kIfV_f, kOrT_t, kOrT_f, kAndT_t, kAndT_f, kNotT_c, kAnd_t, kAnd_f, kOr_t, kOr_f, kNot_b, kTest_b, kBin_c, kBin2_c, kUn_c, kChain_t, kChain_f, kCh1_c, kCh2_c, kRet_d, kRet_n, kRetN_n, kSome_i, kSlot_d, kDc_c, kDc2_c, kLst_c, kLen_c, kTup_c, kCB_c, kIsa_c, kSl1_c, kSl2_c, kSl3_c, kRtO_c, kOm_c, kOm2_c, kOm3_c, kSo_c, kSo2_c, kSo3_c, kOi_c, kOi2_c, kSeq_c, kEnum_c, kEnum2_c, kZip_c, kZip2_c, kZip3_c, kZip4_c, kRg1_c, kRg2_c, kRg2b_c, kRgD_c, kRgDb_c, kCall_c, kCallN_c, kAc_c, kAc2_c, kBag_b, kComp_c, kRev_c, kGc_c, kFl_c, compT_c, kCt_c, kCt2_t, kCt2_f, fnS_c, ssSeq_c, ssRet_c, ssRetF_c, ssRetOwn_c, ssRetN_c, ssAsg_c, ssAsgF_c, ssPar_c, ssParF_c, ssIf_c, ssExpr_c, ssNil_c, ssPass_c, ssBreak_c, ssCont_c, ssFor_c, ssFreeze_c, ssOwnM_c, sVar_c, sC_c, sBin_c, sUn_c, sTest_c, sNotT_c, sAndT_c, sOrT_c, sBorT_c, sAndV_c, sOrV_c, sNotV_c, sIf_c, sChain_c, stYes_c, sdNil_c, sdCons_c, sLst_c, sLen_c, sTup_c, sCallB_c, sCallL_c, sIsa_c, sSlice_c, soNone_c, soSome_c, sgName_c, sgOwn_c, sOwnIx_c, siSeq_c, siEnum_c, siZip_c, siRange1_c, siRange2_c, siRangeD_c, slR1_c, slR2_c, sCall_c, sCallN_c, saNil_c, saCons_c, saBag_c, sComp_c, sRevL_c, sgTup_t, sgCons_c, sgNil_n, freezeSl, setUn, Slot.inner, List.map_cons, List.map_nil, List.replicate, List.cons_append, List.nil_append, List.append_nil, List.getElem?_cons_zero, List.getElem?_cons_succ, List.set_cons_zero, List.set_cons_succ, List.length_cons, List.length_nil, and_assoc, Option.some.injEq, PyData.list.injEq, PyData.tuple.injEq, toL_n, Nat.sub_self, Nat.zero_add, Nat.reduceAdd, Nat.reduceSub, true_and, and_true, addD_ii, subD_ii, ltD_ii, leD_ii, gtD_ii, geD_ii, negD_i, mulD_i, fdivD_i, modD_i, itemsD_l, itemsD_t, tupleB_l, tupleB_t, listB_l, listB_t, lenB_l, lenB_t, intB_i, intB_b, fold2_i, appendM_1, ixN_len, reduceCtorEq, reduceIte, Bool.and_self, Bool.true_and, Bool.false_and, Bool.and_true, Bool.and_false, Bool.not_true, Bool.not_false, PyData.isTuple, PyData.isInt, PyData.isBool, PyData.isList, PyData.isStr, isBLT, e2_is_shortage]
          exact hk
        · rw [show ((is.zip (is.drop (Int.toNat 1))).map fun p => PyData.bool (decide (p.1 < p.2))) = ((is.zip (is.drop 1)).map fun p => decide (p.1 < p.2)).map PyData.bool by rw [List.map_map]; rfl]
          simp -implicitDefEqProofs (disch := ((try simp only [List.length_map, List.length_append, List.length_cons, List.length_nil, List.length_take, List.length_drop, List.length_set, List.length_replicate, List.length_range, List.length_zipIdx, List.length_zip]); omega)) only [kVal_s, hold_c, kNx_c, kRt_c, kRtN_c, kAsg_c, kAsgF_c, kPar_c, kParF_c, kParF2_c, kExp_c, kFor_c, kIf_t, kIf_f, kIfV_t, kIfV_f, kOrT_t, kOrT_f, kAndT_t, kAndT_f, kNotT_c, kAnd_t, kAnd_f, kOr_t, kOr_f, kNot_b, kTest_b, kBin_c, kBin2_c, kUn_c, kChain_t, kChain_f, kCh1_c, kCh2_c, kRet_d, kRet_n, kRetN_n, kSome_i, kSlot_d, kDc_c, kDc2_c, kLst_c, kLen_c, kTup_c, kCB_c, kIsa_c, kSl1_c, kSl2_c, kSl3_c, kRtO_c, kOm_c, kOm2_c, kOm3_c, kSo_c, kSo2_c, kSo3_c, kOi_c, kOi2_c, kSeq_c, kEnum_c, kEnum2_c, kZip_c, kZip2_c, kZip3_c, kZip4_c, kRg1_c, kRg2_c, kRg2b_c, kRgD_c, kRgDb_c, kCall_c, kCallN_c, kAc_c, kAc2_c, kBag_b, kComp_c, kRev_c, kGc_c, kFl_c, compT_c, kCt_c, kCt2_t, kCt2_f, fnS_c, ssSeq_c, ssRet_c, ssRetF_c, ssRetOwn_c, ssRetN_c, ssAsg_c, ssAsgF_c, ssPar_c, ssParF_c, ssIf_c, ssExpr_c, ssNil_c, ssPass_c, ssBreak_c, ssCont_c, ssFor_c, ssFreeze_c, ssOwnM_c, sVar_c, sC_c, sBin_c, sUn_c, sTest_c, sNotT_c, sAndT_c, sOrT_c, sBorT_c, sAndV_c, sOrV_c, sNotV_c, sIf_c, sChain_c, stYes_c, sdNil_c, sdCons_c, sLst_c, sLen_c, sTup_c, sCallB_c, sCallL_c, sIsa_c, sSlice_c, soNone_c, soSome_c, sgName_c, sgOwn_c, sOwnIx_c, siSeq_c, siEnum_c, siZip_c, siRange1_c, siRange2_c, siRangeD_c, slR1_c, slR2_c, sCall_c, sCallN_c, saNil_c, saCons_c, saBag_c, sComp_c, sRevL_c, sgTup_t, sgCons_c, sgNil_n, freezeSl, setUn, Slot.inner, List.map_cons, List.map_nil, List.replicate, List.cons_append, List.nil_append, List.append_nil, List.getElem?_cons_zero, List.getElem?_cons_succ, List.set_cons_zero, List.set_cons_succ, List.length_cons, List.length_nil, and_assoc, Option.some.injEq, PyData.list.injEq, PyData.tuple.injEq, toL_n, Nat.sub_self, Nat.zero_add, Nat.reduceAdd, Nat.reduceSub, true_and, and_true, addD_ii, subD_ii, ltD_ii, leD_ii, gtD_ii, geD_ii, negD_i, mulD_i, fdivD_i, modD_i, itemsD_l, itemsD_t, tupleB_l, tupleB_t, listB_l, listB_t, lenB_l, lenB_t, intB_i, intB_b, fold2_i, appendM_1, ixN_len, reduceCtorEq, reduceIte, Bool.and_self, Bool.true_and, Bool.false_and, Bool.and_true, Bool.and_false, Bool.not_true, Bool.not_false, PyData.isTuple, PyData.isInt, PyData.isBool, PyData.isList, PyData.isStr, isBLT, allB_l]
          rw [show ((is.zip (is.drop 1)).map fun p => decide (p.1 < p.2)).all id = (is.zip (is.drop 1)).all fun p => decide (p.1 < p.2) by rw [List.all_map]; rfl]
          simp only [shortB] at h
          cases e2 : (is.zip (is.drop 1)).all fun p => decide (p.1 < p.2) with
          | false =>
            rw [e2] at h
            simp -implicitDefEqProofs (disch := ((try simp only [List.length_map, List.length_append, List.length_cons, List.length_nil, List.length_take, List.length_drop, List.length_set, List.length_replicate, List.length_range, List.length_zipIdx, List.length_zip]); omega)) only [kVal_s, hold_c, kNx_c, kRt_c, kRtN_c, kAsg_c, kAsgF_c, kPar_c, kParF_c, kParF2_c, kExp_c, kFor_c, kIf_t, kIf_f, kIfV_t, kIfV_f, kOrT_t, kOrT_f, kAndT_t, kAndT_f, kNotT_c, kAnd_t, kAnd_f, kOr_t, kOr_f, kNot_b, kTest_b, kBin_c, kBin2_c, kUn_c, kChain_t, kChain_f, kCh1_c, kCh2_c, kRet_d, kRet_n, kRetN_n, kSome_i, kSlot_d, kDc_c, kDc2_c, kLst_c, kLen_c, kTup_c, kCB_c, kIsa_c, kSl1_c, kSl2_c, kSl3_c, kRtO_c, kOm_c, kOm2_c, kOm3_c, kSo_c, kSo2_c, kSo3_c, kOi_c, kOi2_c, kSeq_c, kEnum_c, kEnum2_c, kZip_c, kZip2_c, kZip3_c, kZip4_c, kRg1_c, kRg2_c, kRg2b_c, kRgD_c, kRgDb_c, kCall_c, kCallN_c, kAc_c, kAc2_c, kBag_b, kComp_c, kRev_c, kGc_c, kFl_c, compT_c, kCt_c, kCt2_t, kCt2_f, fnS_c, ssSeq_c, ssRet_c, ssRetF_c, ssRetOwn_c, ssRetN_c, ssAsg_c, ssAsgF_c, ssPar_c, ssParF_c, ssIf_c, ssExpr_c, ssNil_c, ssPass_c, ssBreak_c, ssCont_c, ssFor_c, ssFreeze_c, ssOwnM_c, sVar_c, sC_c, sBin_c, sUn_c, sTest_c, sNotT_c, sAndT_c, sOrT_c, sBorT_c, sAndV_c, sOrV_c, sNotV_c, sIf_c, sChain_c, stYes_c, sdNil_c, sdCons_c, sLst_c, sLen_c, sTup_c, sCallB_c, sCallL_c, sIsa_c, sSlice_c, soNone_c, soSome_c, sgName_c, sgOwn_c, sOwnIx_c, siSeq_c, siEnum_c, siZip_c, siRange1_c, siRange2_c, siRangeD_c, slR1_c, slR2_c, sCall_c, sCallN_c, saNil_c, saCons_c, saBag_c, sComp_c, sRevL_c, sgTup_t, sgCons_c, sgNil_n, freezeSl, setUn, Slot.inner, List.map_cons, List.map_nil, List.replicate, List.cons_append, List.nil_append, List.append_nil, List.getElem?_cons_zero, List.getElem?_cons_succ, List.set_cons_zero, List.set_cons_succ, List.length_cons, List.length_nil, and_assoc, Option.some.injEq, PyData.list.injEq, PyData.tuple.injEq, toL_n, Nat.sub_self, Nat.zero_add, Nat.reduceAdd, Nat.reduceSub, true_and, and_true, addD_ii, subD_ii, ltD_ii, leD_ii, gtD_ii, geD_ii, negD_i, mulD_i, fdivD_i, modD_i, itemsD_l, itemsD_t, tupleB_l, tupleB_t, listB_l, listB_t, lenB_l, lenB_t, intB_i, intB_b, fold2_i, appendM_1, ixN_len, reduceCtorEq, reduceIte, Bool.and_self, Bool.true_and, Bool.false_and, Bool.and_true, Bool.and_false, Bool.not_true, Bool.not_false, PyData.isTuple, PyData.isInt, PyData.isBool, PyData.isList, PyData.isStr, isBLT]
            exact h
          | true =>
            rw [e2, Bool.true_and] at h
            simp -implicitDefEqProofs (disch := ((try simp only [List.length_map, List.length_append, List.length_cons, List.length_nil, List.length_take, List.length_drop, List.length_set, List.length_replicate, List.length_range, List.length_zipIdx, List.length_zip]); omega)) only [kVal_s, hold_c, kNx_c, kRt_c, kRtN_c, kAsg_c, kAsgF_c, kPar_c, kParF_c, kParF2_c, kExp_c, kFor_c, kIf_t, kIf_f, kIfV_t, kIfV_f, kOrT_t, kOrT_f, kAndT_t, kAndT_f, kNotT_c, kAnd_t, kAnd_f, kOr_t, kOr_f, kNot_b, kTest_b, kBin_c, kBin2_c, kUn_c, kChain_t, kChain_f, kCh1_c, kCh2_c, kRet_d, kRet_n, kRetN_n, kSome_i, kSlot_d, kDc_c, kDc2_c, kLst_c, kLen_c, kTup_c, kCB_c, kIsa_c, kSl1_c, kSl2_c, kSl3_c, kRtO_c, kOm_c, kOm2_c, kOm3_c, kSo_c, kSo2_c, kSo3_c, kOi_c, kOi2_c, kSeq_c, kEnum_c, kEnum2_c, kZip_c, kZip2_c, kZip3_c, kZip4_c, kRg1_c, kRg2_c, kRg2b_c, kRgD_c, kRgDb_c, kCall_c, kCallN_c, kAc_c, kAc2_c, kBag_b, kComp_c, kRev_c, kGc_c, kFl_c, compT_c, kCt_c, kCt2_t, kCt2_f, fnS_c, ssSeq_c, ssRet_c, ssRetF_c, ssRetOwn_c, ssRetN_c, ssAsg_c, ssAsgF_c, ssPar_c, ssParF_c, ssIf_c, ssExpr_c, ssNil_c, ssPass_c, ssBreak_c, ssCont_c, ssFor_c, ssFreeze_c, ssOwnM_c, sVar_c, sC_c, sBin_c, sUn_c, sTest_c, sNotT_c, sAndT_c, sOrT_c, sBorT_c, sAndV_c, sOrV_c, sNotV_c, sIf_c, sChain_c, stYes_c, sdNil_c, sdCons_c, sLst_c, sLen_c, sTup_c, sCallB_c, sCallL_c, sIsa_c, sSlice_c, soNone_c, soSome_c, sgName_c, sgOwn_c, sOwnIx_c, siSeq_c, siEnum_c, siZip_c, siRange1_c, siRange2_c, siRangeD_c, slR1_c, slR2_c, sCall_c, sCallN_c, saNil_c, saCons_c, saBag_c, sComp_c, sRevL_c, sgTup_t, sgCons_c, sgNil_n, freezeSl, setUn, Slot.inner, List.map_cons, List.map_nil, List.replicate, List.cons_append, List.nil_append, List.append_nil, List.getElem?_cons_zero, List.getElem?_cons_succ, List.set_cons_zero, List.set_cons_succ, List.length_cons, List.length_nil, and_assoc, Option.some.injEq, PyData.list.injEq, PyData.tuple.injEq, toL_n, Nat.sub_self, Nat.zero_add, Nat.reduceAdd, Nat.reduceSub, true_and, and_true, addD_ii, subD_ii, ltD_ii, leD_ii, gtD_ii, geD_ii, negD_i, mulD_i, fdivD_i, modD_i, itemsD_l, itemsD_t, tupleB_l, tupleB_t, listB_l, listB_t, lenB_l, lenB_t, intB_i, intB_b, fold2_i, appendM_1, ixN_len, reduceCtorEq, reduceIte, Bool.and_self, Bool.true_and, Bool.false_and, Bool.and_true, Bool.and_false, Bool.not_true, Bool.not_false, PyData.isTuple, PyData.isInt, PyData.isBool, PyData.isList, PyData.isStr, isBLT, List.length_map]
            refine ⟨Nat.le_trans hx (by decide), ?_⟩
            refine compL_map PyData.int (fun i => .int (rs.getD i.toNat 0)) _ _ (fun i hii K N hk => ?_) ?_
            · have := hi i hii
              simp -implicitDefEqProofs (disch := ((try simp only [List.length_map, List.length_append, List.length_cons, List.length_nil, List.length_take, List.length_drop, List.length_set, List.length_replicate, List.length_range, List.length_zipIdx, List.length_zip]); omega)) only [kVal_s, hold_c, kNx_c, kRt_c, kRtN_c, kAsg_c, kAsgF_c, kPar_c, kParF_c, kParF2_c, kExp_c, kFor_c, kIf_t, kIf_f, kIfV_t, kIfV_f, kOrT_t, kOrT_f, kAndT_t, kAndT_f, kNotT_c, kAnd_t, kAnd_f, kOr_t, kOr_f, kNot_b, kTest_b, kBin_c, kBin2_c, kUn_c, kChain_t, kChain_f, kCh1_c, kCh2_c, kRet_d, kRet_n, kRetN_n, kSome_i, kSlot_d, kDc_c, kDc2_c, kLst_c, kLen_c, kTup_c, kCB_c, kIsa_c, kSl1_c, kSl2_c, kSl3_c, kRtO_c, kOm_c, kOm2_c, kOm3_c, kSo_c, kSo2_c, kSo3_c, kOi_c, kOi2_c, kSeq_c, kEnum_c, kEnum2_c, kZip_c, kZip2_c, kZip3_c, kZip4_c, kRg1_c, kRg2_c, kRg2b_c, kRgD_c, kRgDb_c, kCall_c, kCallN_c, kAc_c, kAc2_c, kBag_b, kComp_c, kRev_c, kGc_c, kFl_c, compT_c, kCt_c, kCt2_t, kCt2_f, fnS_c, ssSeq_c, ssRet_c, ssRetF_c, ssRetOwn_c, ssRetN_c, ssAsg_c, ssAsgF_c, ssPar_c, ssParF_c, ssIf_c, ssExpr_c, ssNil_c, ssPass_c, ssBreak_c, ssCont_c, ssFor_c, ssFreeze_c, ssOwnM_c, sVar_c, sC_c, sBin_c, sUn_c, sTest_c, sNotT_c, sAndT_c, sOrT_c, sBorT_c, sAndV_c, sOrV_c, sNotV_c, sIf_c, sChain_c, stYes_c, sdNil_c, sdCons_c, sLst_c, sLen_c, sTup_c, sCallB_c, sCallL_c, sIsa_c, sSlice_c, soNone_c, soSome_c, sgName_c, sgOwn_c, sOwnIx_c, siSeq_c, siEnum_c, siZip_c, siRange1_c, siRange2_c, siRangeD_c, slR1_c, slR2_c, sCall_c, sCallN_c, saNil_c, saCons_c, saBag_c, sComp_c, sRevL_c, sgTup_t, sgCons_c, sgNil_n, freezeSl, setUn, Slot.inner, List.map_cons, List.map_nil, List.replicate, List.cons_append, List.nil_append, List.append_nil, List.getElem?_cons_zero, List.getElem?_cons_succ, List.set_cons_zero, List.set_cons_succ, List.length_cons, List.length_nil, and_assoc, Option.some.injEq, PyData.list.injEq, PyData.tuple.injEq, toL_n, Nat.sub_self, Nat.zero_add, Nat.reduceAdd, Nat.reduceSub, true_and, and_true, addD_ii, subD_ii, ltD_ii, leD_ii, gtD_ii, geD_ii, negD_i, mulD_i, fdivD_i, modD_i, itemsD_l, itemsD_t, tupleB_l, tupleB_t, listB_l, listB_t, lenB_l, lenB_t, intB_i, intB_b, fold2_i, appendM_1, ixN_len, reduceCtorEq, reduceIte, Bool.and_self, Bool.true_and, Bool.false_and, Bool.and_true, Bool.and_false, Bool.not_true, Bool.not_false, PyData.isTuple, PyData.isInt, PyData.isBool, PyData.isList, PyData.isStr, isBLT, e3_is_shortage, ixD_t]
              exact hk
            · rw [show (is.map fun i => PyData.int (rs.getD i.toNat 0)) = (is.map fun i => rs.getD i.toNat 0).map PyData.int by rw [List.map_map]; rfl]
              simp -implicitDefEqProofs (disch := ((try simp only [List.length_map, List.length_append, List.length_cons, List.length_nil, List.length_take, List.length_drop, List.length_set, List.length_replicate, List.length_range, List.length_zipIdx, List.length_zip]); omega)) only [kVal_s, hold_c, kNx_c, kRt_c, kRtN_c, kAsg_c, kAsgF_c, kPar_c, kParF_c, kParF2_c, kExp_c, kFor_c, kIf_t, kIf_f, kIfV_t, kIfV_f, kOrT_t, kOrT_f, kAndT_t, kAndT_f, kNotT_c, kAnd_t, kAnd_f, kOr_t, kOr_f, kNot_b, kTest_b, kBin_c, kBin2_c, kUn_c, kChain_t, kChain_f, kCh1_c, kCh2_c, kRet_d, kRet_n, kRetN_n, kSome_i, kSlot_d, kDc_c, kDc2_c, kLst_c, kLen_c, kTup_c, kCB_c, kIsa_c, kSl1_c, kSl2_c, kSl3_c, kRtO_c, kOm_c, kOm2_c, kOm3_c, kSo_c, kSo2_c, kSo3_c, kOi_c, kOi2_c, kSeq_c, kEnum_c, kEnum2_c, kZip_c, kZip2_c, kZip3_c, kZip4_c, kRg1_c, kRg2_c, kRg2b_c, kRgD_c, kRgDb_c, kCall_c, kCallN_c, kAc_c, kAc2_c, kBag_b, kComp_c, kRev_c, kGc_c, kFl_c, compT_c, kCt_c, kCt2_t, kCt2_f, fnS_c, ssSeq_c, ssRet_c, ssRetF_c, ssRetOwn_c, ssRetN_c, ssAsg_c, ssAsgF_c, ssPar_c, ssParF_c, ssIf_c, ssExpr_c, ssNil_c, ssPass_c, ssBreak_c, ssCont_c, ssFor_c, ssFreeze_c, ssOwnM_c, sVar_c, sC_c, sBin_c, sUn_c, sTest_c, sNotT_c, sAndT_c, sOrT_c, sBorT_c, sAndV_c, sOrV_c, sNotV_c, sIf_c, sChain_c, stYes_c, sdNil_c, sdCons_c, sLst_c, sLen_c, sTup_c, sCallB_c, sCallL_c, sIsa_c, sSlice_c, soNone_c, soSome_c, sgName_c, sgOwn_c, sOwnIx_c, siSeq_c, siEnum_c, siZip_c, siRange1_c, siRange2_c, siRangeD_c, slR1_c, slR2_c, sCall_c, sCallN_c, saNil_c, saCons_c, saBag_c, sComp_c, sRevL_c, sgTup_t, sgCons_c, sgNil_n, freezeSl, setUn, Slot.inner, List.map_cons, List.map_nil, List.replicate, List.cons_append, List.nil_append, List.append_nil, List.getElem?_cons_zero, List.getElem?_cons_succ, List.set_cons_zero, List.set_cons_succ, List.length_cons, List.length_nil, and_assoc, Option.some.injEq, PyData.list.injEq, PyData.tuple.injEq, toL_n, Nat.sub_self, Nat.zero_add, Nat.reduceAdd, Nat.reduceSub, true_and, and_true, addD_ii, subD_ii, ltD_ii, leD_ii, gtD_ii, geD_ii, negD_i, mulD_i, fdivD_i, modD_i, itemsD_l, itemsD_t, tupleB_l, tupleB_t, listB_l, listB_t, lenB_l, lenB_t, intB_i, intB_b, fold2_i, appendM_1, ixN_len, reduceCtorEq, reduceIte, Bool.and_self, Bool.true_and, Bool.false_and, Bool.and_true, Bool.and_false, Bool.not_true, Bool.not_false, PyData.isTuple, PyData.isInt, PyData.isBool, PyData.isList, PyData.isStr, isBLT, sumB_l, List.length_map]
              refine sp_least (by omega) ?_
              simp -implicitDefEqProofs (disch := ((try simp only [List.length_map, List.length_append, List.length_cons, List.length_nil, List.length_take, List.length_drop, List.length_set, List.length_replicate, List.length_range, List.length_zipIdx, List.length_zip]); omega)) only [kVal_s, hold_c, kNx_c, kRt_c, kRtN_c, kAsg_c, kAsgF_c, kPar_c, kParF_c, kParF2_c, kExp_c, kFor_c, kIf_t, kIf_f, kIfV_t, kIfV_f, kOrT_t, kOrT_f, kAndT_t, kAndT_f, kNotT_c, kAnd_t, kAnd_f, kOr_t, kOr_f, kNot_b, kTest_b, kBin_c, kBin2_c, kUn_c, kChain_t, kChain_f, kCh1_c, kCh2_c, kRet_d, kRet_n, kRetN_n, kSome_i, kSlot_d, kDc_c, kDc2_c, kLst_c, kLen_c, kTup_c, kCB_c, kIsa_c, kSl1_c, kSl2_c, kSl3_c, kRtO_c, kOm_c, kOm2_c, kOm3_c, kSo_c, kSo2_c, kSo3_c, kOi_c, kOi2_c, kSeq_c, kEnum_c, kEnum2_c, kZip_c, kZip2_c, kZip3_c, kZip4_c, kRg1_c, kRg2_c, kRg2b_c, kRgD_c, kRgDb_c, kCall_c, kCallN_c, kAc_c, kAc2_c, kBag_b, kComp_c, kRev_c, kGc_c, kFl_c, compT_c, kCt_c, kCt2_t, kCt2_f, fnS_c, ssSeq_c, ssRet_c, ssRetF_c, ssRetOwn_c, ssRetN_c, ssAsg_c, ssAsgF_c, ssPar_c, ssParF_c, ssIf_c, ssExpr_c, ssNil_c, ssPass_c, ssBreak_c, ssCont_c, ssFor_c, ssFreeze_c, ssOwnM_c, sVar_c, sC_c, sBin_c, sUn_c, sTest_c, sNotT_c, sAndT_c, sOrT_c, sBorT_c, sAndV_c, sOrV_c, sNotV_c, sIf_c, sChain_c, stYes_c, sdNil_c, sdCons_c, sLst_c, sLen_c, sTup_c, sCallB_c, sCallL_c, sIsa_c, sSlice_c, soNone_c, soSome_c, sgName_c, sgOwn_c, sOwnIx_c, siSeq_c, siEnum_c, siZip_c, siRange1_c, siRange2_c, siRangeD_c, slR1_c, slR2_c, sCall_c, sCallN_c, saNil_c, saCons_c, saBag_c, sComp_c, sRevL_c, sgTup_t, sgCons_c, sgNil_n, freezeSl, setUn, Slot.inner, List.map_cons, List.map_nil, List.replicate, List.cons_append, List.nil_append, List.append_nil, List.getElem?_cons_zero, List.getElem?_cons_succ, List.set_cons_zero, List.set_cons_succ, List.length_cons, List.length_nil, and_assoc, Option.some.injEq, PyData.list.injEq, PyData.tuple.injEq, toL_n, Nat.sub_self, Nat.zero_add, Nat.reduceAdd, Nat.reduceSub, true_and, and_true, addD_ii, subD_ii, ltD_ii, leD_ii, gtD_ii, geD_ii, negD_i, mulD_i, fdivD_i, modD_i, itemsD_l, itemsD_t, tupleB_l, tupleB_t, listB_l, listB_t, lenB_l, lenB_t, intB_i, intB_b, fold2_i, appendM_1, ixN_len, reduceCtorEq, reduceIte, Bool.and_self, Bool.true_and, Bool.false_and, Bool.and_true, Bool.and_false, Bool.not_true, Bool.not_false, PyData.isTuple, PyData.isInt, PyData.isBool, PyData.isList, PyData.isStr, isBLT]
              exact h
  | _ =>
    simp -implicitDefEqProofs (disch := ((try simp only [List.length_map, List.length_append, List.length_cons, List.length_nil, List.length_take, List.length_drop, List.length_set, List.length_replicate, List.length_range, List.length_zipIdx, List.length_zip]); omega)) only [kVal_s, hold_c, kNx_c, kRt_c, kRtN_c, kAsg_c, kAsgF_c, kPar_c, kParF_c, kParF2_c, kExp_c, kFor_c, kIf_t, kIf_f, kIfV_t, kIfV_f, kOrT_t, kOrT_f, kAndT_t, kAndT_f, kNotT_c, kAnd_t, kAnd_f, kOr_t, kOr_f, kNot_b, kTest_b, kBin_c, kBin2_c, kUn_c, kChain_t, kChain_f, kCh1_c, kCh2_c, kRet_d, kRet_n, kRetN_n, kSome_i, kSlot_d, kDc_c, kDc2_c, kLst_c, kLen_c, kTup_c, kCB_c, kIsa_c, kSl1_c, kSl2_c, kSl3_c, kRtO_c, kOm_c, kOm2_c, kOm3_c, kSo_c, kSo2_c, kSo3_c, kOi_c, kOi2_c, kSeq_c, kEnum_c, kEnum2_c, kZip_c, kZip2_c, kZip3_c, kZip4_c, kRg1_c, kRg2_c, kRg2b_c, kRgD_c, kRgDb_c, kCall_c, kCallN_c, kAc_c, kAc2_c, kBag_b, kComp_c, kRev_c, kGc_c, kFl_c, compT_c, kCt_c, kCt2_t, kCt2_f, fnS_c, ssSeq_c, ssRet_c, ssRetF_c, ssRetOwn_c, ssRetN_c, ssAsg_c, ssAsgF_c, ssPar_c, ssParF_c, ssIf_c, ssExpr_c, ssNil_c, ssPass_c, ssBreak_c, ssCont_c, ssFor_c, ssFreeze_c, ssOwnM_c, sVar_c, sC_c, sBin_c, sUn_c, sTest_c, sNotT_c, sAndT_c, sOrT_c, sBorT_c, sAndV_c, sOrV_c, sNotV_c, sIf_c, sChain_c, stYes_c, sdNil_c, sdCons_c, sLst_c, sLen_c, sTup_c, sCallB_c, sCallL_c, sIsa_c, sSlice_c, soNone_c, soSome_c, sgName_c, sgOwn_c, sOwnIx_c, siSeq_c, siEnum_c, siZip_c, siRange1_c, siRange2_c, siRangeD_c, slR1_c, slR2_c, sCall_c, sCallN_c, saNil_c, saCons_c, saBag_c, sComp_c, sRevL_c, sgTup_t, sgCons_c, sgNil_n, freezeSl, setUn, Slot.inner, List.map_cons, List.map_nil, List.replicate, List.cons_append, List.nil_append, List.append_nil, List.getElem?_cons_zero, List.getElem?_cons_succ, List.set_cons_zero, List.set_cons_succ, List.length_cons, List.length_nil, and_assoc, Option.some.injEq, PyData.list.injEq, PyData.tuple.injEq, toL_n, Nat.sub_self, Nat.zero_add, Nat.reduceAdd, Nat.reduceSub, true_and, and_true, addD_ii, subD_ii, ltD_ii, leD_ii, gtD_ii, geD_ii, negD_i, mulD_i, fdivD_i, modD_i, itemsD_l, itemsD_t, tupleB_l, tupleB_t, listB_l, listB_t, lenB_l, lenB_t, intB_i, intB_b, fold2_i, appendM_1, ixN_len, reduceCtorEq, reduceIte, Bool.and_self, Bool.true_and, Bool.false_and, Bool.and_true, Bool.and_false, Bool.not_true, Bool.not_false, PyData.isTuple, PyData.isInt, PyData.isBool, PyData.isList, PyData.isStr, isBLT]
    exact h
end PT
set_option maxHeartbeats 1000000
namespace PT
open PySem PySem.Spec PyProof.Rows L2 DL
/-! draws: races, totals -/
theorem sp_take {n : Int} {m F R} (hn : 0 < n ∧ n < 1000000000) (hm : m < 4611686018427387904) (h : ∀ x : Int, 0 ≤ x → x < n → R (.dat (.int x)) (m + 1)) : m__law_take [.bag, .dat (.int n)] m F R := ⟨n, rfl, hn, hm, h⟩
def places (n : Nat) : List Int := (List.range n).map fun (i : Nat) => (i : Int) + 1
def IsRace (n : Nat) (r : List Int) : Prop := r.Perm (places n)
theorem places_succ (n : Nat) : places (n + 1) = places n ++ [(n : Int) + 1] := by
  unfold places
  rw [List.range_succ, List.map_append]
  rfl
theorem lp_race {De : DEnds} {F : Exc → Prop} {n : Nat} : ∀ (k j m : Nat) (found : List Int) (x3 x4 : Slot), j + k ≤ 1000000 → m + k < 4611686018427387904 → found.Perm (places j) →
    (∀ (race : List Int) (m' : Nat) (x3 x4 : Slot), race.Perm (places (j + k)) → m ≤ m' → m' ≤ m + k → De.nx ⟨[.bag, .dat (.int n), .dat (tI race), x3, x4], m', F⟩) →
    forL (sgName 3) L1__law_race De ((List.range' j k).map fun (i : Nat) => PyData.int (1 + (i : Int))) ⟨[.bag, .dat (.int n), .dat (tI found), x3, x4], m, F⟩
  | 0, j, m, found, x3, x4, hj, hm, hp, h => h found m x3 x4 hp (Nat.le_refl _) (Nat.le_refl _)
  | k + 1, j, m, found, x3, x4, hj, hm, hp, h => by
    rw [List.range'_succ, List.map_cons, forL_c]
    simp -implicitDefEqProofs (disch := ((try simp only [List.length_map, List.length_append, List.length_cons, List.length_nil, List.length_take, List.length_drop, List.length_set, List.length_replicate, List.length_range, List.length_zipIdx, List.length_zip]); omega)) only [kVal_s, hold_c, kNx_c, kRt_c, kRtN_c, kAsg_c, kAsgF_c, kPar_c, kParF_c, kParF2_c, kExp_c, kFor_c, kIf_t, kIf_f, kIfV_t, kIfV_f, kOrT_t, kOrT_f, kAndT_t, kAndT_f, kNotT_c, kAnd_t, kAnd_f, kOr_t, kOr_f, kNot_b, kTest_b, kBin_c, kBin2_c, kUn_c, kChain_t, kChain_f, kCh1_c, kCh2_c, kRet_d, kRet_n, kRetN_n, kSome_i, kSlot_d, kDc_c, kDc2_c, kLst_c, kLen_c, kTup_c, kCB_c, kIsa_c, kSl1_c, kSl2_c, kSl3_c, kRtO_c, kOm_c, kOm2_c, kOm3_c, kSo_c, kSo2_c, kSo3_c, kOi_c, kOi2_c, kSeq_c, kEnum_c, kEnum2_c, kZip_c, kZip2_c, kZip3_c, kZip4_c, kRg1_c, kRg2_c, kRg2b_c, kRgD_c, kRgDb_c, kCall_c, kCallN_c, kAc_c, kAc2_c, kBag_b, kComp_c, kRev_c, kGc_c, kFl_c, compT_c, kCt_c, kCt2_t, kCt2_f, fnS_c, ssSeq_c, ssRet_c, ssRetF_c, ssRetOwn_c, ssRetN_c, ssAsg_c, ssAsgF_c, ssPar_c, ssParF_c, ssIf_c, ssExpr_c, ssNil_c, ssPass_c, ssBreak_c, ssCont_c, ssFor_c, ssFreeze_c, ssOwnM_c, sVar_c, sC_c, sBin_c, sUn_c, sTest_c, sNotT_c, sAndT_c, sOrT_c, sBorT_c, sAndV_c, sOrV_c, sNotV_c, sIf_c, sChain_c, stYes_c, sdNil_c, sdCons_c, sLst_c, sLen_c, sTup_c, sCallB_c, sCallL_c, sIsa_c, sSlice_c, soNone_c, soSome_c, sgName_c, sgOwn_c, sOwnIx_c, siSeq_c, siEnum_c, siZip_c, siRange1_c, siRange2_c, siRangeD_c, slR1_c, slR2_c, sCall_c, sCallN_c, saNil_c, saCons_c, saBag_c, sComp_c, sRevL_c, sgTup_t, sgCons_c, sgNil_n, freezeSl, setUn, Slot.inner, List.map_cons, List.map_nil, List.replicate, List.cons_append, List.nil_append, List.append_nil, List.getElem?_cons_zero, List.getElem?_cons_succ, List.set_cons_zero, List.set_cons_succ, List.length_cons, List.length_nil, and_assoc, Option.some.injEq, PyData.list.injEq, PyData.tuple.injEq, toL_n, Nat.sub_self, Nat.zero_add, Nat.reduceAdd, Nat.reduceSub, true_and, and_true, addD_ii, subD_ii, ltD_ii, leD_ii, gtD_ii, geD_ii, negD_i, mulD_i, fdivD_i, modD_i, itemsD_l, itemsD_t, tupleB_l, tupleB_t, listB_l, listB_t, lenB_l, lenB_t, intB_i, intB_b, fold2_i, appendM_1, ixN_len, reduceCtorEq, reduceIte, Bool.and_self, Bool.true_and, Bool.false_and, Bool.and_true, Bool.and_false, Bool.not_true, Bool.not_false, PyData.isTuple, PyData.isInt, PyData.isBool, PyData.isList, PyData.isStr, isBLT, L1__law_race]
    refine sp_take (by omega) (by omega) fun x hx0 hx1 => ?_
    have hfl : found.length ≤ 1000000 := by
      rw [hp.length_eq, places, List.length_map, List.length_range]
      omega
    simp -implicitDefEqProofs (disch := ((try simp only [List.length_map, List.length_append, List.length_cons, List.length_nil, List.length_take, List.length_drop, List.length_set, List.length_replicate, List.length_range, List.length_zipIdx, List.length_zip]); omega)) only [kVal_s, hold_c, kNx_c, kRt_c, kRtN_c, kAsg_c, kAsgF_c, kPar_c, kParF_c, kParF2_c, kExp_c, kFor_c, kIf_t, kIf_f, kIfV_t, kIfV_f, kOrT_t, kOrT_f, kAndT_t, kAndT_f, kNotT_c, kAnd_t, kAnd_f, kOr_t, kOr_f, kNot_b, kTest_b, kBin_c, kBin2_c, kUn_c, kChain_t, kChain_f, kCh1_c, kCh2_c, kRet_d, kRet_n, kRetN_n, kSome_i, kSlot_d, kDc_c, kDc2_c, kLst_c, kLen_c, kTup_c, kCB_c, kIsa_c, kSl1_c, kSl2_c, kSl3_c, kRtO_c, kOm_c, kOm2_c, kOm3_c, kSo_c, kSo2_c, kSo3_c, kOi_c, kOi2_c, kSeq_c, kEnum_c, kEnum2_c, kZip_c, kZip2_c, kZip3_c, kZip4_c, kRg1_c, kRg2_c, kRg2b_c, kRgD_c, kRgDb_c, kCall_c, kCallN_c, kAc_c, kAc2_c, kBag_b, kComp_c, kRev_c, kGc_c, kFl_c, compT_c, kCt_c, kCt2_t, kCt2_f, fnS_c, ssSeq_c, ssRet_c, ssRetF_c, ssRetOwn_c, ssRetN_c, ssAsg_c, ssAsgF_c, ssPar_c, ssParF_c, ssIf_c, ssExpr_c, ssNil_c, ssPass_c, ssBreak_c, ssCont_c, ssFor_c, ssFreeze_c, ssOwnM_c, sVar_c, sC_c, sBin_c, sUn_c, sTest_c, sNotT_c, sAndT_c, sOrT_c, sBorT_c, sAndV_c, sOrV_c, sNotV_c, sIf_c, sChain_c, stYes_c, sdNil_c, sdCons_c, sLst_c, sLen_c, sTup_c, sCallB_c, sCallL_c, sIsa_c, sSlice_c, soNone_c, soSome_c, sgName_c, sgOwn_c, sOwnIx_c, siSeq_c, siEnum_c, siZip_c, siRange1_c, siRange2_c, siRangeD_c, slR1_c, slR2_c, sCall_c, sCallN_c, saNil_c, saCons_c, saBag_c, sComp_c, sRevL_c, sgTup_t, sgCons_c, sgNil_n, freezeSl, setUn, Slot.inner, List.map_cons, List.map_nil, List.replicate, List.cons_append, List.nil_append, List.append_nil, List.getElem?_cons_zero, List.getElem?_cons_succ, List.set_cons_zero, List.set_cons_succ, List.length_cons, List.length_nil, and_assoc, Option.some.injEq, PyData.list.injEq, PyData.tuple.injEq, toL_n, Nat.sub_self, Nat.zero_add, Nat.reduceAdd, Nat.reduceSub, true_and, and_true, addD_ii, subD_ii, ltD_ii, leD_ii, gtD_ii, geD_ii, negD_i, mulD_i, fdivD_i, modD_i, itemsD_l, itemsD_t, tupleB_l, tupleB_t, listB_l, listB_t, lenB_l, lenB_t, intB_i, intB_b, fold2_i, appendM_1, ixN_len, reduceCtorEq, reduceIte, Bool.and_self, Bool.true_and, Bool.false_and, Bool.and_true, Bool.and_false, Bool.not_true, Bool.not_false, PyData.isTuple, PyData.isInt, PyData.isBool, PyData.isList, PyData.isStr, isBLT, tI, slice_tt, slice_tf, addD_t]
    refine ⟨by decide, ?_⟩
    rw [← List.map_take, ← List.map_drop]
    have e : (found.take x.toNat).map PyData.int ++ PyData.int (1 + (j : Int)) :: (found.drop x.toNat).map PyData.int = (found.take x.toNat ++ ((j : Int) + 1) :: found.drop x.toNat).map PyData.int := by
      rw [List.map_append, List.map_cons, Int.add_comm]
    rw [List.append_assoc, List.cons_append, List.nil_append, e]
    refine lp_race k (j + 1) (m + 1) _ _ _ (by omega) (by omega) ?_ fun race m' y3 y4 hr h3 h4 => h race m' y3 y4 (by rw [show j + (k + 1) = j + 1 + k by omega]; exact hr) (by omega) (by omega)
    rw [places_succ]
    refine List.perm_middle.trans ?_
    rw [List.take_append_drop]
    exact (hp.cons _).trans (List.perm_append_singleton _ _).symm
theorem sp_race {n : Nat} {m F R} (hn : n ≤ 1000) (hm : m + n < 4611686018427387904) (h : ∀ (race : List Int) (m' : Nat), IsRace n race → m ≤ m' → m' ≤ m + n → R (.dat (tI race)) m') : m__law_race [.bag, .dat (.int (n : Int))] m F R := by
  simp -implicitDefEqProofs (disch := ((try simp only [List.length_map, List.length_append, List.length_cons, List.length_nil, List.length_take, List.length_drop, List.length_set, List.length_replicate, List.length_range, List.length_zipIdx, List.length_zip]); omega)) only [kVal_s, hold_c, kNx_c, kRt_c, kRtN_c, kAsg_c, kAsgF_c, kPar_c, kParF_c, kParF2_c, kExp_c, kFor_c, kIf_t, kIf_f, kIfV_t, kIfV_f, kOrT_t, kOrT_f, kAndT_t, kAndT_f, kNotT_c, kAnd_t, kAnd_f, kOr_t, kOr_f, kNot_b, kTest_b, kBin_c, kBin2_c, kUn_c, kChain_t, kChain_f, kCh1_c, kCh2_c, kRet_d, kRet_n, kRetN_n, kSome_i, kSlot_d, kDc_c, kDc2_c, kLst_c, kLen_c, kTup_c, kCB_c, kIsa_c, kSl1_c, kSl2_c, kSl3_c, kRtO_c, kOm_c, kOm2_c, kOm3_c, kSo_c, kSo2_c, kSo3_c, kOi_c, kOi2_c, kSeq_c, kEnum_c, kEnum2_c, kZip_c, kZip2_c, kZip3_c, kZip4_c, kRg1_c, kRg2_c, kRg2b_c, kRgD_c, kRgDb_c, kCall_c, kCallN_c, kAc_c, kAc2_c, kBag_b, kComp_c, kRev_c, kGc_c, kFl_c, compT_c, kCt_c, kCt2_t, kCt2_f, fnS_c, ssSeq_c, ssRet_c, ssRetF_c, ssRetOwn_c, ssRetN_c, ssAsg_c, ssAsgF_c, ssPar_c, ssParF_c, ssIf_c, ssExpr_c, ssNil_c, ssPass_c, ssBreak_c, ssCont_c, ssFor_c, ssFreeze_c, ssOwnM_c, sVar_c, sC_c, sBin_c, sUn_c, sTest_c, sNotT_c, sAndT_c, sOrT_c, sBorT_c, sAndV_c, sOrV_c, sNotV_c, sIf_c, sChain_c, stYes_c, sdNil_c, sdCons_c, sLst_c, sLen_c, sTup_c, sCallB_c, sCallL_c, sIsa_c, sSlice_c, soNone_c, soSome_c, sgName_c, sgOwn_c, sOwnIx_c, siSeq_c, siEnum_c, siZip_c, siRange1_c, siRange2_c, siRangeD_c, slR1_c, slR2_c, sCall_c, sCallN_c, saNil_c, saCons_c, saBag_c, sComp_c, sRevL_c, sgTup_t, sgCons_c, sgNil_n, freezeSl, setUn, Slot.inner, List.map_cons, List.map_nil, List.replicate, List.cons_append, List.nil_append, List.append_nil, List.getElem?_cons_zero, List.getElem?_cons_succ, List.set_cons_zero, List.set_cons_succ, List.length_cons, List.length_nil, and_assoc, Option.some.injEq, PyData.list.injEq, PyData.tuple.injEq, toL_n, Nat.sub_self, Nat.zero_add, Nat.reduceAdd, Nat.reduceSub, true_and, and_true, addD_ii, subD_ii, ltD_ii, leD_ii, gtD_ii, geD_ii, negD_i, mulD_i, fdivD_i, modD_i, itemsD_l, itemsD_t, tupleB_l, tupleB_t, listB_l, listB_t, lenB_l, lenB_t, intB_i, intB_b, fold2_i, appendM_1, ixN_len, reduceCtorEq, reduceIte, Bool.and_self, Bool.true_and, Bool.false_and, Bool.and_true, Bool.and_false, Bool.not_true, Bool.not_false, PyData.isTuple, PyData.isInt, PyData.isBool, PyData.isList, PyData.isStr, isBLT, m__law_race, b__law_race]
  refine ⟨by decide, by decide, by decide, by omega, by omega, ?_⟩
  have e : rangeD 1 ((n : Int) + 1 - 1).toNat = (List.range' 0 n).map fun (i : Nat) => PyData.int (1 + (i : Int)) := by
    rw [show ((n : Int) + 1 - 1).toNat = n by omega, ← List.range_eq_range']
    rfl
  rw [e]
  refine lp_race n 0 m [] _ _ (by omega) hm (List.Perm.refl _) fun race m' x3 x4 hr h1 h2 => ?_
  simp -implicitDefEqProofs (disch := ((try simp only [List.length_map, List.length_append, List.length_cons, List.length_nil, List.length_take, List.length_drop, List.length_set, List.length_replicate, List.length_range, List.length_zipIdx, List.length_zip]); omega)) only [kVal_s, hold_c, kNx_c, kRt_c, kRtN_c, kAsg_c, kAsgF_c, kPar_c, kParF_c, kParF2_c, kExp_c, kFor_c, kIf_t, kIf_f, kIfV_t, kIfV_f, kOrT_t, kOrT_f, kAndT_t, kAndT_f, kNotT_c, kAnd_t, kAnd_f, kOr_t, kOr_f, kNot_b, kTest_b, kBin_c, kBin2_c, kUn_c, kChain_t, kChain_f, kCh1_c, kCh2_c, kRet_d, kRet_n, kRetN_n, kSome_i, kSlot_d, kDc_c, kDc2_c, kLst_c, kLen_c, kTup_c, kCB_c, kIsa_c, kSl1_c, kSl2_c, kSl3_c, kRtO_c, kOm_c, kOm2_c, kOm3_c, kSo_c, kSo2_c, kSo3_c, kOi_c, kOi2_c, kSeq_c, kEnum_c, kEnum2_c, kZip_c, kZip2_c, kZip3_c, kZip4_c, kRg1_c, kRg2_c, kRg2b_c, kRgD_c, kRgDb_c, kCall_c, kCallN_c, kAc_c, kAc2_c, kBag_b, kComp_c, kRev_c, kGc_c, kFl_c, compT_c, kCt_c, kCt2_t, kCt2_f, fnS_c, ssSeq_c, ssRet_c, ssRetF_c, ssRetOwn_c, ssRetN_c, ssAsg_c, ssAsgF_c, ssPar_c, ssParF_c, ssIf_c, ssExpr_c, ssNil_c, ssPass_c, ssBreak_c, ssCont_c, ssFor_c, ssFreeze_c, ssOwnM_c, sVar_c, sC_c, sBin_c, sUn_c, sTest_c, sNotT_c, sAndT_c, sOrT_c, sBorT_c, sAndV_c, sOrV_c, sNotV_c, sIf_c, sChain_c, stYes_c, sdNil_c, sdCons_c, sLst_c, sLen_c, sTup_c, sCallB_c, sCallL_c, sIsa_c, sSlice_c, soNone_c, soSome_c, sgName_c, sgOwn_c, sOwnIx_c, siSeq_c, siEnum_c, siZip_c, siRange1_c, siRange2_c, siRangeD_c, slR1_c, slR2_c, sCall_c, sCallN_c, saNil_c, saCons_c, saBag_c, sComp_c, sRevL_c, sgTup_t, sgCons_c, sgNil_n, freezeSl, setUn, Slot.inner, List.map_cons, List.map_nil, List.replicate, List.cons_append, List.nil_append, List.append_nil, List.getElem?_cons_zero, List.getElem?_cons_succ, List.set_cons_zero, List.set_cons_succ, List.length_cons, List.length_nil, and_assoc, Option.some.injEq, PyData.list.injEq, PyData.tuple.injEq, toL_n, Nat.sub_self, Nat.zero_add, Nat.reduceAdd, Nat.reduceSub, true_and, and_true, addD_ii, subD_ii, ltD_ii, leD_ii, gtD_ii, geD_ii, negD_i, mulD_i, fdivD_i, modD_i, itemsD_l, itemsD_t, tupleB_l, tupleB_t, listB_l, listB_t, lenB_l, lenB_t, intB_i, intB_b, fold2_i, appendM_1, ixN_len, reduceCtorEq, reduceIte, Bool.and_self, Bool.true_and, Bool.false_and, Bool.and_true, Bool.and_false, Bool.not_true, Bool.not_false, PyData.isTuple, PyData.isInt, PyData.isBool, PyData.isList, PyData.isStr, isBLT]
  rw [Nat.zero_add] at hr
  exact h race m' hr h1 h2
end PT
set_option maxHeartbeats 1000000
namespace PT
open PySem PySem.Spec PyProof.Rows L2 DL
theorem encs_of {α : Type} (enc : α → D) (P : α → Prop) : ∀ {ys : List D}, (∀ y ∈ ys, ∃ a, P a ∧ y = enc a) → ∃ as : List α, ys = as.map enc ∧ ∀ a ∈ as, P a
  | [], _ => ⟨[], rfl, fun _ h => nomatch h⟩
  | y :: ys, h => by
    obtain ⟨a, pa, rfl⟩ := h y (List.mem_cons_self ..)
    obtain ⟨as, rfl, pas⟩ := encs_of enc P (ys := ys) fun z hz => h z (List.mem_cons_of_mem _ hz)
    exact ⟨a :: as, rfl, fun b hb => (List.mem_cons.mp hb).elim (fun e => e ▸ pa) (pas b)⟩
def rsT (rs : List (List Int)) : D := .tuple (rs.map tI)
theorem sp_list {n s : Nat} {m F R} (hn : n ≤ 1000) (hs : s ≤ 1000) (hm : m + n * s < 4611686018427387904) (h : ∀ (rs : List (List Int)) (m' : Nat), rs.length = s → (∀ r ∈ rs, IsRace n r) → m ≤ m' → m' ≤ m + n * s → R (.dat (rsT rs)) m') :
    m__law_list [.bag, .dat (.int (n : Int)), .dat (.int (s : Int))] m F R := by
  simp -implicitDefEqProofs (disch := ((try simp only [List.length_map, List.length_append, List.length_cons, List.length_nil, List.length_take, List.length_drop, List.length_set, List.length_replicate, List.length_range, List.length_zipIdx, List.length_zip]); omega)) only [kVal_s, hold_c, kNx_c, kRt_c, kRtN_c, kAsg_c, kAsgF_c, kPar_c, kParF_c, kParF2_c, kExp_c, kFor_c, kIf_t, kIf_f, kIfV_t, kIfV_f, kOrT_t, kOrT_f, kAndT_t, kAndT_f, kNotT_c, kAnd_t, kAnd_f, kOr_t, kOr_f, kNot_b, kTest_b, kBin_c, kBin2_c, kUn_c, kChain_t, kChain_f, kCh1_c, kCh2_c, kRet_d, kRet_n, kRetN_n, kSome_i, kSlot_d, kDc_c, kDc2_c, kLst_c, kLen_c, kTup_c, kCB_c, kIsa_c, kSl1_c, kSl2_c, kSl3_c, kRtO_c, kOm_c, kOm2_c, kOm3_c, kSo_c, kSo2_c, kSo3_c, kOi_c, kOi2_c, kSeq_c, kEnum_c, kEnum2_c, kZip_c, kZip2_c, kZip3_c, kZip4_c, kRg1_c, kRg2_c, kRg2b_c, kRgD_c, kRgDb_c, kCall_c, kCallN_c, kAc_c, kAc2_c, kBag_b, kComp_c, kRev_c, kGc_c, kFl_c, compT_c, kCt_c, kCt2_t, kCt2_f, fnS_c, ssSeq_c, ssRet_c, ssRetF_c, ssRetOwn_c, ssRetN_c, ssAsg_c, ssAsgF_c, ssPar_c, ssParF_c, ssIf_c, ssExpr_c, ssNil_c, ssPass_c, ssBreak_c, ssCont_c, ssFor_c, ssFreeze_c, ssOwnM_c, sVar_c, sC_c, sBin_c, sUn_c, sTest_c, sNotT_c, sAndT_c, sOrT_c, sBorT_c, sAndV_c, sOrV_c, sNotV_c, sIf_c, sChain_c, stYes_c, sdNil_c, sdCons_c, sLst_c, sLen_c, sTup_c, sCallB_c, sCallL_c, sIsa_c, sSlice_c, soNone_c, soSome_c, sgName_c, sgOwn_c, sOwnIx_c, siSeq_c, siEnum_c, siZip_c, siRange1_c, siRange2_c, siRangeD_c, slR1_c, slR2_c, sCall_c, sCallN_c, saNil_c, saCons_c, saBag_c, sComp_c, sRevL_c, sgTup_t, sgCons_c, sgNil_n, freezeSl, setUn, Slot.inner, List.map_cons, List.map_nil, List.replicate, List.cons_append, List.nil_append, List.append_nil, List.getElem?_cons_zero, List.getElem?_cons_succ, List.set_cons_zero, List.set_cons_succ, List.length_cons, List.length_nil, and_assoc, Option.some.injEq, PyData.list.injEq, PyData.tuple.injEq, toL_n, Nat.sub_self, Nat.zero_add, Nat.reduceAdd, Nat.reduceSub, true_and, and_true, addD_ii, subD_ii, ltD_ii, leD_ii, gtD_ii, geD_ii, negD_i, mulD_i, fdivD_i, modD_i, itemsD_l, itemsD_t, tupleB_l, tupleB_t, listB_l, listB_t, lenB_l, lenB_t, intB_i, intB_b, fold2_i, appendM_1, ixN_len, reduceCtorEq, reduceIte, Bool.and_self, Bool.true_and, Bool.false_and, Bool.and_true, Bool.and_false, Bool.not_true, Bool.not_false, PyData.isTuple, PyData.isInt, PyData.isBool, PyData.isList, PyData.isStr, isBLT, m__law_list, b__law_list]
  refine ⟨by omega, by omega, ?_⟩
  rw [Int.toNat_natCast, range_enc]
  have hl : ((List.range s).map fun (i : Nat) => (0 : Int) + (i : Int)).length = s := by rw [List.length_map, List.length_range]
  refine ⟨Nat.le_trans (by rw [List.length_map, hl]; exact hs) (by decide : 1000 ≤ 16000000), ?_⟩
  refine compL_draw PyData.int (fun d => ∃ r, IsRace n r ∧ d = tI r) n (m + n * s) _ m _ (fun x hx m1 K N hm1 hk => ?_) (by rw [hl]; exact Nat.le_refl _) fun ys m' hy hp h1 h2 => ?_
  · simp -implicitDefEqProofs (disch := ((try simp only [List.length_map, List.length_append, List.length_cons, List.length_nil, List.length_take, List.length_drop, List.length_set, List.length_replicate, List.length_range, List.length_zipIdx, List.length_zip]); omega)) only [kVal_s, hold_c, kNx_c, kRt_c, kRtN_c, kAsg_c, kAsgF_c, kPar_c, kParF_c, kParF2_c, kExp_c, kFor_c, kIf_t, kIf_f, kIfV_t, kIfV_f, kOrT_t, kOrT_f, kAndT_t, kAndT_f, kNotT_c, kAnd_t, kAnd_f, kOr_t, kOr_f, kNot_b, kTest_b, kBin_c, kBin2_c, kUn_c, kChain_t, kChain_f, kCh1_c, kCh2_c, kRet_d, kRet_n, kRetN_n, kSome_i, kSlot_d, kDc_c, kDc2_c, kLst_c, kLen_c, kTup_c, kCB_c, kIsa_c, kSl1_c, kSl2_c, kSl3_c, kRtO_c, kOm_c, kOm2_c, kOm3_c, kSo_c, kSo2_c, kSo3_c, kOi_c, kOi2_c, kSeq_c, kEnum_c, kEnum2_c, kZip_c, kZip2_c, kZip3_c, kZip4_c, kRg1_c, kRg2_c, kRg2b_c, kRgD_c, kRgDb_c, kCall_c, kCallN_c, kAc_c, kAc2_c, kBag_b, kComp_c, kRev_c, kGc_c, kFl_c, compT_c, kCt_c, kCt2_t, kCt2_f, fnS_c, ssSeq_c, ssRet_c, ssRetF_c, ssRetOwn_c, ssRetN_c, ssAsg_c, ssAsgF_c, ssPar_c, ssParF_c, ssIf_c, ssExpr_c, ssNil_c, ssPass_c, ssBreak_c, ssCont_c, ssFor_c, ssFreeze_c, ssOwnM_c, sVar_c, sC_c, sBin_c, sUn_c, sTest_c, sNotT_c, sAndT_c, sOrT_c, sBorT_c, sAndV_c, sOrV_c, sNotV_c, sIf_c, sChain_c, stYes_c, sdNil_c, sdCons_c, sLst_c, sLen_c, sTup_c, sCallB_c, sCallL_c, sIsa_c, sSlice_c, soNone_c, soSome_c, sgName_c, sgOwn_c, sOwnIx_c, siSeq_c, siEnum_c, siZip_c, siRange1_c, siRange2_c, siRangeD_c, slR1_c, slR2_c, sCall_c, sCallN_c, saNil_c, saCons_c, saBag_c, sComp_c, sRevL_c, sgTup_t, sgCons_c, sgNil_n, freezeSl, setUn, Slot.inner, List.map_cons, List.map_nil, List.replicate, List.cons_append, List.nil_append, List.append_nil, List.getElem?_cons_zero, List.getElem?_cons_succ, List.set_cons_zero, List.set_cons_succ, List.length_cons, List.length_nil, and_assoc, Option.some.injEq, PyData.list.injEq, PyData.tuple.injEq, toL_n, Nat.sub_self, Nat.zero_add, Nat.reduceAdd, Nat.reduceSub, true_and, and_true, addD_ii, subD_ii, ltD_ii, leD_ii, gtD_ii, geD_ii, negD_i, mulD_i, fdivD_i, modD_i, itemsD_l, itemsD_t, tupleB_l, tupleB_t, listB_l, listB_t, lenB_l, lenB_t, intB_i, intB_b, fold2_i, appendM_1, ixN_len, reduceCtorEq, reduceIte, Bool.and_self, Bool.true_and, Bool.false_and, Bool.and_true, Bool.and_false, Bool.not_true, Bool.not_false, PyData.isTuple, PyData.isInt, PyData.isBool, PyData.isList, PyData.isStr, isBLT, e1__law_list]
    refine sp_race hn (by omega) fun race m' hr h1 h2 => ?_
    simp -implicitDefEqProofs (disch := ((try simp only [List.length_map, List.length_append, List.length_cons, List.length_nil, List.length_take, List.length_drop, List.length_set, List.length_replicate, List.length_range, List.length_zipIdx, List.length_zip]); omega)) only [kVal_s, hold_c, kNx_c, kRt_c, kRtN_c, kAsg_c, kAsgF_c, kPar_c, kParF_c, kParF2_c, kExp_c, kFor_c, kIf_t, kIf_f, kIfV_t, kIfV_f, kOrT_t, kOrT_f, kAndT_t, kAndT_f, kNotT_c, kAnd_t, kAnd_f, kOr_t, kOr_f, kNot_b, kTest_b, kBin_c, kBin2_c, kUn_c, kChain_t, kChain_f, kCh1_c, kCh2_c, kRet_d, kRet_n, kRetN_n, kSome_i, kSlot_d, kDc_c, kDc2_c, kLst_c, kLen_c, kTup_c, kCB_c, kIsa_c, kSl1_c, kSl2_c, kSl3_c, kRtO_c, kOm_c, kOm2_c, kOm3_c, kSo_c, kSo2_c, kSo3_c, kOi_c, kOi2_c, kSeq_c, kEnum_c, kEnum2_c, kZip_c, kZip2_c, kZip3_c, kZip4_c, kRg1_c, kRg2_c, kRg2b_c, kRgD_c, kRgDb_c, kCall_c, kCallN_c, kAc_c, kAc2_c, kBag_b, kComp_c, kRev_c, kGc_c, kFl_c, compT_c, kCt_c, kCt2_t, kCt2_f, fnS_c, ssSeq_c, ssRet_c, ssRetF_c, ssRetOwn_c, ssRetN_c, ssAsg_c, ssAsgF_c, ssPar_c, ssParF_c, ssIf_c, ssExpr_c, ssNil_c, ssPass_c, ssBreak_c, ssCont_c, ssFor_c, ssFreeze_c, ssOwnM_c, sVar_c, sC_c, sBin_c, sUn_c, sTest_c, sNotT_c, sAndT_c, sOrT_c, sBorT_c, sAndV_c, sOrV_c, sNotV_c, sIf_c, sChain_c, stYes_c, sdNil_c, sdCons_c, sLst_c, sLen_c, sTup_c, sCallB_c, sCallL_c, sIsa_c, sSlice_c, soNone_c, soSome_c, sgName_c, sgOwn_c, sOwnIx_c, siSeq_c, siEnum_c, siZip_c, siRange1_c, siRange2_c, siRangeD_c, slR1_c, slR2_c, sCall_c, sCallN_c, saNil_c, saCons_c, saBag_c, sComp_c, sRevL_c, sgTup_t, sgCons_c, sgNil_n, freezeSl, setUn, Slot.inner, List.map_cons, List.map_nil, List.replicate, List.cons_append, List.nil_append, List.append_nil, List.getElem?_cons_zero, List.getElem?_cons_succ, List.set_cons_zero, List.set_cons_succ, List.length_cons, List.length_nil, and_assoc, Option.some.injEq, PyData.list.injEq, PyData.tuple.injEq, toL_n, Nat.sub_self, Nat.zero_add, Nat.reduceAdd, Nat.reduceSub, true_and, and_true, addD_ii, subD_ii, ltD_ii, leD_ii, gtD_ii, geD_ii, negD_i, mulD_i, fdivD_i, modD_i, itemsD_l, itemsD_t, tupleB_l, tupleB_t, listB_l, listB_t, lenB_l, lenB_t, intB_i, intB_b, fold2_i, appendM_1, ixN_len, reduceCtorEq, reduceIte, Bool.and_self, Bool.true_and, Bool.false_and, Bool.and_true, Bool.and_false, Bool.not_true, Bool.not_false, PyData.isTuple, PyData.isInt, PyData.isBool, PyData.isList, PyData.isStr, isBLT]
    exact hk _ m' ⟨race, hr, rfl⟩ h1 h2
  · rw [hl] at hy h2
    obtain ⟨rs, rfl, hrs⟩ := encs_of tI (IsRace n) (fun y hy => by obtain ⟨r, h1, h2⟩ := hp y hy; exact ⟨r, h1, h2⟩)
    rw [List.length_map] at hy
    simp -implicitDefEqProofs (disch := ((try simp only [List.length_map, List.length_append, List.length_cons, List.length_nil, List.length_take, List.length_drop, List.length_set, List.length_replicate, List.length_range, List.length_zipIdx, List.length_zip]); omega)) only [kVal_s, hold_c, kNx_c, kRt_c, kRtN_c, kAsg_c, kAsgF_c, kPar_c, kParF_c, kParF2_c, kExp_c, kFor_c, kIf_t, kIf_f, kIfV_t, kIfV_f, kOrT_t, kOrT_f, kAndT_t, kAndT_f, kNotT_c, kAnd_t, kAnd_f, kOr_t, kOr_f, kNot_b, kTest_b, kBin_c, kBin2_c, kUn_c, kChain_t, kChain_f, kCh1_c, kCh2_c, kRet_d, kRet_n, kRetN_n, kSome_i, kSlot_d, kDc_c, kDc2_c, kLst_c, kLen_c, kTup_c, kCB_c, kIsa_c, kSl1_c, kSl2_c, kSl3_c, kRtO_c, kOm_c, kOm2_c, kOm3_c, kSo_c, kSo2_c, kSo3_c, kOi_c, kOi2_c, kSeq_c, kEnum_c, kEnum2_c, kZip_c, kZip2_c, kZip3_c, kZip4_c, kRg1_c, kRg2_c, kRg2b_c, kRgD_c, kRgDb_c, kCall_c, kCallN_c, kAc_c, kAc2_c, kBag_b, kComp_c, kRev_c, kGc_c, kFl_c, compT_c, kCt_c, kCt2_t, kCt2_f, fnS_c, ssSeq_c, ssRet_c, ssRetF_c, ssRetOwn_c, ssRetN_c, ssAsg_c, ssAsgF_c, ssPar_c, ssParF_c, ssIf_c, ssExpr_c, ssNil_c, ssPass_c, ssBreak_c, ssCont_c, ssFor_c, ssFreeze_c, ssOwnM_c, sVar_c, sC_c, sBin_c, sUn_c, sTest_c, sNotT_c, sAndT_c, sOrT_c, sBorT_c, sAndV_c, sOrV_c, sNotV_c, sIf_c, sChain_c, stYes_c, sdNil_c, sdCons_c, sLst_c, sLen_c, sTup_c, sCallB_c, sCallL_c, sIsa_c, sSlice_c, soNone_c, soSome_c, sgName_c, sgOwn_c, sOwnIx_c, siSeq_c, siEnum_c, siZip_c, siRange1_c, siRange2_c, siRangeD_c, slR1_c, slR2_c, sCall_c, sCallN_c, saNil_c, saCons_c, saBag_c, sComp_c, sRevL_c, sgTup_t, sgCons_c, sgNil_n, freezeSl, setUn, Slot.inner, List.map_cons, List.map_nil, List.replicate, List.cons_append, List.nil_append, List.append_nil, List.getElem?_cons_zero, List.getElem?_cons_succ, List.set_cons_zero, List.set_cons_succ, List.length_cons, List.length_nil, and_assoc, Option.some.injEq, PyData.list.injEq, PyData.tuple.injEq, toL_n, Nat.sub_self, Nat.zero_add, Nat.reduceAdd, Nat.reduceSub, true_and, and_true, addD_ii, subD_ii, ltD_ii, leD_ii, gtD_ii, geD_ii, negD_i, mulD_i, fdivD_i, modD_i, itemsD_l, itemsD_t, tupleB_l, tupleB_t, listB_l, listB_t, lenB_l, lenB_t, intB_i, intB_b, fold2_i, appendM_1, ixN_len, reduceCtorEq, reduceIte, Bool.and_self, Bool.true_and, Bool.false_and, Bool.and_true, Bool.and_false, Bool.not_true, Bool.not_false, PyData.isTuple, PyData.isInt, PyData.isBool, PyData.isList, PyData.isStr, isBLT]
    exact h rs m' hy hrs h1 h2
/-! sums -/
def addV (f r : List Int) : List Int := List.zipWith (· + ·) f r
def colSum (n : Nat) (rs : List (List Int)) : List Int := rs.foldl addV (List.replicate n 0)
theorem addV_len {f r : List Int} (h : r.length = f.length) : (addV f r).length = f.length := by
  unfold addV
  rw [List.length_zipWith, h, Nat.min_self]
theorem zip_add : ∀ (f r : List Int), ((f.zip r).map fun p => PyData.int (p.1 + p.2)) = (addV f r).map PyData.int
  | [], _ => by simp [addV]
  | _ :: _, [] => by simp [addV]
  | x :: f, y :: r => by
    have := zip_add f r
    unfold addV at this ⊢
    simp [this]
theorem mulD_l0 {d : D} {n : Nat} (h : n ≤ 1000000) : mulD (.list [d]) (.int (n : Int)) = some (.list (List.replicate n d)) := by
  show (if _ then _ else _) = _
  rw [if_pos ⟨by omega, by omega, by rw [Int.toNat_natCast]; exact Nat.le_trans (by simpa using h) (by decide : 1000000 ≤ 16000000)⟩, Int.toNat_natCast]
  congr 2
  induction n with
  | zero => rfl
  | succ n ih => rw [List.replicate_succ, List.flatten_cons, ih (by omega)]; rfl
theorem lp_sums {De : DEnds} {F : Exc → Prop} {m n : Nat} {d0 : D} (hn : n ≤ 1000) : ∀ (rs : List (List Int)) (f : List Int) (x2 : Slot), f.length = n → (∀ r ∈ rs, r.length = n) → (∀ x2, De.nx ⟨[.dat d0, .dat (lI (rs.foldl addV f)), x2, .un, .un], m, F⟩) →
    forL (sgName 2) L2__law_sums De (rs.map tI) ⟨[.dat d0, .dat (lI f), x2, .un, .un], m, F⟩
  | [], f, x2, hf, hr, h => h x2
  | r :: rs, f, x2, hf, hr, h => by
    have h1 := hr r (List.mem_cons_self ..)
    rw [List.map_cons, forL_c]
    simp -implicitDefEqProofs (disch := ((try simp only [List.length_map, List.length_append, List.length_cons, List.length_nil, List.length_take, List.length_drop, List.length_set, List.length_replicate, List.length_range, List.length_zipIdx, List.length_zip]); omega)) only [kVal_s, hold_c, kNx_c, kRt_c, kRtN_c, kAsg_c, kAsgF_c, kPar_c, kParF_c, kParF2_c, kExp_c, kFor_c, kIf_t, kIf_f, kIfV_t, kIfV_f, kOrT_t, kOrT_f, kAndT_t, kAndT_f, kNotT_c, kAnd_t, kAnd_f, kOr_t, kOr_f, kNot_b, kTest_b, kBin_c, kBin2_c, kUn_c, kChain_t, kChain_f, kCh1_c, kCh2_c, kRet_d, kRet_n, kRetN_n, kSome_i, kSlot_d, kDc_c, kDc2_c, kLst_c, kLen_c, kTup_c, kCB_c, kIsa_c, kSl1_c, kSl2_c, kSl3_c, kRtO_c, kOm_c, kOm2_c, kOm3_c, kSo_c, kSo2_c, kSo3_c, kOi_c, kOi2_c, kSeq_c, kEnum_c, kEnum2_c, kZip_c, kZip2_c, kZip3_c, kZip4_c, kRg1_c, kRg2_c, kRg2b_c, kRgD_c, kRgDb_c, kCall_c, kCallN_c, kAc_c, kAc2_c, kBag_b, kComp_c, kRev_c, kGc_c, kFl_c, compT_c, kCt_c, kCt2_t, kCt2_f, fnS_c, ssSeq_c, ssRet_c, ssRetF_c, ssRetOwn_c, ssRetN_c, ssAsg_c, ssAsgF_c, ssPar_c, ssParF_c, ssIf_c, ssExpr_c, ssNil_c, ssPass_c, ssBreak_c, ssCont_c, ssFor_c, ssFreeze_c, ssOwnM_c, sVar_c, sC_c, sBin_c, sUn_c, sTest_c, sNotT_c, sAndT_c, sOrT_c, sBorT_c, sAndV_c, sOrV_c, sNotV_c, sIf_c, sChain_c, stYes_c, sdNil_c, sdCons_c, sLst_c, sLen_c, sTup_c, sCallB_c, sCallL_c, sIsa_c, sSlice_c, soNone_c, soSome_c, sgName_c, sgOwn_c, sOwnIx_c, siSeq_c, siEnum_c, siZip_c, siRange1_c, siRange2_c, siRangeD_c, slR1_c, slR2_c, sCall_c, sCallN_c, saNil_c, saCons_c, saBag_c, sComp_c, sRevL_c, sgTup_t, sgCons_c, sgNil_n, freezeSl, setUn, Slot.inner, List.map_cons, List.map_nil, List.replicate, List.cons_append, List.nil_append, List.append_nil, List.getElem?_cons_zero, List.getElem?_cons_succ, List.set_cons_zero, List.set_cons_succ, List.length_cons, List.length_nil, and_assoc, Option.some.injEq, PyData.list.injEq, PyData.tuple.injEq, toL_n, Nat.sub_self, Nat.zero_add, Nat.reduceAdd, Nat.reduceSub, true_and, and_true, addD_ii, subD_ii, ltD_ii, leD_ii, gtD_ii, geD_ii, negD_i, mulD_i, fdivD_i, modD_i, itemsD_l, itemsD_t, tupleB_l, tupleB_t, listB_l, listB_t, lenB_l, lenB_t, intB_i, intB_b, fold2_i, appendM_1, ixN_len, reduceCtorEq, reduceIte, Bool.and_self, Bool.true_and, Bool.false_and, Bool.and_true, Bool.and_false, Bool.not_true, Bool.not_false, PyData.isTuple, PyData.isInt, PyData.isBool, PyData.isList, PyData.isStr, isBLT, L2__law_sums, lI, tI]
    rw [zipD_enc]
    refine ⟨Nat.le_trans (by rw [List.length_map, List.length_zip, hf, h1, Nat.min_self]; exact hn) (by decide : 1000 ≤ 16000000), ?_⟩
    refine compL_map (fun p : Int × Int => .tuple [.int p.1, .int p.2]) (fun p => .int (p.1 + p.2)) _ _ (fun q hq K N hk => ?_) ?_
    · simp -implicitDefEqProofs (disch := ((try simp only [List.length_map, List.length_append, List.length_cons, List.length_nil, List.length_take, List.length_drop, List.length_set, List.length_replicate, List.length_range, List.length_zipIdx, List.length_zip]); omega)) only [kVal_s, hold_c, kNx_c, kRt_c, kRtN_c, kAsg_c, kAsgF_c, kPar_c, kParF_c, kParF2_c, kExp_c, kFor_c, kIf_t, kIf_f, kIfV_t, kIfV_f, kOrT_t, kOrT_f, kAndT_t, kAndT_f, kNotT_c, kAnd_t, kAnd_f, kOr_t, kOr_f, kNot_b, kTest_b, kBin_c, kBin2_c, kUn_c, kChain_t, kChain_f, kCh1_c, kCh2_c, kRet_d, kRet_n, kRetN_n, kSome_i, kSlot_d, kDc_c, kDc2_c, kLst_c, kLen_c, kTup_c, kCB_c, kIsa_c, kSl1_c, kSl2_c, kSl3_c, kRtO_c, kOm_c, kOm2_c, kOm3_c, kSo_c, kSo2_c, kSo3_c, kOi_c, kOi2_c, kSeq_c, kEnum_c, kEnum2_c, kZip_c, kZip2_c, kZip3_c, kZip4_c, kRg1_c, kRg2_c, kRg2b_c, kRgD_c, kRgDb_c, kCall_c, kCallN_c, kAc_c, kAc2_c, kBag_b, kComp_c, kRev_c, kGc_c, kFl_c, compT_c, kCt_c, kCt2_t, kCt2_f, fnS_c, ssSeq_c, ssRet_c, ssRetF_c, ssRetOwn_c, ssRetN_c, ssAsg_c, ssAsgF_c, ssPar_c, ssParF_c, ssIf_c, ssExpr_c, ssNil_c, ssPass_c, ssBreak_c, ssCont_c, ssFor_c, ssFreeze_c, ssOwnM_c, sVar_c, sC_c, sBin_c, sUn_c, sTest_c, sNotT_c, sAndT_c, sOrT_c, sBorT_c, sAndV_c, sOrV_c, sNotV_c, sIf_c, sChain_c, stYes_c, sdNil_c, sdCons_c, sLst_c, sLen_c, sTup_c, sCallB_c, sCallL_c, sIsa_c, sSlice_c, soNone_c, soSome_c, sgName_c, sgOwn_c, sOwnIx_c, siSeq_c, siEnum_c, siZip_c, siRange1_c, siRange2_c, siRangeD_c, slR1_c, slR2_c, sCall_c, sCallN_c, saNil_c, saCons_c, saBag_c, sComp_c, sRevL_c, sgTup_t, sgCons_c, sgNil_n, freezeSl, setUn, Slot.inner, List.map_cons, List.map_nil, List.replicate, List.cons_append, List.nil_append, List.append_nil, List.getElem?_cons_zero, List.getElem?_cons_succ, List.set_cons_zero, List.set_cons_succ, List.length_cons, List.length_nil, and_assoc, Option.some.injEq, PyData.list.injEq, PyData.tuple.injEq, toL_n, Nat.sub_self, Nat.zero_add, Nat.reduceAdd, Nat.reduceSub, true_and, and_true, addD_ii, subD_ii, ltD_ii, leD_ii, gtD_ii, geD_ii, negD_i, mulD_i, fdivD_i, modD_i, itemsD_l, itemsD_t, tupleB_l, tupleB_t, listB_l, listB_t, lenB_l, lenB_t, intB_i, intB_b, fold2_i, appendM_1, ixN_len, reduceCtorEq, reduceIte, Bool.and_self, Bool.true_and, Bool.false_and, Bool.and_true, Bool.and_false, Bool.not_true, Bool.not_false, PyData.isTuple, PyData.isInt, PyData.isBool, PyData.isList, PyData.isStr, isBLT, e1__law_sums]
      exact hk
    · rw [zip_add]
      exact lp_sums hn rs (addV f r) _ (by rw [addV_len (by omega)]; exact hf) (fun r hr2 => hr r (List.mem_cons_of_mem _ hr2)) h
theorem sp_sums {n : Nat} {rs : List (List Int)} {m F R} (hn : n ≤ 1000) (h0 : rs ≠ []) (hr : ∀ r ∈ rs, r.length = n) (h : R (.dat (tI (colSum n rs))) m) : m__law_sums [.dat (rsT rs)] m F R := by
  have hl : 0 < rs.length := List.length_pos_iff.mpr h0
  have e0 : (rs.getD (Int.toNat 0) []).length = n := by
    cases rs with
    | nil => exact absurd rfl h0
    | cons a b => exact hr a (List.mem_cons_self ..)
  simp -implicitDefEqProofs (disch := ((try simp only [List.length_map, List.length_append, List.length_cons, List.length_nil, List.length_take, List.length_drop, List.length_set, List.length_replicate, List.length_range, List.length_zipIdx, List.length_zip]); omega)) only [kVal_s, hold_c, kNx_c, kRt_c, kRtN_c, kAsg_c, kAsgF_c, kPar_c, kParF_c, kParF2_c, kExp_c, kFor_c, kIf_t, kIf_f, kIfV_t, kIfV_f, kOrT_t, kOrT_f, kAndT_t, kAndT_f, kNotT_c, kAnd_t, kAnd_f, kOr_t, kOr_f, kNot_b, kTest_b, kBin_c, kBin2_c, kUn_c, kChain_t, kChain_f, kCh1_c, kCh2_c, kRet_d, kRet_n, kRetN_n, kSome_i, kSlot_d, kDc_c, kDc2_c, kLst_c, kLen_c, kTup_c, kCB_c, kIsa_c, kSl1_c, kSl2_c, kSl3_c, kRtO_c, kOm_c, kOm2_c, kOm3_c, kSo_c, kSo2_c, kSo3_c, kOi_c, kOi2_c, kSeq_c, kEnum_c, kEnum2_c, kZip_c, kZip2_c, kZip3_c, kZip4_c, kRg1_c, kRg2_c, kRg2b_c, kRgD_c, kRgDb_c, kCall_c, kCallN_c, kAc_c, kAc2_c, kBag_b, kComp_c, kRev_c, kGc_c, kFl_c, compT_c, kCt_c, kCt2_t, kCt2_f, fnS_c, ssSeq_c, ssRet_c, ssRetF_c, ssRetOwn_c, ssRetN_c, ssAsg_c, ssAsgF_c, ssPar_c, ssParF_c, ssIf_c, ssExpr_c, ssNil_c, ssPass_c, ssBreak_c, ssCont_c, ssFor_c, ssFreeze_c, ssOwnM_c, sVar_c, sC_c, sBin_c, sUn_c, sTest_c, sNotT_c, sAndT_c, sOrT_c, sBorT_c, sAndV_c, sOrV_c, sNotV_c, sIf_c, sChain_c, stYes_c, sdNil_c, sdCons_c, sLst_c, sLen_c, sTup_c, sCallB_c, sCallL_c, sIsa_c, sSlice_c, soNone_c, soSome_c, sgName_c, sgOwn_c, sOwnIx_c, siSeq_c, siEnum_c, siZip_c, siRange1_c, siRange2_c, siRangeD_c, slR1_c, slR2_c, sCall_c, sCallN_c, saNil_c, saCons_c, saBag_c, sComp_c, sRevL_c, sgTup_t, sgCons_c, sgNil_n, freezeSl, setUn, Slot.inner, List.map_cons, List.map_nil, List.replicate, List.cons_append, List.nil_append, List.append_nil, List.getElem?_cons_zero, List.getElem?_cons_succ, List.set_cons_zero, List.set_cons_succ, List.length_cons, List.length_nil, and_assoc, Option.some.injEq, PyData.list.injEq, PyData.tuple.injEq, toL_n, Nat.sub_self, Nat.zero_add, Nat.reduceAdd, Nat.reduceSub, true_and, and_true, addD_ii, subD_ii, ltD_ii, leD_ii, gtD_ii, geD_ii, negD_i, mulD_i, fdivD_i, modD_i, itemsD_l, itemsD_t, tupleB_l, tupleB_t, listB_l, listB_t, lenB_l, lenB_t, intB_i, intB_b, fold2_i, appendM_1, ixN_len, reduceCtorEq, reduceIte, Bool.and_self, Bool.true_and, Bool.false_and, Bool.and_true, Bool.and_false, Bool.not_true, Bool.not_false, PyData.isTuple, PyData.isInt, PyData.isBool, PyData.isList, PyData.isStr, isBLT, m__law_sums, b__law_sums, rsT, ixD_tt]
  refine ⟨by decide, ?_⟩
  simp -implicitDefEqProofs (disch := ((try simp only [List.length_map, List.length_append, List.length_cons, List.length_nil, List.length_take, List.length_drop, List.length_set, List.length_replicate, List.length_range, List.length_zipIdx, List.length_zip]); omega)) only [kVal_s, hold_c, kNx_c, kRt_c, kRtN_c, kAsg_c, kAsgF_c, kPar_c, kParF_c, kParF2_c, kExp_c, kFor_c, kIf_t, kIf_f, kIfV_t, kIfV_f, kOrT_t, kOrT_f, kAndT_t, kAndT_f, kNotT_c, kAnd_t, kAnd_f, kOr_t, kOr_f, kNot_b, kTest_b, kBin_c, kBin2_c, kUn_c, kChain_t, kChain_f, kCh1_c, kCh2_c, kRet_d, kRet_n, kRetN_n, kSome_i, kSlot_d, kDc_c, kDc2_c, kLst_c, kLen_c, kTup_c, kCB_c, kIsa_c, kSl1_c, kSl2_c, kSl3_c, kRtO_c, kOm_c, kOm2_c, kOm3_c, kSo_c, kSo2_c, kSo3_c, kOi_c, kOi2_c, kSeq_c, kEnum_c, kEnum2_c, kZip_c, kZip2_c, kZip3_c, kZip4_c, kRg1_c, kRg2_c, kRg2b_c, kRgD_c, kRgDb_c, kCall_c, kCallN_c, kAc_c, kAc2_c, kBag_b, kComp_c, kRev_c, kGc_c, kFl_c, compT_c, kCt_c, kCt2_t, kCt2_f, fnS_c, ssSeq_c, ssRet_c, ssRetF_c, ssRetOwn_c, ssRetN_c, ssAsg_c, ssAsgF_c, ssPar_c, ssParF_c, ssIf_c, ssExpr_c, ssNil_c, ssPass_c, ssBreak_c, ssCont_c, ssFor_c, ssFreeze_c, ssOwnM_c, sVar_c, sC_c, sBin_c, sUn_c, sTest_c, sNotT_c, sAndT_c, sOrT_c, sBorT_c, sAndV_c, sOrV_c, sNotV_c, sIf_c, sChain_c, stYes_c, sdNil_c, sdCons_c, sLst_c, sLen_c, sTup_c, sCallB_c, sCallL_c, sIsa_c, sSlice_c, soNone_c, soSome_c, sgName_c, sgOwn_c, sOwnIx_c, siSeq_c, siEnum_c, siZip_c, siRange1_c, siRange2_c, siRangeD_c, slR1_c, slR2_c, sCall_c, sCallN_c, saNil_c, saCons_c, saBag_c, sComp_c, sRevL_c, sgTup_t, sgCons_c, sgNil_n, freezeSl, setUn, Slot.inner, List.map_cons, List.map_nil, List.replicate, List.cons_append, List.nil_append, List.append_nil, List.getElem?_cons_zero, List.getElem?_cons_succ, List.set_cons_zero, List.set_cons_succ, List.length_cons, List.length_nil, and_assoc, Option.some.injEq, PyData.list.injEq, PyData.tuple.injEq, toL_n, Nat.sub_self, Nat.zero_add, Nat.reduceAdd, Nat.reduceSub, true_and, and_true, addD_ii, subD_ii, ltD_ii, leD_ii, gtD_ii, geD_ii, negD_i, mulD_i, fdivD_i, modD_i, itemsD_l, itemsD_t, tupleB_l, tupleB_t, listB_l, listB_t, lenB_l, lenB_t, intB_i, intB_b, fold2_i, appendM_1, ixN_len, reduceCtorEq, reduceIte, Bool.and_self, Bool.true_and, Bool.false_and, Bool.and_true, Bool.and_false, Bool.not_true, Bool.not_false, PyData.isTuple, PyData.isInt, PyData.isBool, PyData.isList, PyData.isStr, isBLT, tI, List.length_map]
  rw [e0, mulD_l0 (by omega)]
  simp -implicitDefEqProofs (disch := ((try simp only [List.length_map, List.length_append, List.length_cons, List.length_nil, List.length_take, List.length_drop, List.length_set, List.length_replicate, List.length_range, List.length_zipIdx, List.length_zip]); omega)) only [kVal_s, hold_c, kNx_c, kRt_c, kRtN_c, kAsg_c, kAsgF_c, kPar_c, kParF_c, kParF2_c, kExp_c, kFor_c, kIf_t, kIf_f, kIfV_t, kIfV_f, kOrT_t, kOrT_f, kAndT_t, kAndT_f, kNotT_c, kAnd_t, kAnd_f, kOr_t, kOr_f, kNot_b, kTest_b, kBin_c, kBin2_c, kUn_c, kChain_t, kChain_f, kCh1_c, kCh2_c, kRet_d, kRet_n, kRetN_n, kSome_i, kSlot_d, kDc_c, kDc2_c, kLst_c, kLen_c, kTup_c, kCB_c, kIsa_c, kSl1_c, kSl2_c, kSl3_c, kRtO_c, kOm_c, kOm2_c, kOm3_c, kSo_c, kSo2_c, kSo3_c, kOi_c, kOi2_c, kSeq_c, kEnum_c, kEnum2_c, kZip_c, kZip2_c, kZip3_c, kZip4_c, kRg1_c, kRg2_c, kRg2b_c, kRgD_c, kRgDb_c, kCall_c, kCallN_c, kAc_c, kAc2_c, kBag_b, kComp_c, kRev_c, kGc_c, kFl_c, compT_c, kCt_c, kCt2_t, kCt2_f, fnS_c, ssSeq_c, ssRet_c, ssRetF_c, ssRetOwn_c, ssRetN_c, ssAsg_c, ssAsgF_c, ssPar_c, ssParF_c, ssIf_c, ssExpr_c, ssNil_c, ssPass_c, ssBreak_c, ssCont_c, ssFor_c, ssFreeze_c, ssOwnM_c, sVar_c, sC_c, sBin_c, sUn_c, sTest_c, sNotT_c, sAndT_c, sOrT_c, sBorT_c, sAndV_c, sOrV_c, sNotV_c, sIf_c, sChain_c, stYes_c, sdNil_c, sdCons_c, sLst_c, sLen_c, sTup_c, sCallB_c, sCallL_c, sIsa_c, sSlice_c, soNone_c, soSome_c, sgName_c, sgOwn_c, sOwnIx_c, siSeq_c, siEnum_c, siZip_c, siRange1_c, siRange2_c, siRangeD_c, slR1_c, slR2_c, sCall_c, sCallN_c, saNil_c, saCons_c, saBag_c, sComp_c, sRevL_c, sgTup_t, sgCons_c, sgNil_n, freezeSl, setUn, Slot.inner, List.map_cons, List.map_nil, List.replicate, List.cons_append, List.nil_append, List.append_nil, List.getElem?_cons_zero, List.getElem?_cons_succ, List.set_cons_zero, List.set_cons_succ, List.length_cons, List.length_nil, and_assoc, Option.some.injEq, PyData.list.injEq, PyData.tuple.injEq, toL_n, Nat.sub_self, Nat.zero_add, Nat.reduceAdd, Nat.reduceSub, true_and, and_true, addD_ii, subD_ii, ltD_ii, leD_ii, gtD_ii, geD_ii, negD_i, mulD_i, fdivD_i, modD_i, itemsD_l, itemsD_t, tupleB_l, tupleB_t, listB_l, listB_t, lenB_l, lenB_t, intB_i, intB_b, fold2_i, appendM_1, ixN_len, reduceCtorEq, reduceIte, Bool.and_self, Bool.true_and, Bool.false_and, Bool.and_true, Bool.and_false, Bool.not_true, Bool.not_false, PyData.isTuple, PyData.isInt, PyData.isBool, PyData.isList, PyData.isStr, isBLT]
  rw [show List.replicate n (PyData.int 0) = (List.replicate n (0 : Int)).map PyData.int by rw [List.map_replicate]]
  refine lp_sums (n := n) hn rs (List.replicate n 0) _ (by rw [List.length_replicate]) hr fun x2 => ?_
  simp -implicitDefEqProofs (disch := ((try simp only [List.length_map, List.length_append, List.length_cons, List.length_nil, List.length_take, List.length_drop, List.length_set, List.length_replicate, List.length_range, List.length_zipIdx, List.length_zip]); omega)) only [kVal_s, hold_c, kNx_c, kRt_c, kRtN_c, kAsg_c, kAsgF_c, kPar_c, kParF_c, kParF2_c, kExp_c, kFor_c, kIf_t, kIf_f, kIfV_t, kIfV_f, kOrT_t, kOrT_f, kAndT_t, kAndT_f, kNotT_c, kAnd_t, kAnd_f, kOr_t, kOr_f, kNot_b, kTest_b, kBin_c, kBin2_c, kUn_c, kChain_t, kChain_f, kCh1_c, kCh2_c, kRet_d, kRet_n, kRetN_n, kSome_i, kSlot_d, kDc_c, kDc2_c, kLst_c, kLen_c, kTup_c, kCB_c, kIsa_c, kSl1_c, kSl2_c, kSl3_c, kRtO_c, kOm_c, kOm2_c, kOm3_c, kSo_c, kSo2_c, kSo3_c, kOi_c, kOi2_c, kSeq_c, kEnum_c, kEnum2_c, kZip_c, kZip2_c, kZip3_c, kZip4_c, kRg1_c, kRg2_c, kRg2b_c, kRgD_c, kRgDb_c, kCall_c, kCallN_c, kAc_c, kAc2_c, kBag_b, kComp_c, kRev_c, kGc_c, kFl_c, compT_c, kCt_c, kCt2_t, kCt2_f, fnS_c, ssSeq_c, ssRet_c, ssRetF_c, ssRetOwn_c, ssRetN_c, ssAsg_c, ssAsgF_c, ssPar_c, ssParF_c, ssIf_c, ssExpr_c, ssNil_c, ssPass_c, ssBreak_c, ssCont_c, ssFor_c, ssFreeze_c, ssOwnM_c, sVar_c, sC_c, sBin_c, sUn_c, sTest_c, sNotT_c, sAndT_c, sOrT_c, sBorT_c, sAndV_c, sOrV_c, sNotV_c, sIf_c, sChain_c, stYes_c, sdNil_c, sdCons_c, sLst_c, sLen_c, sTup_c, sCallB_c, sCallL_c, sIsa_c, sSlice_c, soNone_c, soSome_c, sgName_c, sgOwn_c, sOwnIx_c, siSeq_c, siEnum_c, siZip_c, siRange1_c, siRange2_c, siRangeD_c, slR1_c, slR2_c, sCall_c, sCallN_c, saNil_c, saCons_c, saBag_c, sComp_c, sRevL_c, sgTup_t, sgCons_c, sgNil_n, freezeSl, setUn, Slot.inner, List.map_cons, List.map_nil, List.replicate, List.cons_append, List.nil_append, List.append_nil, List.getElem?_cons_zero, List.getElem?_cons_succ, List.set_cons_zero, List.set_cons_succ, List.length_cons, List.length_nil, and_assoc, Option.some.injEq, PyData.list.injEq, PyData.tuple.injEq, toL_n, Nat.sub_self, Nat.zero_add, Nat.reduceAdd, Nat.reduceSub, true_and, and_true, addD_ii, subD_ii, ltD_ii, leD_ii, gtD_ii, geD_ii, negD_i, mulD_i, fdivD_i, modD_i, itemsD_l, itemsD_t, tupleB_l, tupleB_t, listB_l, listB_t, lenB_l, lenB_t, intB_i, intB_b, fold2_i, appendM_1, ixN_len, reduceCtorEq, reduceIte, Bool.and_self, Bool.true_and, Bool.false_and, Bool.and_true, Bool.and_false, Bool.not_true, Bool.not_false, PyData.isTuple, PyData.isInt, PyData.isBool, PyData.isList, PyData.isStr, isBLT, lI]
  exact h
end PT
set_option maxHeartbeats 1000000
namespace PT
open PySem PySem.Spec PyProof.Rows L2 DL
/-! drawn totals -/
def Bnd (n : Nat) (B : Int) (f : List Int) : Prop := f.length = n ∧ ∀ x ∈ f, 0 ≤ x ∧ x ≤ B
theorem Bnd.getD {n : Nat} {B : Int} {f : List Int} (h : Bnd n B f) {i : Nat} (hi : i < n) : 0 ≤ f.getD i 0 ∧ f.getD i 0 ≤ B := by
  have hl : i < f.length := by rw [h.1]; exact hi
  rw [List.getD_eq_getElem?_getD, List.getElem?_eq_getElem hl]
  exact h.2 _ (List.getElem_mem hl)
theorem Bnd.set {n : Nat} {B : Int} {f : List Int} (h : Bnd n B f) (i : Nat) {v : Int} (hv : 0 ≤ v ∧ v ≤ B) : Bnd n B (f.set i v) := by
  refine ⟨by rw [List.length_set]; exact h.1, fun x hx => ?_⟩
  rcases List.mem_or_eq_of_mem_set hx with e | e
  · exact h.2 x e
  · rw [e]; exact hv
theorem Bnd.mono {n : Nat} {B C : Int} {f : List Int} (h : Bnd n B f) (l : B ≤ C) : Bnd n C f := ⟨h.1, fun x hx => ⟨(h.2 x hx).1, Int.le_trans (h.2 x hx).2 l⟩⟩
theorem Bnd.add {n : Nat} {B C : Int} {f r : List Int} (h : Bnd n B f) (g : Bnd n C r) : Bnd n (B + C) (addV f r) := by
  refine ⟨by rw [addV_len (by rw [h.1, g.1])]; exact h.1, fun x hx => ?_⟩
  unfold addV at hx
  obtain ⟨i, hi, e⟩ := List.mem_iff_getElem.mp hx
  rw [List.getElem_zipWith] at e
  have h1 := h.2 _ (List.getElem_mem (l := f) (n := i) (by rw [List.length_zipWith] at hi; omega))
  have h2 := g.2 _ (List.getElem_mem (l := r) (n := i) (by rw [List.length_zipWith] at hi; omega))
  omega
theorem race_bnd {n : Nat} {r : List Int} (h : IsRace n r) : Bnd n n r := by
  refine ⟨by rw [h.length_eq, places, List.length_map, List.length_range], fun x hx => ?_⟩
  obtain ⟨i, hi, rfl⟩ := List.mem_map.mp (h.mem_iff.mp hx)
  have := List.mem_range.mp hi
  omega
theorem col_bnd {n : Nat} : ∀ (rs : List (List Int)) (f : List Int) (B : Int), Bnd n B f → (∀ r ∈ rs, IsRace n r) → Bnd n (B + n * rs.length) (rs.foldl addV f)
  | [], f, B, h, _ => by simpa using h
  | r :: rs, f, B, h, hr => by
    have := col_bnd rs (addV f r) (B + n) (h.add (race_bnd (hr r (List.mem_cons_self ..)))) fun r' h' => hr r' (List.mem_cons_of_mem _ h')
    rw [List.foldl_cons]
    refine this.mono ?_
    rw [List.length_cons, show ((rs.length + 1 : Nat) : Int) = (rs.length : Int) + 1 from rfl, Int.mul_add]
    omega
theorem rep_bnd (n : Nat) : Bnd n 0 (List.replicate n 0) := ⟨List.length_replicate, fun x hx => by rw [(List.mem_replicate.mp hx).2]; omega⟩
theorem lp_totals {De : DEnds} {F : Exc → Prop} {n : Nat} {sz : Slot} (hn : 1 ≤ n ∧ n ≤ 1000) : ∀ (ks : List Int) (m : Nat) (B : Int) (f : List Int) (x4 x5 x6 : Slot), m + 2 * ks.length < 4611686018427387904 → Bnd n B f →
    (∀ (f : List Int) (m' : Nat) (x4 x5 x6 : Slot), Bnd n (B + ks.length) f → m ≤ m' → m' ≤ m + 2 * ks.length → De.nx ⟨[.bag, .dat (.int n), sz, .own (f.map .int), x4, x5, x6], m', F⟩) →
    forL (sgName 4) L1__law_totals De (ks.map .int) ⟨[.bag, .dat (.int n), sz, .own (f.map .int), x4, x5, x6], m, F⟩
  | [], m, B, f, x4, x5, x6, hm, hb, h => h f m x4 x5 x6 (hb.mono (by simp)) (Nat.le_refl _) (Nat.le_refl _)
  | k :: ks, m, B, f, x4, x5, x6, hm, hb, h => by
    rw [List.length_cons] at hm h
    have hB : B + ((ks.length + 1 : Nat) : Int) = (B + 1) + ks.length := by omega
    rw [hB] at h
    have fl := hb.1
    rw [List.map_cons, forL_c]
    simp -implicitDefEqProofs (disch := ((try simp only [List.length_map, List.length_append, List.length_cons, List.length_nil, List.length_take, List.length_drop, List.length_set, List.length_replicate, List.length_range, List.length_zipIdx, List.length_zip]); omega)) only [kVal_s, hold_c, kNx_c, kRt_c, kRtN_c, kAsg_c, kAsgF_c, kPar_c, kParF_c, kParF2_c, kExp_c, kFor_c, kIf_t, kIf_f, kIfV_t, kIfV_f, kOrT_t, kOrT_f, kAndT_t, kAndT_f, kNotT_c, kAnd_t, kAnd_f, kOr_t, kOr_f, kNot_b, kTest_b, kBin_c, kBin2_c, kUn_c, kChain_t, kChain_f, kCh1_c, kCh2_c, kRet_d, kRet_n, kRetN_n, kSome_i, kSlot_d, kDc_c, kDc2_c, kLst_c, kLen_c, kTup_c, kCB_c, kIsa_c, kSl1_c, kSl2_c, kSl3_c, kRtO_c, kOm_c, kOm2_c, kOm3_c, kSo_c, kSo2_c, kSo3_c, kOi_c, kOi2_c, kSeq_c, kEnum_c, kEnum2_c, kZip_c, kZip2_c, kZip3_c, kZip4_c, kRg1_c, kRg2_c, kRg2b_c, kRgD_c, kRgDb_c, kCall_c, kCallN_c, kAc_c, kAc2_c, kBag_b, kComp_c, kRev_c, kGc_c, kFl_c, compT_c, kCt_c, kCt2_t, kCt2_f, fnS_c, ssSeq_c, ssRet_c, ssRetF_c, ssRetOwn_c, ssRetN_c, ssAsg_c, ssAsgF_c, ssPar_c, ssParF_c, ssIf_c, ssExpr_c, ssNil_c, ssPass_c, ssBreak_c, ssCont_c, ssFor_c, ssFreeze_c, ssOwnM_c, sVar_c, sC_c, sBin_c, sUn_c, sTest_c, sNotT_c, sAndT_c, sOrT_c, sBorT_c, sAndV_c, sOrV_c, sNotV_c, sIf_c, sChain_c, stYes_c, sdNil_c, sdCons_c, sLst_c, sLen_c, sTup_c, sCallB_c, sCallL_c, sIsa_c, sSlice_c, soNone_c, soSome_c, sgName_c, sgOwn_c, sOwnIx_c, siSeq_c, siEnum_c, siZip_c, siRange1_c, siRange2_c, siRangeD_c, slR1_c, slR2_c, sCall_c, sCallN_c, saNil_c, saCons_c, saBag_c, sComp_c, sRevL_c, sgTup_t, sgCons_c, sgNil_n, freezeSl, setUn, Slot.inner, List.map_cons, List.map_nil, List.replicate, List.cons_append, List.nil_append, List.append_nil, List.getElem?_cons_zero, List.getElem?_cons_succ, List.set_cons_zero, List.set_cons_succ, List.length_cons, List.length_nil, and_assoc, Option.some.injEq, PyData.list.injEq, PyData.tuple.injEq, toL_n, Nat.sub_self, Nat.zero_add, Nat.reduceAdd, Nat.reduceSub, true_and, and_true, addD_ii, subD_ii, ltD_ii, leD_ii, gtD_ii, geD_ii, negD_i, mulD_i, fdivD_i, modD_i, itemsD_l, itemsD_t, tupleB_l, tupleB_t, listB_l, listB_t, lenB_l, lenB_t, intB_i, intB_b, fold2_i, appendM_1, ixN_len, reduceCtorEq, reduceIte, Bool.and_self, Bool.true_and, Bool.false_and, Bool.and_true, Bool.and_false, Bool.not_true, Bool.not_false, PyData.isTuple, PyData.isInt, PyData.isBool, PyData.isList, PyData.isStr, isBLT, L1__law_totals]
    refine sp_take (by omega) (by omega) fun a ha0 ha1 => ?_
    simp -implicitDefEqProofs (disch := ((try simp only [List.length_map, List.length_append, List.length_cons, List.length_nil, List.length_take, List.length_drop, List.length_set, List.length_replicate, List.length_range, List.length_zipIdx, List.length_zip]); omega)) only [kVal_s, hold_c, kNx_c, kRt_c, kRtN_c, kAsg_c, kAsgF_c, kPar_c, kParF_c, kParF2_c, kExp_c, kFor_c, kIf_t, kIf_f, kIfV_t, kIfV_f, kOrT_t, kOrT_f, kAndT_t, kAndT_f, kNotT_c, kAnd_t, kAnd_f, kOr_t, kOr_f, kNot_b, kTest_b, kBin_c, kBin2_c, kUn_c, kChain_t, kChain_f, kCh1_c, kCh2_c, kRet_d, kRet_n, kRetN_n, kSome_i, kSlot_d, kDc_c, kDc2_c, kLst_c, kLen_c, kTup_c, kCB_c, kIsa_c, kSl1_c, kSl2_c, kSl3_c, kRtO_c, kOm_c, kOm2_c, kOm3_c, kSo_c, kSo2_c, kSo3_c, kOi_c, kOi2_c, kSeq_c, kEnum_c, kEnum2_c, kZip_c, kZip2_c, kZip3_c, kZip4_c, kRg1_c, kRg2_c, kRg2b_c, kRgD_c, kRgDb_c, kCall_c, kCallN_c, kAc_c, kAc2_c, kBag_b, kComp_c, kRev_c, kGc_c, kFl_c, compT_c, kCt_c, kCt2_t, kCt2_f, fnS_c, ssSeq_c, ssRet_c, ssRetF_c, ssRetOwn_c, ssRetN_c, ssAsg_c, ssAsgF_c, ssPar_c, ssParF_c, ssIf_c, ssExpr_c, ssNil_c, ssPass_c, ssBreak_c, ssCont_c, ssFor_c, ssFreeze_c, ssOwnM_c, sVar_c, sC_c, sBin_c, sUn_c, sTest_c, sNotT_c, sAndT_c, sOrT_c, sBorT_c, sAndV_c, sOrV_c, sNotV_c, sIf_c, sChain_c, stYes_c, sdNil_c, sdCons_c, sLst_c, sLen_c, sTup_c, sCallB_c, sCallL_c, sIsa_c, sSlice_c, soNone_c, soSome_c, sgName_c, sgOwn_c, sOwnIx_c, siSeq_c, siEnum_c, siZip_c, siRange1_c, siRange2_c, siRangeD_c, slR1_c, slR2_c, sCall_c, sCallN_c, saNil_c, saCons_c, saBag_c, sComp_c, sRevL_c, sgTup_t, sgCons_c, sgNil_n, freezeSl, setUn, Slot.inner, List.map_cons, List.map_nil, List.replicate, List.cons_append, List.nil_append, List.append_nil, List.getElem?_cons_zero, List.getElem?_cons_succ, List.set_cons_zero, List.set_cons_succ, List.length_cons, List.length_nil, and_assoc, Option.some.injEq, PyData.list.injEq, PyData.tuple.injEq, toL_n, Nat.sub_self, Nat.zero_add, Nat.reduceAdd, Nat.reduceSub, true_and, and_true, addD_ii, subD_ii, ltD_ii, leD_ii, gtD_ii, geD_ii, negD_i, mulD_i, fdivD_i, modD_i, itemsD_l, itemsD_t, tupleB_l, tupleB_t, listB_l, listB_t, lenB_l, lenB_t, intB_i, intB_b, fold2_i, appendM_1, ixN_len, reduceCtorEq, reduceIte, Bool.and_self, Bool.true_and, Bool.false_and, Bool.and_true, Bool.and_false, Bool.not_true, Bool.not_false, PyData.isTuple, PyData.isInt, PyData.isBool, PyData.isList, PyData.isStr, isBLT]
    refine sp_take (by omega) (by omega) fun b hb0 hb1 => ?_
    simp -implicitDefEqProofs (disch := ((try simp only [List.length_map, List.length_append, List.length_cons, List.length_nil, List.length_take, List.length_drop, List.length_set, List.length_replicate, List.length_range, List.length_zipIdx, List.length_zip]); omega)) only [kVal_s, hold_c, kNx_c, kRt_c, kRtN_c, kAsg_c, kAsgF_c, kPar_c, kParF_c, kParF2_c, kExp_c, kFor_c, kIf_t, kIf_f, kIfV_t, kIfV_f, kOrT_t, kOrT_f, kAndT_t, kAndT_f, kNotT_c, kAnd_t, kAnd_f, kOr_t, kOr_f, kNot_b, kTest_b, kBin_c, kBin2_c, kUn_c, kChain_t, kChain_f, kCh1_c, kCh2_c, kRet_d, kRet_n, kRetN_n, kSome_i, kSlot_d, kDc_c, kDc2_c, kLst_c, kLen_c, kTup_c, kCB_c, kIsa_c, kSl1_c, kSl2_c, kSl3_c, kRtO_c, kOm_c, kOm2_c, kOm3_c, kSo_c, kSo2_c, kSo3_c, kOi_c, kOi2_c, kSeq_c, kEnum_c, kEnum2_c, kZip_c, kZip2_c, kZip3_c, kZip4_c, kRg1_c, kRg2_c, kRg2b_c, kRgD_c, kRgDb_c, kCall_c, kCallN_c, kAc_c, kAc2_c, kBag_b, kComp_c, kRev_c, kGc_c, kFl_c, compT_c, kCt_c, kCt2_t, kCt2_f, fnS_c, ssSeq_c, ssRet_c, ssRetF_c, ssRetOwn_c, ssRetN_c, ssAsg_c, ssAsgF_c, ssPar_c, ssParF_c, ssIf_c, ssExpr_c, ssNil_c, ssPass_c, ssBreak_c, ssCont_c, ssFor_c, ssFreeze_c, ssOwnM_c, sVar_c, sC_c, sBin_c, sUn_c, sTest_c, sNotT_c, sAndT_c, sOrT_c, sBorT_c, sAndV_c, sOrV_c, sNotV_c, sIf_c, sChain_c, stYes_c, sdNil_c, sdCons_c, sLst_c, sLen_c, sTup_c, sCallB_c, sCallL_c, sIsa_c, sSlice_c, soNone_c, soSome_c, sgName_c, sgOwn_c, sOwnIx_c, siSeq_c, siEnum_c, siZip_c, siRange1_c, siRange2_c, siRangeD_c, slR1_c, slR2_c, sCall_c, sCallN_c, saNil_c, saCons_c, saBag_c, sComp_c, sRevL_c, sgTup_t, sgCons_c, sgNil_n, freezeSl, setUn, Slot.inner, List.map_cons, List.map_nil, List.replicate, List.cons_append, List.nil_append, List.append_nil, List.getElem?_cons_zero, List.getElem?_cons_succ, List.set_cons_zero, List.set_cons_succ, List.length_cons, List.length_nil, and_assoc, Option.some.injEq, PyData.list.injEq, PyData.tuple.injEq, toL_n, Nat.sub_self, Nat.zero_add, Nat.reduceAdd, Nat.reduceSub, true_and, and_true, addD_ii, subD_ii, ltD_ii, leD_ii, gtD_ii, geD_ii, negD_i, mulD_i, fdivD_i, modD_i, itemsD_l, itemsD_t, tupleB_l, tupleB_t, listB_l, listB_t, lenB_l, lenB_t, intB_i, intB_b, fold2_i, appendM_1, ixN_len, reduceCtorEq, reduceIte, Bool.and_self, Bool.true_and, Bool.false_and, Bool.and_true, Bool.and_false, Bool.not_true, Bool.not_false, PyData.isTuple, PyData.isInt, PyData.isBool, PyData.isList, PyData.isStr, isBLT, atI_int]
    have h1 := hb.getD (i := a.toNat) (by omega)
    have h2 := hb.getD (i := b.toNat) (by omega)
    by_cases e : 0 < f.getD a.toNat 0
    · simp -implicitDefEqProofs (disch := ((try simp only [List.length_map, List.length_append, List.length_cons, List.length_nil, List.length_take, List.length_drop, List.length_set, List.length_replicate, List.length_range, List.length_zipIdx, List.length_zip]); omega)) only [kVal_s, hold_c, kNx_c, kRt_c, kRtN_c, kAsg_c, kAsgF_c, kPar_c, kParF_c, kParF2_c, kExp_c, kFor_c, kIf_t, kIf_f, kIfV_t, kIfV_f, kOrT_t, kOrT_f, kAndT_t, kAndT_f, kNotT_c, kAnd_t, kAnd_f, kOr_t, kOr_f, kNot_b, kTest_b, kBin_c, kBin2_c, kUn_c, kChain_t, kChain_f, kCh1_c, kCh2_c, kRet_d, kRet_n, kRetN_n, kSome_i, kSlot_d, kDc_c, kDc2_c, kLst_c, kLen_c, kTup_c, kCB_c, kIsa_c, kSl1_c, kSl2_c, kSl3_c, kRtO_c, kOm_c, kOm2_c, kOm3_c, kSo_c, kSo2_c, kSo3_c, kOi_c, kOi2_c, kSeq_c, kEnum_c, kEnum2_c, kZip_c, kZip2_c, kZip3_c, kZip4_c, kRg1_c, kRg2_c, kRg2b_c, kRgD_c, kRgDb_c, kCall_c, kCallN_c, kAc_c, kAc2_c, kBag_b, kComp_c, kRev_c, kGc_c, kFl_c, compT_c, kCt_c, kCt2_t, kCt2_f, fnS_c, ssSeq_c, ssRet_c, ssRetF_c, ssRetOwn_c, ssRetN_c, ssAsg_c, ssAsgF_c, ssPar_c, ssParF_c, ssIf_c, ssExpr_c, ssNil_c, ssPass_c, ssBreak_c, ssCont_c, ssFor_c, ssFreeze_c, ssOwnM_c, sVar_c, sC_c, sBin_c, sUn_c, sTest_c, sNotT_c, sAndT_c, sOrT_c, sBorT_c, sAndV_c, sOrV_c, sNotV_c, sIf_c, sChain_c, stYes_c, sdNil_c, sdCons_c, sLst_c, sLen_c, sTup_c, sCallB_c, sCallL_c, sIsa_c, sSlice_c, soNone_c, soSome_c, sgName_c, sgOwn_c, sOwnIx_c, siSeq_c, siEnum_c, siZip_c, siRange1_c, siRange2_c, siRangeD_c, slR1_c, slR2_c, sCall_c, sCallN_c, saNil_c, saCons_c, saBag_c, sComp_c, sRevL_c, sgTup_t, sgCons_c, sgNil_n, freezeSl, setUn, Slot.inner, List.map_cons, List.map_nil, List.replicate, List.cons_append, List.nil_append, List.append_nil, List.getElem?_cons_zero, List.getElem?_cons_succ, List.set_cons_zero, List.set_cons_succ, List.length_cons, List.length_nil, and_assoc, Option.some.injEq, PyData.list.injEq, PyData.tuple.injEq, toL_n, Nat.sub_self, Nat.zero_add, Nat.reduceAdd, Nat.reduceSub, true_and, and_true, addD_ii, subD_ii, ltD_ii, leD_ii, gtD_ii, geD_ii, negD_i, mulD_i, fdivD_i, modD_i, itemsD_l, itemsD_t, tupleB_l, tupleB_t, listB_l, listB_t, lenB_l, lenB_t, intB_i, intB_b, fold2_i, appendM_1, ixN_len, reduceCtorEq, reduceIte, Bool.and_self, Bool.true_and, Bool.false_and, Bool.and_true, Bool.and_false, Bool.not_true, Bool.not_false, PyData.isTuple, PyData.isInt, PyData.isBool, PyData.isList, PyData.isStr, isBLT, decT, atI_int]
      refine ⟨by decide, ?_⟩
      rw [← List.map_set, ← List.map_set]
      refine lp_totals hn ks (m + 1 + 1) (B + 1) _ _ _ _ (by omega) (((hb.mono (by omega)).set a.toNat (by omega)).set b.toNat (by omega)) fun f' m' y4 y5 y6 h3 h4 h5 => h f' m' y4 y5 y6 h3 (by omega) (by omega)
    · simp -implicitDefEqProofs (disch := ((try simp only [List.length_map, List.length_append, List.length_cons, List.length_nil, List.length_take, List.length_drop, List.length_set, List.length_replicate, List.length_range, List.length_zipIdx, List.length_zip]); omega)) only [kVal_s, hold_c, kNx_c, kRt_c, kRtN_c, kAsg_c, kAsgF_c, kPar_c, kParF_c, kParF2_c, kExp_c, kFor_c, kIf_t, kIf_f, kIfV_t, kIfV_f, kOrT_t, kOrT_f, kAndT_t, kAndT_f, kNotT_c, kAnd_t, kAnd_f, kOr_t, kOr_f, kNot_b, kTest_b, kBin_c, kBin2_c, kUn_c, kChain_t, kChain_f, kCh1_c, kCh2_c, kRet_d, kRet_n, kRetN_n, kSome_i, kSlot_d, kDc_c, kDc2_c, kLst_c, kLen_c, kTup_c, kCB_c, kIsa_c, kSl1_c, kSl2_c, kSl3_c, kRtO_c, kOm_c, kOm2_c, kOm3_c, kSo_c, kSo2_c, kSo3_c, kOi_c, kOi2_c, kSeq_c, kEnum_c, kEnum2_c, kZip_c, kZip2_c, kZip3_c, kZip4_c, kRg1_c, kRg2_c, kRg2b_c, kRgD_c, kRgDb_c, kCall_c, kCallN_c, kAc_c, kAc2_c, kBag_b, kComp_c, kRev_c, kGc_c, kFl_c, compT_c, kCt_c, kCt2_t, kCt2_f, fnS_c, ssSeq_c, ssRet_c, ssRetF_c, ssRetOwn_c, ssRetN_c, ssAsg_c, ssAsgF_c, ssPar_c, ssParF_c, ssIf_c, ssExpr_c, ssNil_c, ssPass_c, ssBreak_c, ssCont_c, ssFor_c, ssFreeze_c, ssOwnM_c, sVar_c, sC_c, sBin_c, sUn_c, sTest_c, sNotT_c, sAndT_c, sOrT_c, sBorT_c, sAndV_c, sOrV_c, sNotV_c, sIf_c, sChain_c, stYes_c, sdNil_c, sdCons_c, sLst_c, sLen_c, sTup_c, sCallB_c, sCallL_c, sIsa_c, sSlice_c, soNone_c, soSome_c, sgName_c, sgOwn_c, sOwnIx_c, siSeq_c, siEnum_c, siZip_c, siRange1_c, siRange2_c, siRangeD_c, slR1_c, slR2_c, sCall_c, sCallN_c, saNil_c, saCons_c, saBag_c, sComp_c, sRevL_c, sgTup_t, sgCons_c, sgNil_n, freezeSl, setUn, Slot.inner, List.map_cons, List.map_nil, List.replicate, List.cons_append, List.nil_append, List.append_nil, List.getElem?_cons_zero, List.getElem?_cons_succ, List.set_cons_zero, List.set_cons_succ, List.length_cons, List.length_nil, and_assoc, Option.some.injEq, PyData.list.injEq, PyData.tuple.injEq, toL_n, Nat.sub_self, Nat.zero_add, Nat.reduceAdd, Nat.reduceSub, true_and, and_true, addD_ii, subD_ii, ltD_ii, leD_ii, gtD_ii, geD_ii, negD_i, mulD_i, fdivD_i, modD_i, itemsD_l, itemsD_t, tupleB_l, tupleB_t, listB_l, listB_t, lenB_l, lenB_t, intB_i, intB_b, fold2_i, appendM_1, ixN_len, reduceCtorEq, reduceIte, Bool.and_self, Bool.true_and, Bool.false_and, Bool.and_true, Bool.and_false, Bool.not_true, Bool.not_false, PyData.isTuple, PyData.isInt, PyData.isBool, PyData.isList, PyData.isStr, isBLT, decF]
      exact lp_totals hn ks (m + 1 + 1) (B + 1) _ _ _ _ (by omega) (hb.mono (by omega)) fun f' m' y4 y5 y6 h3 h4 h5 => h f' m' y4 y5 y6 h3 (by omega) (by omega)
end PT
set_option maxHeartbeats 1000000
namespace PT
open PySem PySem.Spec PyProof.Rows L2 DL
theorem shal_i {i : Int} {d : D} : shal d (.int i) := Nat.le_trans (Nat.min_le_right _ _) (Nat.zero_le _)
theorem eqD_i {i : Int} {j : Int} : eqD (.int i) (.int j) = some (.bool (decide (i = j))) := by
  unfold eqD
  rw [if_pos shal_i]
  rfl
theorem sp_totals {n s : Nat} {m F R} (hn : 1 ≤ n ∧ n ≤ 6) (hs : 1 ≤ s ∧ s ≤ 8) (hm : m + 1000 < 4611686018427387904) (h : ∀ (f : List Int) (m' : Nat), f.length = n → okTot f → m ≤ m' → m' ≤ m + 200 → R (.dat (tI f)) m') :
    m__law_totals [.bag, .dat (.int (n : Int)), .dat (.int (s : Int))] m F R := by
  have hns : n * s ≤ 6 * 8 := Nat.mul_le_mul hn.2 hs.2
  simp -implicitDefEqProofs (disch := ((try simp only [List.length_map, List.length_append, List.length_cons, List.length_nil, List.length_take, List.length_drop, List.length_set, List.length_replicate, List.length_range, List.length_zipIdx, List.length_zip]); omega)) only [kVal_s, hold_c, kNx_c, kRt_c, kRtN_c, kAsg_c, kAsgF_c, kPar_c, kParF_c, kParF2_c, kExp_c, kFor_c, kIf_t, kIf_f, kIfV_t, kIfV_f, kOrT_t, kOrT_f, kAndT_t, kAndT_f, kNotT_c, kAnd_t, kAnd_f, kOr_t, kOr_f, kNot_b, kTest_b, kBin_c, kBin2_c, kUn_c, kChain_t, kChain_f, kCh1_c, kCh2_c, kRet_d, kRet_n, kRetN_n, kSome_i, kSlot_d, kDc_c, kDc2_c, kLst_c, kLen_c, kTup_c, kCB_c, kIsa_c, kSl1_c, kSl2_c, kSl3_c, kRtO_c, kOm_c, kOm2_c, kOm3_c, kSo_c, kSo2_c, kSo3_c, kOi_c, kOi2_c, kSeq_c, kEnum_c, kEnum2_c, kZip_c, kZip2_c, kZip3_c, kZip4_c, kRg1_c, kRg2_c, kRg2b_c, kRgD_c, kRgDb_c, kCall_c, kCallN_c, kAc_c, kAc2_c, kBag_b, kComp_c, kRev_c, kGc_c, kFl_c, compT_c, kCt_c, kCt2_t, kCt2_f, fnS_c, ssSeq_c, ssRet_c, ssRetF_c, ssRetOwn_c, ssRetN_c, ssAsg_c, ssAsgF_c, ssPar_c, ssParF_c, ssIf_c, ssExpr_c, ssNil_c, ssPass_c, ssBreak_c, ssCont_c, ssFor_c, ssFreeze_c, ssOwnM_c, sVar_c, sC_c, sBin_c, sUn_c, sTest_c, sNotT_c, sAndT_c, sOrT_c, sBorT_c, sAndV_c, sOrV_c, sNotV_c, sIf_c, sChain_c, stYes_c, sdNil_c, sdCons_c, sLst_c, sLen_c, sTup_c, sCallB_c, sCallL_c, sIsa_c, sSlice_c, soNone_c, soSome_c, sgName_c, sgOwn_c, sOwnIx_c, siSeq_c, siEnum_c, siZip_c, siRange1_c, siRange2_c, siRangeD_c, slR1_c, slR2_c, sCall_c, sCallN_c, saNil_c, saCons_c, saBag_c, sComp_c, sRevL_c, sgTup_t, sgCons_c, sgNil_n, freezeSl, setUn, Slot.inner, List.map_cons, List.map_nil, List.replicate, List.cons_append, List.nil_append, List.append_nil, List.getElem?_cons_zero, List.getElem?_cons_succ, List.set_cons_zero, List.set_cons_succ, List.length_cons, List.length_nil, and_assoc, Option.some.injEq, PyData.list.injEq, PyData.tuple.injEq, toL_n, Nat.sub_self, Nat.zero_add, Nat.reduceAdd, Nat.reduceSub, true_and, and_true, addD_ii, subD_ii, ltD_ii, leD_ii, gtD_ii, geD_ii, negD_i, mulD_i, fdivD_i, modD_i, itemsD_l, itemsD_t, tupleB_l, tupleB_t, listB_l, listB_t, lenB_l, lenB_t, intB_i, intB_b, fold2_i, appendM_1, ixN_len, reduceCtorEq, reduceIte, Bool.and_self, Bool.true_and, Bool.false_and, Bool.and_true, Bool.and_false, Bool.not_true, Bool.not_false, PyData.isTuple, PyData.isInt, PyData.isBool, PyData.isList, PyData.isStr, isBLT, m__law_totals, b__law_totals]
  refine sp_list (by omega) (by omega) (by omega) fun rs m1 hl hr h1 h2 => ?_
  simp -implicitDefEqProofs (disch := ((try simp only [List.length_map, List.length_append, List.length_cons, List.length_nil, List.length_take, List.length_drop, List.length_set, List.length_replicate, List.length_range, List.length_zipIdx, List.length_zip]); omega)) only [kVal_s, hold_c, kNx_c, kRt_c, kRtN_c, kAsg_c, kAsgF_c, kPar_c, kParF_c, kParF2_c, kExp_c, kFor_c, kIf_t, kIf_f, kIfV_t, kIfV_f, kOrT_t, kOrT_f, kAndT_t, kAndT_f, kNotT_c, kAnd_t, kAnd_f, kOr_t, kOr_f, kNot_b, kTest_b, kBin_c, kBin2_c, kUn_c, kChain_t, kChain_f, kCh1_c, kCh2_c, kRet_d, kRet_n, kRetN_n, kSome_i, kSlot_d, kDc_c, kDc2_c, kLst_c, kLen_c, kTup_c, kCB_c, kIsa_c, kSl1_c, kSl2_c, kSl3_c, kRtO_c, kOm_c, kOm2_c, kOm3_c, kSo_c, kSo2_c, kSo3_c, kOi_c, kOi2_c, kSeq_c, kEnum_c, kEnum2_c, kZip_c, kZip2_c, kZip3_c, kZip4_c, kRg1_c, kRg2_c, kRg2b_c, kRgD_c, kRgDb_c, kCall_c, kCallN_c, kAc_c, kAc2_c, kBag_b, kComp_c, kRev_c, kGc_c, kFl_c, compT_c, kCt_c, kCt2_t, kCt2_f, fnS_c, ssSeq_c, ssRet_c, ssRetF_c, ssRetOwn_c, ssRetN_c, ssAsg_c, ssAsgF_c, ssPar_c, ssParF_c, ssIf_c, ssExpr_c, ssNil_c, ssPass_c, ssBreak_c, ssCont_c, ssFor_c, ssFreeze_c, ssOwnM_c, sVar_c, sC_c, sBin_c, sUn_c, sTest_c, sNotT_c, sAndT_c, sOrT_c, sBorT_c, sAndV_c, sOrV_c, sNotV_c, sIf_c, sChain_c, stYes_c, sdNil_c, sdCons_c, sLst_c, sLen_c, sTup_c, sCallB_c, sCallL_c, sIsa_c, sSlice_c, soNone_c, soSome_c, sgName_c, sgOwn_c, sOwnIx_c, siSeq_c, siEnum_c, siZip_c, siRange1_c, siRange2_c, siRangeD_c, slR1_c, slR2_c, sCall_c, sCallN_c, saNil_c, saCons_c, saBag_c, sComp_c, sRevL_c, sgTup_t, sgCons_c, sgNil_n, freezeSl, setUn, Slot.inner, List.map_cons, List.map_nil, List.replicate, List.cons_append, List.nil_append, List.append_nil, List.getElem?_cons_zero, List.getElem?_cons_succ, List.set_cons_zero, List.set_cons_succ, List.length_cons, List.length_nil, and_assoc, Option.some.injEq, PyData.list.injEq, PyData.tuple.injEq, toL_n, Nat.sub_self, Nat.zero_add, Nat.reduceAdd, Nat.reduceSub, true_and, and_true, addD_ii, subD_ii, ltD_ii, leD_ii, gtD_ii, geD_ii, negD_i, mulD_i, fdivD_i, modD_i, itemsD_l, itemsD_t, tupleB_l, tupleB_t, listB_l, listB_t, lenB_l, lenB_t, intB_i, intB_b, fold2_i, appendM_1, ixN_len, reduceCtorEq, reduceIte, Bool.and_self, Bool.true_and, Bool.false_and, Bool.and_true, Bool.and_false, Bool.not_true, Bool.not_false, PyData.isTuple, PyData.isInt, PyData.isBool, PyData.isList, PyData.isStr, isBLT]
  refine sp_sums (n := n) (by omega) (fun e => by rw [e] at hl; simp at hl; omega) (fun r hr2 => (race_bnd (hr r hr2)).1) ?_
  have hb : Bnd n 48 (colSum n rs) := (col_bnd rs _ 0 (rep_bnd n) hr).mono (by
    rw [hl]
    have : ((n * s : Nat) : Int) ≤ 48 := by omega
    rw [Int.natCast_mul] at this
    omega)
  simp -implicitDefEqProofs (disch := ((try simp only [List.length_map, List.length_append, List.length_cons, List.length_nil, List.length_take, List.length_drop, List.length_set, List.length_replicate, List.length_range, List.length_zipIdx, List.length_zip]); omega)) only [kVal_s, hold_c, kNx_c, kRt_c, kRtN_c, kAsg_c, kAsgF_c, kPar_c, kParF_c, kParF2_c, kExp_c, kFor_c, kIf_t, kIf_f, kIfV_t, kIfV_f, kOrT_t, kOrT_f, kAndT_t, kAndT_f, kNotT_c, kAnd_t, kAnd_f, kOr_t, kOr_f, kNot_b, kTest_b, kBin_c, kBin2_c, kUn_c, kChain_t, kChain_f, kCh1_c, kCh2_c, kRet_d, kRet_n, kRetN_n, kSome_i, kSlot_d, kDc_c, kDc2_c, kLst_c, kLen_c, kTup_c, kCB_c, kIsa_c, kSl1_c, kSl2_c, kSl3_c, kRtO_c, kOm_c, kOm2_c, kOm3_c, kSo_c, kSo2_c, kSo3_c, kOi_c, kOi2_c, kSeq_c, kEnum_c, kEnum2_c, kZip_c, kZip2_c, kZip3_c, kZip4_c, kRg1_c, kRg2_c, kRg2b_c, kRgD_c, kRgDb_c, kCall_c, kCallN_c, kAc_c, kAc2_c, kBag_b, kComp_c, kRev_c, kGc_c, kFl_c, compT_c, kCt_c, kCt2_t, kCt2_f, fnS_c, ssSeq_c, ssRet_c, ssRetF_c, ssRetOwn_c, ssRetN_c, ssAsg_c, ssAsgF_c, ssPar_c, ssParF_c, ssIf_c, ssExpr_c, ssNil_c, ssPass_c, ssBreak_c, ssCont_c, ssFor_c, ssFreeze_c, ssOwnM_c, sVar_c, sC_c, sBin_c, sUn_c, sTest_c, sNotT_c, sAndT_c, sOrT_c, sBorT_c, sAndV_c, sOrV_c, sNotV_c, sIf_c, sChain_c, stYes_c, sdNil_c, sdCons_c, sLst_c, sLen_c, sTup_c, sCallB_c, sCallL_c, sIsa_c, sSlice_c, soNone_c, soSome_c, sgName_c, sgOwn_c, sOwnIx_c, siSeq_c, siEnum_c, siZip_c, siRange1_c, siRange2_c, siRangeD_c, slR1_c, slR2_c, sCall_c, sCallN_c, saNil_c, saCons_c, saBag_c, sComp_c, sRevL_c, sgTup_t, sgCons_c, sgNil_n, freezeSl, setUn, Slot.inner, List.map_cons, List.map_nil, List.replicate, List.cons_append, List.nil_append, List.append_nil, List.getElem?_cons_zero, List.getElem?_cons_succ, List.set_cons_zero, List.set_cons_succ, List.length_cons, List.length_nil, and_assoc, Option.some.injEq, PyData.list.injEq, PyData.tuple.injEq, toL_n, Nat.sub_self, Nat.zero_add, Nat.reduceAdd, Nat.reduceSub, true_and, and_true, addD_ii, subD_ii, ltD_ii, leD_ii, gtD_ii, geD_ii, negD_i, mulD_i, fdivD_i, modD_i, itemsD_l, itemsD_t, tupleB_l, tupleB_t, listB_l, listB_t, lenB_l, lenB_t, intB_i, intB_b, fold2_i, appendM_1, ixN_len, reduceCtorEq, reduceIte, Bool.and_self, Bool.true_and, Bool.false_and, Bool.and_true, Bool.and_false, Bool.not_true, Bool.not_false, PyData.isTuple, PyData.isInt, PyData.isBool, PyData.isList, PyData.isStr, isBLT, tI]
  refine sp_take (by omega) (by omega) fun a ha0 ha1 => ?_
  simp -implicitDefEqProofs (disch := ((try simp only [List.length_map, List.length_append, List.length_cons, List.length_nil, List.length_take, List.length_drop, List.length_set, List.length_replicate, List.length_range, List.length_zipIdx, List.length_zip]); omega)) only [kVal_s, hold_c, kNx_c, kRt_c, kRtN_c, kAsg_c, kAsgF_c, kPar_c, kParF_c, kParF2_c, kExp_c, kFor_c, kIf_t, kIf_f, kIfV_t, kIfV_f, kOrT_t, kOrT_f, kAndT_t, kAndT_f, kNotT_c, kAnd_t, kAnd_f, kOr_t, kOr_f, kNot_b, kTest_b, kBin_c, kBin2_c, kUn_c, kChain_t, kChain_f, kCh1_c, kCh2_c, kRet_d, kRet_n, kRetN_n, kSome_i, kSlot_d, kDc_c, kDc2_c, kLst_c, kLen_c, kTup_c, kCB_c, kIsa_c, kSl1_c, kSl2_c, kSl3_c, kRtO_c, kOm_c, kOm2_c, kOm3_c, kSo_c, kSo2_c, kSo3_c, kOi_c, kOi2_c, kSeq_c, kEnum_c, kEnum2_c, kZip_c, kZip2_c, kZip3_c, kZip4_c, kRg1_c, kRg2_c, kRg2b_c, kRgD_c, kRgDb_c, kCall_c, kCallN_c, kAc_c, kAc2_c, kBag_b, kComp_c, kRev_c, kGc_c, kFl_c, compT_c, kCt_c, kCt2_t, kCt2_f, fnS_c, ssSeq_c, ssRet_c, ssRetF_c, ssRetOwn_c, ssRetN_c, ssAsg_c, ssAsgF_c, ssPar_c, ssParF_c, ssIf_c, ssExpr_c, ssNil_c, ssPass_c, ssBreak_c, ssCont_c, ssFor_c, ssFreeze_c, ssOwnM_c, sVar_c, sC_c, sBin_c, sUn_c, sTest_c, sNotT_c, sAndT_c, sOrT_c, sBorT_c, sAndV_c, sOrV_c, sNotV_c, sIf_c, sChain_c, stYes_c, sdNil_c, sdCons_c, sLst_c, sLen_c, sTup_c, sCallB_c, sCallL_c, sIsa_c, sSlice_c, soNone_c, soSome_c, sgName_c, sgOwn_c, sOwnIx_c, siSeq_c, siEnum_c, siZip_c, siRange1_c, siRange2_c, siRangeD_c, slR1_c, slR2_c, sCall_c, sCallN_c, saNil_c, saCons_c, saBag_c, sComp_c, sRevL_c, sgTup_t, sgCons_c, sgNil_n, freezeSl, setUn, Slot.inner, List.map_cons, List.map_nil, List.replicate, List.cons_append, List.nil_append, List.append_nil, List.getElem?_cons_zero, List.getElem?_cons_succ, List.set_cons_zero, List.set_cons_succ, List.length_cons, List.length_nil, and_assoc, Option.some.injEq, PyData.list.injEq, PyData.tuple.injEq, toL_n, Nat.sub_self, Nat.zero_add, Nat.reduceAdd, Nat.reduceSub, true_and, and_true, addD_ii, subD_ii, ltD_ii, leD_ii, gtD_ii, geD_ii, negD_i, mulD_i, fdivD_i, modD_i, itemsD_l, itemsD_t, tupleB_l, tupleB_t, listB_l, listB_t, lenB_l, lenB_t, intB_i, intB_b, fold2_i, appendM_1, ixN_len, reduceCtorEq, reduceIte, Bool.and_self, Bool.true_and, Bool.false_and, Bool.and_true, Bool.and_false, Bool.not_true, Bool.not_false, PyData.isTuple, PyData.isInt, PyData.isBool, PyData.isList, PyData.isStr, isBLT]
  refine sp_take (by omega) (by omega) fun b hb0 hb1 => ?_
  have hab : 0 ≤ a * b ∧ a * b ≤ 6 := by
    have h3 : a = 0 ∨ a = 1 ∨ a = 2 ∨ a = 3 := by omega
    have h4 : b = 0 ∨ b = 1 ∨ b = 2 := by omega
    rcases h3 with rfl | rfl | rfl | rfl <;> rcases h4 with rfl | rfl | rfl <;> decide
  simp -implicitDefEqProofs (disch := ((try simp only [List.length_map, List.length_append, List.length_cons, List.length_nil, List.length_take, List.length_drop, List.length_set, List.length_replicate, List.length_range, List.length_zipIdx, List.length_zip]); omega)) only [kVal_s, hold_c, kNx_c, kRt_c, kRtN_c, kAsg_c, kAsgF_c, kPar_c, kParF_c, kParF2_c, kExp_c, kFor_c, kIf_t, kIf_f, kIfV_t, kIfV_f, kOrT_t, kOrT_f, kAndT_t, kAndT_f, kNotT_c, kAnd_t, kAnd_f, kOr_t, kOr_f, kNot_b, kTest_b, kBin_c, kBin2_c, kUn_c, kChain_t, kChain_f, kCh1_c, kCh2_c, kRet_d, kRet_n, kRetN_n, kSome_i, kSlot_d, kDc_c, kDc2_c, kLst_c, kLen_c, kTup_c, kCB_c, kIsa_c, kSl1_c, kSl2_c, kSl3_c, kRtO_c, kOm_c, kOm2_c, kOm3_c, kSo_c, kSo2_c, kSo3_c, kOi_c, kOi2_c, kSeq_c, kEnum_c, kEnum2_c, kZip_c, kZip2_c, kZip3_c, kZip4_c, kRg1_c, kRg2_c, kRg2b_c, kRgD_c, kRgDb_c, kCall_c, kCallN_c, kAc_c, kAc2_c, kBag_b, kComp_c, kRev_c, kGc_c, kFl_c, compT_c, kCt_c, kCt2_t, kCt2_f, fnS_c, ssSeq_c, ssRet_c, ssRetF_c, ssRetOwn_c, ssRetN_c, ssAsg_c, ssAsgF_c, ssPar_c, ssParF_c, ssIf_c, ssExpr_c, ssNil_c, ssPass_c, ssBreak_c, ssCont_c, ssFor_c, ssFreeze_c, ssOwnM_c, sVar_c, sC_c, sBin_c, sUn_c, sTest_c, sNotT_c, sAndT_c, sOrT_c, sBorT_c, sAndV_c, sOrV_c, sNotV_c, sIf_c, sChain_c, stYes_c, sdNil_c, sdCons_c, sLst_c, sLen_c, sTup_c, sCallB_c, sCallL_c, sIsa_c, sSlice_c, soNone_c, soSome_c, sgName_c, sgOwn_c, sOwnIx_c, siSeq_c, siEnum_c, siZip_c, siRange1_c, siRange2_c, siRangeD_c, slR1_c, slR2_c, sCall_c, sCallN_c, saNil_c, saCons_c, saBag_c, sComp_c, sRevL_c, sgTup_t, sgCons_c, sgNil_n, freezeSl, setUn, Slot.inner, List.map_cons, List.map_nil, List.replicate, List.cons_append, List.nil_append, List.append_nil, List.getElem?_cons_zero, List.getElem?_cons_succ, List.set_cons_zero, List.set_cons_succ, List.length_cons, List.length_nil, and_assoc, Option.some.injEq, PyData.list.injEq, PyData.tuple.injEq, toL_n, Nat.sub_self, Nat.zero_add, Nat.reduceAdd, Nat.reduceSub, true_and, and_true, addD_ii, subD_ii, ltD_ii, leD_ii, gtD_ii, geD_ii, negD_i, mulD_i, fdivD_i, modD_i, itemsD_l, itemsD_t, tupleB_l, tupleB_t, listB_l, listB_t, lenB_l, lenB_t, intB_i, intB_b, fold2_i, appendM_1, ixN_len, reduceCtorEq, reduceIte, Bool.and_self, Bool.true_and, Bool.false_and, Bool.and_true, Bool.and_false, Bool.not_true, Bool.not_false, PyData.isTuple, PyData.isInt, PyData.isBool, PyData.isList, PyData.isStr, isBLT]
  refine ⟨by omega, by omega, ?_⟩
  rw [range_enc]
  have hk : ((List.range (a * b).toNat).map fun (i : Nat) => (0 : Int) + (i : Int)).length ≤ 6 := by rw [List.length_map, List.length_range]; omega
  have hk2 : ∀ (m' : Nat), m' ≤ m1 + 1 + 1 + 2 * ((List.range (a * b).toNat).map fun (i : Nat) => (0 : Int) + (i : Int)).length → m' ≤ m + 100 := fun m' h => by omega
  refine lp_totals ⟨hn.1, by omega⟩ _ (m1 + 1 + 1) 48 (colSum n rs) _ _ _ (by omega) hb fun f m2 x4 x5 x6 hf h3 h4 => ?_
  have h4' := hk2 m2 h4
  have hf : Bnd n 54 f := hf.mono (by omega)
  simp -implicitDefEqProofs (disch := ((try simp only [List.length_map, List.length_append, List.length_cons, List.length_nil, List.length_take, List.length_drop, List.length_set, List.length_replicate, List.length_range, List.length_zipIdx, List.length_zip]); omega)) only [kVal_s, hold_c, kNx_c, kRt_c, kRtN_c, kAsg_c, kAsgF_c, kPar_c, kParF_c, kParF2_c, kExp_c, kFor_c, kIf_t, kIf_f, kIfV_t, kIfV_f, kOrT_t, kOrT_f, kAndT_t, kAndT_f, kNotT_c, kAnd_t, kAnd_f, kOr_t, kOr_f, kNot_b, kTest_b, kBin_c, kBin2_c, kUn_c, kChain_t, kChain_f, kCh1_c, kCh2_c, kRet_d, kRet_n, kRetN_n, kSome_i, kSlot_d, kDc_c, kDc2_c, kLst_c, kLen_c, kTup_c, kCB_c, kIsa_c, kSl1_c, kSl2_c, kSl3_c, kRtO_c, kOm_c, kOm2_c, kOm3_c, kSo_c, kSo2_c, kSo3_c, kOi_c, kOi2_c, kSeq_c, kEnum_c, kEnum2_c, kZip_c, kZip2_c, kZip3_c, kZip4_c, kRg1_c, kRg2_c, kRg2b_c, kRgD_c, kRgDb_c, kCall_c, kCallN_c, kAc_c, kAc2_c, kBag_b, kComp_c, kRev_c, kGc_c, kFl_c, compT_c, kCt_c, kCt2_t, kCt2_f, fnS_c, ssSeq_c, ssRet_c, ssRetF_c, ssRetOwn_c, ssRetN_c, ssAsg_c, ssAsgF_c, ssPar_c, ssParF_c, ssIf_c, ssExpr_c, ssNil_c, ssPass_c, ssBreak_c, ssCont_c, ssFor_c, ssFreeze_c, ssOwnM_c, sVar_c, sC_c, sBin_c, sUn_c, sTest_c, sNotT_c, sAndT_c, sOrT_c, sBorT_c, sAndV_c, sOrV_c, sNotV_c, sIf_c, sChain_c, stYes_c, sdNil_c, sdCons_c, sLst_c, sLen_c, sTup_c, sCallB_c, sCallL_c, sIsa_c, sSlice_c, soNone_c, soSome_c, sgName_c, sgOwn_c, sOwnIx_c, siSeq_c, siEnum_c, siZip_c, siRange1_c, siRange2_c, siRangeD_c, slR1_c, slR2_c, sCall_c, sCallN_c, saNil_c, saCons_c, saBag_c, sComp_c, sRevL_c, sgTup_t, sgCons_c, sgNil_n, freezeSl, setUn, Slot.inner, List.map_cons, List.map_nil, List.replicate, List.cons_append, List.nil_append, List.append_nil, List.getElem?_cons_zero, List.getElem?_cons_succ, List.set_cons_zero, List.set_cons_succ, List.length_cons, List.length_nil, and_assoc, Option.some.injEq, PyData.list.injEq, PyData.tuple.injEq, toL_n, Nat.sub_self, Nat.zero_add, Nat.reduceAdd, Nat.reduceSub, true_and, and_true, addD_ii, subD_ii, ltD_ii, leD_ii, gtD_ii, geD_ii, negD_i, mulD_i, fdivD_i, modD_i, itemsD_l, itemsD_t, tupleB_l, tupleB_t, listB_l, listB_t, lenB_l, lenB_t, intB_i, intB_b, fold2_i, appendM_1, ixN_len, reduceCtorEq, reduceIte, Bool.and_self, Bool.true_and, Bool.false_and, Bool.and_true, Bool.and_false, Bool.not_true, Bool.not_false, PyData.isTuple, PyData.isInt, PyData.isBool, PyData.isList, PyData.isStr, isBLT]
  refine sp_take (by omega) (by omega) fun c hc0 hc1 => ?_
  simp -implicitDefEqProofs (disch := ((try simp only [List.length_map, List.length_append, List.length_cons, List.length_nil, List.length_take, List.length_drop, List.length_set, List.length_replicate, List.length_range, List.length_zipIdx, List.length_zip]); omega)) only [kVal_s, hold_c, kNx_c, kRt_c, kRtN_c, kAsg_c, kAsgF_c, kPar_c, kParF_c, kParF2_c, kExp_c, kFor_c, kIf_t, kIf_f, kIfV_t, kIfV_f, kOrT_t, kOrT_f, kAndT_t, kAndT_f, kNotT_c, kAnd_t, kAnd_f, kOr_t, kOr_f, kNot_b, kTest_b, kBin_c, kBin2_c, kUn_c, kChain_t, kChain_f, kCh1_c, kCh2_c, kRet_d, kRet_n, kRetN_n, kSome_i, kSlot_d, kDc_c, kDc2_c, kLst_c, kLen_c, kTup_c, kCB_c, kIsa_c, kSl1_c, kSl2_c, kSl3_c, kRtO_c, kOm_c, kOm2_c, kOm3_c, kSo_c, kSo2_c, kSo3_c, kOi_c, kOi2_c, kSeq_c, kEnum_c, kEnum2_c, kZip_c, kZip2_c, kZip3_c, kZip4_c, kRg1_c, kRg2_c, kRg2b_c, kRgD_c, kRgDb_c, kCall_c, kCallN_c, kAc_c, kAc2_c, kBag_b, kComp_c, kRev_c, kGc_c, kFl_c, compT_c, kCt_c, kCt2_t, kCt2_f, fnS_c, ssSeq_c, ssRet_c, ssRetF_c, ssRetOwn_c, ssRetN_c, ssAsg_c, ssAsgF_c, ssPar_c, ssParF_c, ssIf_c, ssExpr_c, ssNil_c, ssPass_c, ssBreak_c, ssCont_c, ssFor_c, ssFreeze_c, ssOwnM_c, sVar_c, sC_c, sBin_c, sUn_c, sTest_c, sNotT_c, sAndT_c, sOrT_c, sBorT_c, sAndV_c, sOrV_c, sNotV_c, sIf_c, sChain_c, stYes_c, sdNil_c, sdCons_c, sLst_c, sLen_c, sTup_c, sCallB_c, sCallL_c, sIsa_c, sSlice_c, soNone_c, soSome_c, sgName_c, sgOwn_c, sOwnIx_c, siSeq_c, siEnum_c, siZip_c, siRange1_c, siRange2_c, siRangeD_c, slR1_c, slR2_c, sCall_c, sCallN_c, saNil_c, saCons_c, saBag_c, sComp_c, sRevL_c, sgTup_t, sgCons_c, sgNil_n, freezeSl, setUn, Slot.inner, List.map_cons, List.map_nil, List.replicate, List.cons_append, List.nil_append, List.append_nil, List.getElem?_cons_zero, List.getElem?_cons_succ, List.set_cons_zero, List.set_cons_succ, List.length_cons, List.length_nil, and_assoc, Option.some.injEq, PyData.list.injEq, PyData.tuple.injEq, toL_n, Nat.sub_self, Nat.zero_add, Nat.reduceAdd, Nat.reduceSub, true_and, and_true, addD_ii, subD_ii, ltD_ii, leD_ii, gtD_ii, geD_ii, negD_i, mulD_i, fdivD_i, modD_i, itemsD_l, itemsD_t, tupleB_l, tupleB_t, listB_l, listB_t, lenB_l, lenB_t, intB_i, intB_b, fold2_i, appendM_1, ixN_len, reduceCtorEq, reduceIte, Bool.and_self, Bool.true_and, Bool.false_and, Bool.and_true, Bool.and_false, Bool.not_true, Bool.not_false, PyData.isTuple, PyData.isInt, PyData.isBool, PyData.isList, PyData.isStr, isBLT, eqD_i]
  have fin : ∀ (f : List Int) (m' : Nat), Bnd n 54 f → m ≤ m' → m' ≤ m + 200 → R (.dat (.tuple (f.map .int))) m' := fun f m' hf h1 h2 => h f m' hf.1 ⟨by rw [hf.1]; exact hn, fun x hx => by have := hf.2 x hx; omega⟩ h1 h2
  by_cases e : c = 0
  · simp -implicitDefEqProofs (disch := ((try simp only [List.length_map, List.length_append, List.length_cons, List.length_nil, List.length_take, List.length_drop, List.length_set, List.length_replicate, List.length_range, List.length_zipIdx, List.length_zip]); omega)) only [kVal_s, hold_c, kNx_c, kRt_c, kRtN_c, kAsg_c, kAsgF_c, kPar_c, kParF_c, kParF2_c, kExp_c, kFor_c, kIf_t, kIf_f, kIfV_t, kIfV_f, kOrT_t, kOrT_f, kAndT_t, kAndT_f, kNotT_c, kAnd_t, kAnd_f, kOr_t, kOr_f, kNot_b, kTest_b, kBin_c, kBin2_c, kUn_c, kChain_t, kChain_f, kCh1_c, kCh2_c, kRet_d, kRet_n, kRetN_n, kSome_i, kSlot_d, kDc_c, kDc2_c, kLst_c, kLen_c, kTup_c, kCB_c, kIsa_c, kSl1_c, kSl2_c, kSl3_c, kRtO_c, kOm_c, kOm2_c, kOm3_c, kSo_c, kSo2_c, kSo3_c, kOi_c, kOi2_c, kSeq_c, kEnum_c, kEnum2_c, kZip_c, kZip2_c, kZip3_c, kZip4_c, kRg1_c, kRg2_c, kRg2b_c, kRgD_c, kRgDb_c, kCall_c, kCallN_c, kAc_c, kAc2_c, kBag_b, kComp_c, kRev_c, kGc_c, kFl_c, compT_c, kCt_c, kCt2_t, kCt2_f, fnS_c, ssSeq_c, ssRet_c, ssRetF_c, ssRetOwn_c, ssRetN_c, ssAsg_c, ssAsgF_c, ssPar_c, ssParF_c, ssIf_c, ssExpr_c, ssNil_c, ssPass_c, ssBreak_c, ssCont_c, ssFor_c, ssFreeze_c, ssOwnM_c, sVar_c, sC_c, sBin_c, sUn_c, sTest_c, sNotT_c, sAndT_c, sOrT_c, sBorT_c, sAndV_c, sOrV_c, sNotV_c, sIf_c, sChain_c, stYes_c, sdNil_c, sdCons_c, sLst_c, sLen_c, sTup_c, sCallB_c, sCallL_c, sIsa_c, sSlice_c, soNone_c, soSome_c, sgName_c, sgOwn_c, sOwnIx_c, siSeq_c, siEnum_c, siZip_c, siRange1_c, siRange2_c, siRangeD_c, slR1_c, slR2_c, sCall_c, sCallN_c, saNil_c, saCons_c, saBag_c, sComp_c, sRevL_c, sgTup_t, sgCons_c, sgNil_n, freezeSl, setUn, Slot.inner, List.map_cons, List.map_nil, List.replicate, List.cons_append, List.nil_append, List.append_nil, List.getElem?_cons_zero, List.getElem?_cons_succ, List.set_cons_zero, List.set_cons_succ, List.length_cons, List.length_nil, and_assoc, Option.some.injEq, PyData.list.injEq, PyData.tuple.injEq, toL_n, Nat.sub_self, Nat.zero_add, Nat.reduceAdd, Nat.reduceSub, true_and, and_true, addD_ii, subD_ii, ltD_ii, leD_ii, gtD_ii, geD_ii, negD_i, mulD_i, fdivD_i, modD_i, itemsD_l, itemsD_t, tupleB_l, tupleB_t, listB_l, listB_t, lenB_l, lenB_t, intB_i, intB_b, fold2_i, appendM_1, ixN_len, reduceCtorEq, reduceIte, Bool.and_self, Bool.true_and, Bool.false_and, Bool.and_true, Bool.and_false, Bool.not_true, Bool.not_false, PyData.isTuple, PyData.isInt, PyData.isBool, PyData.isList, PyData.isStr, isBLT, decT]
    refine sp_take (by omega) (by omega) fun g hg0 hg1 => ?_
    have hfl := hf.1
    simp -implicitDefEqProofs (disch := ((try simp only [List.length_map, List.length_append, List.length_cons, List.length_nil, List.length_take, List.length_drop, List.length_set, List.length_replicate, List.length_range, List.length_zipIdx, List.length_zip]); omega)) only [kVal_s, hold_c, kNx_c, kRt_c, kRtN_c, kAsg_c, kAsgF_c, kPar_c, kParF_c, kParF2_c, kExp_c, kFor_c, kIf_t, kIf_f, kIfV_t, kIfV_f, kOrT_t, kOrT_f, kAndT_t, kAndT_f, kNotT_c, kAnd_t, kAnd_f, kOr_t, kOr_f, kNot_b, kTest_b, kBin_c, kBin2_c, kUn_c, kChain_t, kChain_f, kCh1_c, kCh2_c, kRet_d, kRet_n, kRetN_n, kSome_i, kSlot_d, kDc_c, kDc2_c, kLst_c, kLen_c, kTup_c, kCB_c, kIsa_c, kSl1_c, kSl2_c, kSl3_c, kRtO_c, kOm_c, kOm2_c, kOm3_c, kSo_c, kSo2_c, kSo3_c, kOi_c, kOi2_c, kSeq_c, kEnum_c, kEnum2_c, kZip_c, kZip2_c, kZip3_c, kZip4_c, kRg1_c, kRg2_c, kRg2b_c, kRgD_c, kRgDb_c, kCall_c, kCallN_c, kAc_c, kAc2_c, kBag_b, kComp_c, kRev_c, kGc_c, kFl_c, compT_c, kCt_c, kCt2_t, kCt2_f, fnS_c, ssSeq_c, ssRet_c, ssRetF_c, ssRetOwn_c, ssRetN_c, ssAsg_c, ssAsgF_c, ssPar_c, ssParF_c, ssIf_c, ssExpr_c, ssNil_c, ssPass_c, ssBreak_c, ssCont_c, ssFor_c, ssFreeze_c, ssOwnM_c, sVar_c, sC_c, sBin_c, sUn_c, sTest_c, sNotT_c, sAndT_c, sOrT_c, sBorT_c, sAndV_c, sOrV_c, sNotV_c, sIf_c, sChain_c, stYes_c, sdNil_c, sdCons_c, sLst_c, sLen_c, sTup_c, sCallB_c, sCallL_c, sIsa_c, sSlice_c, soNone_c, soSome_c, sgName_c, sgOwn_c, sOwnIx_c, siSeq_c, siEnum_c, siZip_c, siRange1_c, siRange2_c, siRangeD_c, slR1_c, slR2_c, sCall_c, sCallN_c, saNil_c, saCons_c, saBag_c, sComp_c, sRevL_c, sgTup_t, sgCons_c, sgNil_n, freezeSl, setUn, Slot.inner, List.map_cons, List.map_nil, List.replicate, List.cons_append, List.nil_append, List.append_nil, List.getElem?_cons_zero, List.getElem?_cons_succ, List.set_cons_zero, List.set_cons_succ, List.length_cons, List.length_nil, and_assoc, Option.some.injEq, PyData.list.injEq, PyData.tuple.injEq, toL_n, Nat.sub_self, Nat.zero_add, Nat.reduceAdd, Nat.reduceSub, true_and, and_true, addD_ii, subD_ii, ltD_ii, leD_ii, gtD_ii, geD_ii, negD_i, mulD_i, fdivD_i, modD_i, itemsD_l, itemsD_t, tupleB_l, tupleB_t, listB_l, listB_t, lenB_l, lenB_t, intB_i, intB_b, fold2_i, appendM_1, ixN_len, reduceCtorEq, reduceIte, Bool.and_self, Bool.true_and, Bool.false_and, Bool.and_true, Bool.and_false, Bool.not_true, Bool.not_false, PyData.isTuple, PyData.isInt, PyData.isBool, PyData.isList, PyData.isStr, isBLT]
    rw [← List.map_set]
    exact fin _ _ (hf.set 0 (by omega)) (by omega) (by omega)
  · simp -implicitDefEqProofs (disch := ((try simp only [List.length_map, List.length_append, List.length_cons, List.length_nil, List.length_take, List.length_drop, List.length_set, List.length_replicate, List.length_range, List.length_zipIdx, List.length_zip]); omega)) only [kVal_s, hold_c, kNx_c, kRt_c, kRtN_c, kAsg_c, kAsgF_c, kPar_c, kParF_c, kParF2_c, kExp_c, kFor_c, kIf_t, kIf_f, kIfV_t, kIfV_f, kOrT_t, kOrT_f, kAndT_t, kAndT_f, kNotT_c, kAnd_t, kAnd_f, kOr_t, kOr_f, kNot_b, kTest_b, kBin_c, kBin2_c, kUn_c, kChain_t, kChain_f, kCh1_c, kCh2_c, kRet_d, kRet_n, kRetN_n, kSome_i, kSlot_d, kDc_c, kDc2_c, kLst_c, kLen_c, kTup_c, kCB_c, kIsa_c, kSl1_c, kSl2_c, kSl3_c, kRtO_c, kOm_c, kOm2_c, kOm3_c, kSo_c, kSo2_c, kSo3_c, kOi_c, kOi2_c, kSeq_c, kEnum_c, kEnum2_c, kZip_c, kZip2_c, kZip3_c, kZip4_c, kRg1_c, kRg2_c, kRg2b_c, kRgD_c, kRgDb_c, kCall_c, kCallN_c, kAc_c, kAc2_c, kBag_b, kComp_c, kRev_c, kGc_c, kFl_c, compT_c, kCt_c, kCt2_t, kCt2_f, fnS_c, ssSeq_c, ssRet_c, ssRetF_c, ssRetOwn_c, ssRetN_c, ssAsg_c, ssAsgF_c, ssPar_c, ssParF_c, ssIf_c, ssExpr_c, ssNil_c, ssPass_c, ssBreak_c, ssCont_c, ssFor_c, ssFreeze_c, ssOwnM_c, sVar_c, sC_c, sBin_c, sUn_c, sTest_c, sNotT_c, sAndT_c, sOrT_c, sBorT_c, sAndV_c, sOrV_c, sNotV_c, sIf_c, sChain_c, stYes_c, sdNil_c, sdCons_c, sLst_c, sLen_c, sTup_c, sCallB_c, sCallL_c, sIsa_c, sSlice_c, soNone_c, soSome_c, sgName_c, sgOwn_c, sOwnIx_c, siSeq_c, siEnum_c, siZip_c, siRange1_c, siRange2_c, siRangeD_c, slR1_c, slR2_c, sCall_c, sCallN_c, saNil_c, saCons_c, saBag_c, sComp_c, sRevL_c, sgTup_t, sgCons_c, sgNil_n, freezeSl, setUn, Slot.inner, List.map_cons, List.map_nil, List.replicate, List.cons_append, List.nil_append, List.append_nil, List.getElem?_cons_zero, List.getElem?_cons_succ, List.set_cons_zero, List.set_cons_succ, List.length_cons, List.length_nil, and_assoc, Option.some.injEq, PyData.list.injEq, PyData.tuple.injEq, toL_n, Nat.sub_self, Nat.zero_add, Nat.reduceAdd, Nat.reduceSub, true_and, and_true, addD_ii, subD_ii, ltD_ii, leD_ii, gtD_ii, geD_ii, negD_i, mulD_i, fdivD_i, modD_i, itemsD_l, itemsD_t, tupleB_l, tupleB_t, listB_l, listB_t, lenB_l, lenB_t, intB_i, intB_b, fold2_i, appendM_1, ixN_len, reduceCtorEq, reduceIte, Bool.and_self, Bool.true_and, Bool.false_and, Bool.and_true, Bool.and_false, Bool.not_true, Bool.not_false, PyData.isTuple, PyData.isInt, PyData.isBool, PyData.isList, PyData.isStr, isBLT, decF]
    exact fin f _ hf (by omega) (by omega)
end PT
set_option maxHeartbeats 1000000
namespace PT
/-! sums, sublists, subsets: no program in sight -/
theorem perm_sum {a b : List Int} (h : a.Perm b) : a.sum = b.sum := by
  induction h with
  | nil => rfl
  | cons x _ ih => rw [List.sum_cons, List.sum_cons, ih]
  | swap x y l =>
    simp only [List.sum_cons]
    omega
  | trans _ _ ih1 ih2 => exact ih1.trans ih2
theorem take_shift {a : Int} : ∀ (s : List Int) (k : Nat), k ≤ s.length → (∀ x ∈ s, a ≤ x) → s.Pairwise (· ≤ ·) → ((a :: s).take k).sum ≤ (s.take k).sum
  | _, 0, _, _, _ => by simp
  | [], k + 1, h, _, _ => by simp at h
  | b :: s, k + 1, h, ha, hs => by
    rw [List.take_succ_cons, List.take_succ_cons, List.sum_cons, List.sum_cons]
    have h1 := ha b (List.mem_cons_self ..)
    have h2 := take_shift (a := b) s k (by simpa using h) (fun x hx => (List.pairwise_cons.mp hs).1 x hx) (List.pairwise_cons.mp hs).2
    omega
/-- the least of a sorted list lie ahead -/
theorem sub_sum {l s : List Int} (h : l.Sublist s) (hs : s.Pairwise (· ≤ ·)) : (s.take l.length).sum ≤ l.sum := by
  induction h with
  | slnil => simp
  | @cons l s a h ih =>
    have h2 := List.pairwise_cons.mp hs
    exact Int.le_trans (take_shift s l.length h.length_le h2.1 h2.2) (ih h2.2)
  | @cons_cons l s a h ih =>
    have h2 := List.pairwise_cons.mp hs
    rw [List.length_cons, List.take_succ_cons, List.sum_cons, List.sum_cons]
    have := ih h2.2
    omega
theorem least_sum {l rs s : List Int} (h : l.Sublist rs) (hp : rs.Perm s) (hs : s.Pairwise (· ≤ ·)) : (s.take l.length).sum ≤ l.sum := by
  obtain ⟨l', h1, h2⟩ := List.exists_perm_sublist h hp
  rw [← h1.length_eq, ← perm_sum h1]
  exact sub_sum h2 hs
/-! the subsets of the boats -/
def pset : Nat → List (List Int)
  | 0 => [[]]
  | n + 1 => pset n ++ (pset n).map (· ++ [(n : Int)])
theorem pset_len : ∀ n, (pset n).length = 2 ^ n
  | 0 => rfl
  | n + 1 => by
    rw [pset, List.length_append, List.length_map, pset_len n, Nat.pow_succ]
    omega
def Inc (n : Nat) (c : List Int) : Prop := c.Pairwise (· < ·) ∧ ∀ i ∈ c, 0 ≤ i ∧ i < n
theorem pset_inc : ∀ (n : Nat) {c : List Int}, c ∈ pset n → Inc n c
  | 0, c, h => by
    have : c = [] := by simpa [pset] using h
    subst this
    exact ⟨.nil, fun _ h => nomatch h⟩
  | n + 1, c, h => by
    rw [pset, List.mem_append, List.mem_map] at h
    rcases h with h | ⟨d, hd, rfl⟩
    · obtain ⟨h1, h2⟩ := pset_inc n h
      exact ⟨h1, fun i hi => by have := h2 i hi; omega⟩
    · obtain ⟨h1, h2⟩ := pset_inc n hd
      refine ⟨List.pairwise_append.mpr ⟨h1, List.pairwise_singleton _ _, fun a ha b hb => ?_⟩, fun i hi => ?_⟩
      · rw [List.mem_singleton.mp hb]
        exact (h2 a ha).2
      · rcases List.mem_append.mp hi with z | z
        · have := h2 i z; omega
        · rw [List.mem_singleton.mp z]; omega
theorem inc_pset : ∀ (n : Nat) {c : List Int}, Inc n c → c ∈ pset n
  | 0, c, ⟨_, h⟩ => by
    cases c with
    | nil => simp [pset]
    | cons a c => have := h a (List.mem_cons_self ..); omega
  | n + 1, c, ⟨h1, h2⟩ => by
    rw [pset, List.mem_append, List.mem_map]
    by_cases hn : (n : Int) ∈ c
    · right
      have hne : c ≠ [] := List.ne_nil_of_mem hn
      have ed := List.dropLast_concat_getLast hne
      have hp := h1
      rw [← ed] at hp hn
      obtain ⟨p1, _, p3⟩ := List.pairwise_append.mp hp
      have hlast : c.getLast hne = n := by
        have hl := h2 _ (List.getLast_mem hne)
        rcases List.mem_append.mp hn with z | z
        · have := p3 _ z _ (List.mem_singleton.mpr rfl)
          omega
        · exact (List.mem_singleton.mp z).symm
      rw [hlast] at ed p3
      refine ⟨c.dropLast, inc_pset n ⟨p1, fun i hi => ?_⟩, ed⟩
      have := p3 i hi _ (List.mem_singleton.mpr rfl)
      exact ⟨(h2 i ((List.dropLast_sublist c).subset hi)).1, this⟩
    · left
      refine inc_pset n ⟨h1, fun i hi => ?_⟩
      have := h2 i hi
      refine ⟨this.1, ?_⟩
      rcases Int.lt_or_eq_of_le (show i ≤ n by omega) with z | z
      · exact z
      · rw [z] at hi; exact absurd hi hn
/-- totals at increasing places are a sublist -/
theorem inc_sub : ∀ (rs : List Int) (k : Nat) (c : List Int), c.Pairwise (· < ·) → (∀ i ∈ c, (k : Int) ≤ i ∧ i < k + rs.length) → (c.map fun (i : Int) => rs.getD (i - (k : Int)).toNat 0).Sublist rs
  | _, _, [], _, _ => List.nil_sublist _
  | [], k, i :: c, _, h => by
    have := h i (List.mem_cons_self ..)
    simp at this
    omega
  | r :: rs, k, i :: c, hp, h => by
    have hi := h i (List.mem_cons_self ..)
    have hc := List.pairwise_cons.mp hp
    have key : ∀ (c : List Int), (∀ j ∈ c, (k : Int) < j) → (c.map fun (j : Int) => (r :: rs).getD (j - (k : Int)).toNat 0) = c.map fun (j : Int) => rs.getD (j - ((k + 1 : Nat) : Int)).toNat 0 := fun c hj => by
      refine List.map_congr_left fun j hjc => ?_
      have := hj j hjc
      rw [show (j - (k : Int)).toNat = (j - ((k + 1 : Nat) : Int)).toNat + 1 by omega, List.getD_cons_succ]
    rw [List.length_cons] at h hi
    by_cases e : i = k
    · subst e
      rw [List.map_cons, show ((k : Int) - k).toNat = 0 by omega, List.getD_cons_zero, key c hc.1]
      exact (inc_sub rs (k + 1) c hc.2 fun j hj => by have := hc.1 j hj; have := h j (List.mem_cons_of_mem _ hj); omega).cons_cons r
    · rw [key (i :: c) fun j hj => by
        rcases List.mem_cons.mp hj with z | z
        · rw [z]; omega
        · have := hc.1 j z; omega]
      exact (inc_sub rs (k + 1) (i :: c) hp fun j hj => by
        have := h j hj
        rcases List.mem_cons.mp hj with z | z
        · rw [z] at this ⊢; omega
        · have := hc.1 j z; omega).cons r
end PT
set_option maxHeartbeats 1000000
namespace PT
/-! short_set is right -/
def due (r : Int) (k : Nat) : Int := r * (k : Int) * ((k : Int) + 1) / 2
def tot (rs : List Int) (c : List Int) : Int := (c.map fun i => rs.getD i.toNat 0).sum
theorem go_step {ord ps : List (Int × Int)} {p : Int × Int} {c : Nat} (h : ord.drop c = p :: ps) : ord.drop (c + 1) = ps ∧ c < ord.length ∧ ord.take (c + 1) = ord.take c ++ [p] := by
  have hc : c < ord.length := by
    rcases Nat.lt_or_ge c ord.length with z | z
    · exact z
    · rw [List.drop_eq_nil_of_le z] at h; cases h
  have h2 := List.drop_eq_getElem_cons hc
  rw [h] at h2
  have e1 : ord[c] = p := (List.cons.inj h2).1.symm
  refine ⟨(List.cons.inj h2).2.symm, hc, ?_⟩
  rw [List.take_add_one, List.getElem?_eq_getElem hc, e1]
  rfl
theorem go_some {r : Int} {ord : List (Int × Int)} : ∀ (ps : List (Int × Int)) (c : Nat) (f : Int) {xs : List Int}, ord.drop c = ps → f = ((ord.take c).map (·.1)).sum → shortGo r ord ps c f = some xs →
    ∃ k, k < ord.length ∧ xs = sortI ((ord.take (k + 1)).map (·.2)) ∧ ((ord.take (k + 1)).map (·.1)).sum < due r (k + 1)
  | [], _, _, _, _, _, h => nomatch h
  | p :: ps, c, f, xs, hd, hf, h => by
    obtain ⟨h1, h2, h3⟩ := go_step hd
    have hf2 : f + p.1 = ((ord.take (c + 1)).map (·.1)).sum := by rw [h3, List.map_append, List.sum_append, hf]; simp
    unfold shortGo at h
    split at h
    · rename_i hlt
      cases h
      refine ⟨c, h2, rfl, ?_⟩
      rw [← hf2]
      exact hlt
    · exact go_some ps (c + 1) _ h1 hf2 h
theorem go_none {r : Int} {ord : List (Int × Int)} : ∀ (ps : List (Int × Int)) (c : Nat) (f : Int), ord.drop c = ps → f = ((ord.take c).map (·.1)).sum → shortGo r ord ps c f = none →
    ∀ k, c ≤ k → k < ord.length → ¬ ((ord.take (k + 1)).map (·.1)).sum < due r (k + 1)
  | [], c, _, hd, _, _ => fun k h1 h2 => by
    have := congrArg List.length hd
    rw [List.length_drop, List.length_nil] at this
    omega
  | p :: ps, c, f, hd, hf, h => by
    obtain ⟨h1, h2, h3⟩ := go_step hd
    have hf2 : f + p.1 = ((ord.take (c + 1)).map (·.1)).sum := by rw [h3, List.map_append, List.sum_append, hf]; simp
    unfold shortGo at h
    split at h
    · cases h
    · rename_i hlt
      intro k hk hk2
      by_cases e : k = c
      · subst e
        rw [← hf2]
        exact hlt
      · exact go_none ps (c + 1) _ h1 hf2 h k (by omega) hk2
theorem num_get {rs : List Int} {p : Int × Int} (h : p ∈ numbered rs) : 0 ≤ p.2 ∧ p.2 < rs.length ∧ rs.getD p.2.toNat 0 = p.1 := by
  obtain ⟨q, hq, rfl⟩ := List.mem_map.mp h
  obtain ⟨h1, h2⟩ := List.mem_zipIdx' hq
  refine ⟨by omega, by show ((q.2 : Nat) : Int) < _; omega, ?_⟩
  show rs.getD (Int.toNat (q.2 : Nat)) 0 = q.1
  rw [Int.toNat_natCast, List.getD_eq_getElem?_getD, List.getElem?_eq_getElem h1, h2]
  rfl
theorem num_fst (rs : List Int) : (numbered rs).map (·.1) = rs := by
  unfold numbered
  rw [List.map_map]
  exact List.zipIdx_map_fst 0 rs
theorem num_snd (rs : List Int) : ((numbered rs).map (·.2)).Nodup := by
  unfold numbered
  rw [List.map_map]
  have e : (rs.zipIdx 0).map ((fun x : Int × Int => x.2) ∘ fun p : Int × Nat => (p.1, (p.2 : Int))) = (List.range rs.length).map fun (i : Nat) => (i : Int) := by
    rw [List.range_eq_range', ← List.zipIdx_map_snd 0 rs, List.map_map]
    rfl
  rw [e]
  exact List.Pairwise.map _ (fun a b h => by omega) List.nodup_range
theorem sorted_strict {xs : List Int} (h : xs.Nodup) : (sortI xs).Pairwise (· < ·) := by
  have h1 := sortI_sorted xs
  have h2 : (sortI xs).Nodup := (sortI_perm xs).nodup_iff.mpr h
  have := h1.and h2
  exact this.imp fun ⟨h1, h2⟩ => by omega
theorem ord_len (rs : List Int) : (ordP rs).length = rs.length := by
  rw [ordP, (sortP_perm _).length_eq, numbered, List.length_map, List.length_zipIdx]
theorem shortSet_some {rs : List Int} {r : Int} {xs : List Int} (h : shortSet rs r = some xs) : Inc rs.length xs ∧ tot rs xs < due r xs.length := by
  obtain ⟨k, hk, rfl, hlt⟩ := go_some (ord := ordP rs) (ordP rs) 0 0 rfl rfl h
  have hsub : (ordP rs).take (k + 1) ⊆ ordP rs := List.take_subset ..
  have hmem : ∀ p ∈ (ordP rs).take (k + 1), p ∈ numbered rs := fun p hp => (sortP_perm _).mem_iff.mp (hsub hp)
  have hpm := sortI_perm (((ordP rs).take (k + 1)).map (·.2))
  have hlen : (sortI (((ordP rs).take (k + 1)).map (·.2))).length = k + 1 := by
    rw [hpm.length_eq, List.length_map, List.length_take]
    omega
  refine ⟨⟨sorted_strict ?_, fun i hi => ?_⟩, ?_⟩
  · have h1 : ((ordP rs).map (·.2)).Nodup := ((sortP_perm _).map _).nodup_iff.mpr (num_snd rs)
    refine h1.sublist ?_
    exact (List.take_sublist _ _).map _
  · obtain ⟨p, hp, rfl⟩ := List.mem_map.mp (hpm.mem_iff.mp hi)
    have := num_get (hmem p hp)
    exact ⟨this.1, this.2.1⟩
  · rw [hlen]
    refine Int.lt_of_le_of_lt (Int.le_of_eq ?_) hlt
    unfold tot
    rw [perm_sum (hpm.map _), List.map_map]
    congr 1
    refine List.map_congr_left fun p hp => (num_get (hmem p hp)).2.2
theorem shortSet_none {rs : List Int} {r : Int} (h : shortSet rs r = none) {c : List Int} (hc : Inc rs.length c) : ¬ tot rs c < due r c.length := by
  intro hlt
  have hs := inc_sub rs 0 c hc.1 (fun i hi => by have := hc.2 i hi; omega)
  have e0 : (c.map fun (i : Int) => rs.getD (i - ((0 : Nat) : Int)).toNat 0) = c.map fun (i : Int) => rs.getD i.toNat 0 := by
    refine List.map_congr_left fun i _ => by rw [show i - ((0 : Nat) : Int) = i by omega]
  rw [e0] at hs
  have hp : rs.Perm ((ordP rs).map (·.1)) := by
    have := (sortP_perm (numbered rs)).map (·.1)
    rw [num_fst] at this
    exact this.symm
  have hsort : ((ordP rs).map (·.1)).Pairwise (· ≤ ·) := by
    rw [List.pairwise_map]
    exact (sortP_sorted _).imp fun h => by omega
  have hle := least_sum hs hp hsort
  rw [List.length_map, ← List.map_take] at hle
  cases k : c.length with
  | zero =>
    have : c = [] := List.length_eq_zero_iff.mp k
    subst this
    simp [tot, due] at hlt
  | succ k' =>
    have hcl := hs.length_le
    rw [List.length_map] at hcl
    have := go_none (ord := ordP rs) (ordP rs) 0 0 rfl rfl h k' (Nat.zero_le _) (by rw [ord_len]; omega)
    rw [k] at hle hlt
    exact this (Int.lt_of_le_of_lt hle hlt)
end PT
set_option maxHeartbeats 1000000
namespace PT
open PySem PySem.Spec PyProof.Rows L2 DL
/-! equal data -/
theorem eqvAll_I : ∀ (xs ys : List Int), PyData.eqvAll (xs.map .int) (ys.map .int) = decide (xs = ys)
  | [], [] => rfl
  | [], _ :: _ => rfl
  | _ :: _, [] => rfl
  | x :: xs, y :: ys => by
    show (PyData.eqv (.int x) (.int y) && PyData.eqvAll (xs.map .int) (ys.map .int)) = _
    rw [eqvAll_I xs ys]
    show ((x == y) && decide (xs = ys)) = _
    rw [show (x == y) = decide (x = y) from rfl, ← Bool.decide_and]
    congr 1
    rw [List.cons.injEq]
theorem eqv_tI {xs ys : List Int} : PyData.eqv (tI xs) (tI ys) = decide (xs = ys) := eqvAll_I xs ys
theorem eqv_lI {xs ys : List Int} : PyData.eqv (lI xs) (lI ys) = decide (xs = ys) := eqvAll_I xs ys
theorem depth_tI {xs : List Int} : (tI xs).depth = 1 := by
  show PyData.depthAll (xs.map .int) + 1 = 1
  rw [PySem.W.depth_ints]
theorem depth_lI {xs : List Int} : (lI xs).depth = 1 := by
  show PyData.depthAll (xs.map .int) + 1 = 1
  rw [PySem.W.depth_ints]
theorem eqvAll_T : ∀ (xs ys : List (List Int)), PyData.eqvAll (xs.map tI) (ys.map tI) = decide (xs = ys)
  | [], [] => rfl
  | [], _ :: _ => rfl
  | _ :: _, [] => rfl
  | x :: xs, y :: ys => by
    show (PyData.eqv (tI x) (tI y) && PyData.eqvAll (xs.map tI) (ys.map tI)) = _
    rw [eqvAll_T xs ys, eqv_tI, ← Bool.decide_and]
    congr 1
    rw [List.cons.injEq]
theorem depthAll_le {k : Nat} : ∀ {xs : List D}, (∀ x ∈ xs, x.depth ≤ k) → PyData.depthAll xs ≤ k
  | [], _ => Nat.zero_le _
  | x :: xs, h => by
    have h1 := h x (List.mem_cons_self ..)
    have h2 := depthAll_le (xs := xs) fun y hy => h y (List.mem_cons_of_mem _ hy)
    exact Nat.max_le.mpr ⟨h1, h2⟩
theorem eqD_tI {xs ys : List Int} : eqD (tI xs) (tI ys) = some (.bool (decide (xs = ys))) := by
  unfold eqD
  rw [if_pos (show shal _ _ from Nat.le_trans (Nat.min_le_left _ _) (by rw [depth_tI]; decide)), eqv_tI]
theorem eqD_lI {xs ys : List Int} : eqD (lI xs) (lI ys) = some (.bool (decide (xs = ys))) := by
  unfold eqD
  rw [if_pos (show shal _ _ from Nat.le_trans (Nat.min_le_left _ _) (by rw [depth_lI]; decide)), eqv_lI]
theorem neD_lI {xs ys : List Int} : neD (lI xs) (lI ys) = some (.bool (!decide (xs = ys))) := by
  unfold neD
  rw [if_pos (show shal _ _ from Nat.le_trans (Nat.min_le_left _ _) (by rw [depth_lI]; decide)), eqv_lI]
theorem neD_tI {xs ys : List Int} : neD (tI xs) (tI ys) = some (.bool (!decide (xs = ys))) := by
  unfold neD
  rw [if_pos (show shal _ _ from Nat.le_trans (Nat.min_le_left _ _) (by rw [depth_tI]; decide)), eqv_tI]
theorem eqD_bb {a b : Bool} : eqD (.bool a) (.bool b) = some (.bool (decide (a = b))) := by
  unfold eqD
  rw [if_pos (show shal _ _ from Nat.le_trans (Nat.min_le_left _ _) (Nat.zero_le _))]
  rfl
theorem neD_bb {a b : Bool} : neD (.bool a) (.bool b) = some (.bool (!decide (a = b))) := by
  unfold neD
  rw [if_pos (show shal _ _ from Nat.le_trans (Nat.min_le_left _ _) (Nat.zero_le _))]
  rfl
/-- lists against [] -/
theorem eqD_nil {xs : List D} : eqD (.list xs) (.list []) = some (.bool xs.isEmpty) := by
  unfold eqD
  rw [if_pos (show shal _ _ from Nat.le_trans (Nat.min_le_right _ _) (by decide))]
  cases xs <;> rfl
theorem neD_nil {xs : List D} : neD (.list xs) (.list []) = some (.bool !xs.isEmpty) := by
  unfold neD
  rw [if_pos (show shal _ _ from Nat.le_trans (Nat.min_le_right _ _) (by decide))]
  cases xs <;> rfl
theorem inB_T {x : List Int} {xs : List (List Int)} : inB (tI x) (xs.map tI) = decide (x ∈ xs) := by
  unfold inB
  rw [List.any_map]
  induction xs with
  | nil => simp
  | cons y ys ih =>
    rw [List.any_cons, ih]
    show (PyData.eqv (tI y) (tI x) || _) = _
    rw [eqv_tI, ← Bool.decide_or]
    congr 1
    rw [List.mem_cons, @eq_comm _ y x]
theorem inD_T {x : List Int} {xs : List (List Int)} : inD true (tI x) (.list (xs.map tI)) = some (.bool (!decide (x ∈ xs))) := by
  show (if _ then _ else _) = _
  rw [if_pos (by rw [depth_tI]; decide), inB_T]
  rfl
theorem inDf_T {x : List Int} {xs : List (List Int)} : inD false (tI x) (.list (xs.map tI)) = some (.bool (decide (x ∈ xs))) := by
  show (if _ then _ else _) = _
  rw [if_pos (by rw [depth_tI]; decide), inB_T]
  rfl
theorem isD_n {d : D} : isD false d .none = some (.bool (PyData.eqv d .none)) := rfl
theorem isnD_n {d : D} : isD true d .none = some (.bool (!PyData.eqv d .none)) := rfl
theorem isD_b {a b : Bool} : isD false (.bool a) (.bool b) = some (.bool (decide (a = b))) := rfl
theorem isnD_b {a b : Bool} : isD true (.bool a) (.bool b) = some (.bool (!decide (a = b))) := rfl
theorem optT_none (o : Option (List Int)) : PyData.eqv (optT o) .none = o.isNone := by cases o <;> rfl
theorem sp_same_b {a b : Bool} {m F R} (h : R (.dat (.bool (decide (a = b)))) m) : m__law_same [.dat (.bool a), .dat (.bool b)] m F R := by
  rw [show m__law_same = fnS 4 2 (b__law_same (m__law_same_ 5)) from rfl]
  simp -implicitDefEqProofs (disch := ((try simp only [List.length_map, List.length_append, List.length_cons, List.length_nil, List.length_take, List.length_drop, List.length_set, List.length_replicate, List.length_range, List.length_zipIdx, List.length_zip]); omega)) only [kVal_s, hold_c, kNx_c, kRt_c, kRtN_c, kAsg_c, kAsgF_c, kPar_c, kParF_c, kParF2_c, kExp_c, kFor_c, kIf_t, kIf_f, kIfV_t, kIfV_f, kOrT_t, kOrT_f, kAndT_t, kAndT_f, kNotT_c, kAnd_t, kAnd_f, kOr_t, kOr_f, kNot_b, kTest_b, kBin_c, kBin2_c, kUn_c, kChain_t, kChain_f, kCh1_c, kCh2_c, kRet_d, kRet_n, kRetN_n, kSome_i, kSlot_d, kDc_c, kDc2_c, kLst_c, kLen_c, kTup_c, kCB_c, kIsa_c, kSl1_c, kSl2_c, kSl3_c, kRtO_c, kOm_c, kOm2_c, kOm3_c, kSo_c, kSo2_c, kSo3_c, kOi_c, kOi2_c, kSeq_c, kEnum_c, kEnum2_c, kZip_c, kZip2_c, kZip3_c, kZip4_c, kRg1_c, kRg2_c, kRg2b_c, kRgD_c, kRgDb_c, kCall_c, kCallN_c, kAc_c, kAc2_c, kBag_b, kComp_c, kRev_c, kGc_c, kFl_c, compT_c, kCt_c, kCt2_t, kCt2_f, fnS_c, ssSeq_c, ssRet_c, ssRetF_c, ssRetOwn_c, ssRetN_c, ssAsg_c, ssAsgF_c, ssPar_c, ssParF_c, ssIf_c, ssExpr_c, ssNil_c, ssPass_c, ssBreak_c, ssCont_c, ssFor_c, ssFreeze_c, ssOwnM_c, sVar_c, sC_c, sBin_c, sUn_c, sTest_c, sNotT_c, sAndT_c, sOrT_c, sBorT_c, sAndV_c, sOrV_c, sNotV_c, sIf_c, sChain_c, stYes_c, sdNil_c, sdCons_c, sLst_c, sLen_c, sTup_c, sCallB_c, sCallL_c, sIsa_c, sSlice_c, soNone_c, soSome_c, sgName_c, sgOwn_c, sOwnIx_c, siSeq_c, siEnum_c, siZip_c, siRange1_c, siRange2_c, siRangeD_c, slR1_c, slR2_c, sCall_c, sCallN_c, saNil_c, saCons_c, saBag_c, sComp_c, sRevL_c, sgTup_t, sgCons_c, sgNil_n, freezeSl, setUn, Slot.inner, List.map_cons, List.map_nil, List.replicate, List.cons_append, List.nil_append, List.append_nil, List.getElem?_cons_zero, List.getElem?_cons_succ, List.set_cons_zero, List.set_cons_succ, List.length_cons, List.length_nil, and_assoc, Option.some.injEq, PyData.list.injEq, PyData.tuple.injEq, toL_n, Nat.sub_self, Nat.zero_add, Nat.reduceAdd, Nat.reduceSub, true_and, and_true, addD_ii, subD_ii, ltD_ii, leD_ii, gtD_ii, geD_ii, negD_i, mulD_i, fdivD_i, modD_i, itemsD_l, itemsD_t, tupleB_l, tupleB_t, listB_l, listB_t, lenB_l, lenB_t, intB_i, intB_b, fold2_i, appendM_1, ixN_len, reduceCtorEq, reduceIte, Bool.and_self, Bool.true_and, Bool.false_and, Bool.and_true, Bool.and_false, Bool.not_true, Bool.not_false, PyData.isTuple, PyData.isInt, PyData.isBool, PyData.isList, PyData.isStr, isBLT, b__law_same, eqD_bb]
  exact h
end PT
set_option maxHeartbeats 1000000
namespace PT
open PySem PySem.Spec PyProof.Rows L2 DL
/-! balanced, fits -/
def balB (rs : List Int) (r : Int) : Bool := decide (rs.sum = r * (rs.length : Int) * ((rs.length : Int) + 1) / 2) && (shortSet rs r).isNone
theorem sp_balanced {rs : List Int} {r : Int} {m F R} (hl : rs.length ≤ 100) (h : R (.dat (.bool (balB rs r))) m) : m_balanced [.dat (tI rs), .dat (.int r)] m F R := by
  simp -implicitDefEqProofs (disch := ((try simp only [List.length_map, List.length_append, List.length_cons, List.length_nil, List.length_take, List.length_drop, List.length_set, List.length_replicate, List.length_range, List.length_zipIdx, List.length_zip]); omega)) only [kVal_s, hold_c, kNx_c, kRt_c, kRtN_c, kAsg_c, kAsgF_c, kPar_c, kParF_c, kParF2_c, kExp_c, kFor_c, kIf_t, kIf_f, kIfV_t, kIfV_f, kOrT_t, kOrT_f, kAndT_t, kAndT_f, kNotT_c, kAnd_t, kAnd_f, kOr_t, kOr_f, kNot_b, kTest_b, kBin_c, kBin2_c, kUn_c, kChain_t, kChain_f, kCh1_c, kCh2_c, kRet_d, kRet_n, kRetN_n, kSome_i, kSlot_d, kDc_c, kDc2_c, kLst_c, kLen_c, kTup_c, kCB_c, kIsa_c, kSl1_c, kSl2_c, kSl3_c, kRtO_c, kOm_c, kOm2_c, kOm3_c, kSo_c, kSo2_c, kSo3_c, kOi_c, kOi2_c, kSeq_c, kEnum_c, kEnum2_c, kZip_c, kZip2_c, kZip3_c, kZip4_c, kRg1_c, kRg2_c, kRg2b_c, kRgD_c, kRgDb_c, kCall_c, kCallN_c, kAc_c, kAc2_c, kBag_b, kComp_c, kRev_c, kGc_c, kFl_c, compT_c, kCt_c, kCt2_t, kCt2_f, fnS_c, ssSeq_c, ssRet_c, ssRetF_c, ssRetOwn_c, ssRetN_c, ssAsg_c, ssAsgF_c, ssPar_c, ssParF_c, ssIf_c, ssExpr_c, ssNil_c, ssPass_c, ssBreak_c, ssCont_c, ssFor_c, ssFreeze_c, ssOwnM_c, sVar_c, sC_c, sBin_c, sUn_c, sTest_c, sNotT_c, sAndT_c, sOrT_c, sBorT_c, sAndV_c, sOrV_c, sNotV_c, sIf_c, sChain_c, stYes_c, sdNil_c, sdCons_c, sLst_c, sLen_c, sTup_c, sCallB_c, sCallL_c, sIsa_c, sSlice_c, soNone_c, soSome_c, sgName_c, sgOwn_c, sOwnIx_c, siSeq_c, siEnum_c, siZip_c, siRange1_c, siRange2_c, siRangeD_c, slR1_c, slR2_c, sCall_c, sCallN_c, saNil_c, saCons_c, saBag_c, sComp_c, sRevL_c, sgTup_t, sgCons_c, sgNil_n, freezeSl, setUn, Slot.inner, List.map_cons, List.map_nil, List.replicate, List.cons_append, List.nil_append, List.append_nil, List.getElem?_cons_zero, List.getElem?_cons_succ, List.set_cons_zero, List.set_cons_succ, List.length_cons, List.length_nil, and_assoc, Option.some.injEq, PyData.list.injEq, PyData.tuple.injEq, toL_n, Nat.sub_self, Nat.zero_add, Nat.reduceAdd, Nat.reduceSub, true_and, and_true, addD_ii, subD_ii, ltD_ii, leD_ii, gtD_ii, geD_ii, negD_i, mulD_i, fdivD_i, modD_i, itemsD_l, itemsD_t, tupleB_l, tupleB_t, listB_l, listB_t, lenB_l, lenB_t, intB_i, intB_b, fold2_i, appendM_1, ixN_len, reduceCtorEq, reduceIte, Bool.and_self, Bool.true_and, Bool.false_and, Bool.and_true, Bool.and_false, Bool.not_true, Bool.not_false, PyData.isTuple, PyData.isInt, PyData.isBool, PyData.isList, PyData.isStr, isBLT, m_balanced, b_balanced, tI, sumB_t, List.length_map]
  refine sp_least (by omega) ?_
  simp -implicitDefEqProofs (disch := ((try simp only [List.length_map, List.length_append, List.length_cons, List.length_nil, List.length_take, List.length_drop, List.length_set, List.length_replicate, List.length_range, List.length_zipIdx, List.length_zip]); omega)) only [kVal_s, hold_c, kNx_c, kRt_c, kRtN_c, kAsg_c, kAsgF_c, kPar_c, kParF_c, kParF2_c, kExp_c, kFor_c, kIf_t, kIf_f, kIfV_t, kIfV_f, kOrT_t, kOrT_f, kAndT_t, kAndT_f, kNotT_c, kAnd_t, kAnd_f, kOr_t, kOr_f, kNot_b, kTest_b, kBin_c, kBin2_c, kUn_c, kChain_t, kChain_f, kCh1_c, kCh2_c, kRet_d, kRet_n, kRetN_n, kSome_i, kSlot_d, kDc_c, kDc2_c, kLst_c, kLen_c, kTup_c, kCB_c, kIsa_c, kSl1_c, kSl2_c, kSl3_c, kRtO_c, kOm_c, kOm2_c, kOm3_c, kSo_c, kSo2_c, kSo3_c, kOi_c, kOi2_c, kSeq_c, kEnum_c, kEnum2_c, kZip_c, kZip2_c, kZip3_c, kZip4_c, kRg1_c, kRg2_c, kRg2b_c, kRgD_c, kRgDb_c, kCall_c, kCallN_c, kAc_c, kAc2_c, kBag_b, kComp_c, kRev_c, kGc_c, kFl_c, compT_c, kCt_c, kCt2_t, kCt2_f, fnS_c, ssSeq_c, ssRet_c, ssRetF_c, ssRetOwn_c, ssRetN_c, ssAsg_c, ssAsgF_c, ssPar_c, ssParF_c, ssIf_c, ssExpr_c, ssNil_c, ssPass_c, ssBreak_c, ssCont_c, ssFor_c, ssFreeze_c, ssOwnM_c, sVar_c, sC_c, sBin_c, sUn_c, sTest_c, sNotT_c, sAndT_c, sOrT_c, sBorT_c, sAndV_c, sOrV_c, sNotV_c, sIf_c, sChain_c, stYes_c, sdNil_c, sdCons_c, sLst_c, sLen_c, sTup_c, sCallB_c, sCallL_c, sIsa_c, sSlice_c, soNone_c, soSome_c, sgName_c, sgOwn_c, sOwnIx_c, siSeq_c, siEnum_c, siZip_c, siRange1_c, siRange2_c, siRangeD_c, slR1_c, slR2_c, sCall_c, sCallN_c, saNil_c, saCons_c, saBag_c, sComp_c, sRevL_c, sgTup_t, sgCons_c, sgNil_n, freezeSl, setUn, Slot.inner, List.map_cons, List.map_nil, List.replicate, List.cons_append, List.nil_append, List.append_nil, List.getElem?_cons_zero, List.getElem?_cons_succ, List.set_cons_zero, List.set_cons_succ, List.length_cons, List.length_nil, and_assoc, Option.some.injEq, PyData.list.injEq, PyData.tuple.injEq, toL_n, Nat.sub_self, Nat.zero_add, Nat.reduceAdd, Nat.reduceSub, true_and, and_true, addD_ii, subD_ii, ltD_ii, leD_ii, gtD_ii, geD_ii, negD_i, mulD_i, fdivD_i, modD_i, itemsD_l, itemsD_t, tupleB_l, tupleB_t, listB_l, listB_t, lenB_l, lenB_t, intB_i, intB_b, fold2_i, appendM_1, ixN_len, reduceCtorEq, reduceIte, Bool.and_self, Bool.true_and, Bool.false_and, Bool.and_true, Bool.and_false, Bool.not_true, Bool.not_false, PyData.isTuple, PyData.isInt, PyData.isBool, PyData.isList, PyData.isStr, isBLT, eqD_i]
  unfold balB at h
  cases e : decide (rs.sum = r * (rs.length : Int) * ((rs.length : Int) + 1) / 2) with
  | true =>
    rw [e, Bool.true_and] at h
    simp -implicitDefEqProofs (disch := ((try simp only [List.length_map, List.length_append, List.length_cons, List.length_nil, List.length_take, List.length_drop, List.length_set, List.length_replicate, List.length_range, List.length_zipIdx, List.length_zip]); omega)) only [kVal_s, hold_c, kNx_c, kRt_c, kRtN_c, kAsg_c, kAsgF_c, kPar_c, kParF_c, kParF2_c, kExp_c, kFor_c, kIf_t, kIf_f, kIfV_t, kIfV_f, kOrT_t, kOrT_f, kAndT_t, kAndT_f, kNotT_c, kAnd_t, kAnd_f, kOr_t, kOr_f, kNot_b, kTest_b, kBin_c, kBin2_c, kUn_c, kChain_t, kChain_f, kCh1_c, kCh2_c, kRet_d, kRet_n, kRetN_n, kSome_i, kSlot_d, kDc_c, kDc2_c, kLst_c, kLen_c, kTup_c, kCB_c, kIsa_c, kSl1_c, kSl2_c, kSl3_c, kRtO_c, kOm_c, kOm2_c, kOm3_c, kSo_c, kSo2_c, kSo3_c, kOi_c, kOi2_c, kSeq_c, kEnum_c, kEnum2_c, kZip_c, kZip2_c, kZip3_c, kZip4_c, kRg1_c, kRg2_c, kRg2b_c, kRgD_c, kRgDb_c, kCall_c, kCallN_c, kAc_c, kAc2_c, kBag_b, kComp_c, kRev_c, kGc_c, kFl_c, compT_c, kCt_c, kCt2_t, kCt2_f, fnS_c, ssSeq_c, ssRet_c, ssRetF_c, ssRetOwn_c, ssRetN_c, ssAsg_c, ssAsgF_c, ssPar_c, ssParF_c, ssIf_c, ssExpr_c, ssNil_c, ssPass_c, ssBreak_c, ssCont_c, ssFor_c, ssFreeze_c, ssOwnM_c, sVar_c, sC_c, sBin_c, sUn_c, sTest_c, sNotT_c, sAndT_c, sOrT_c, sBorT_c, sAndV_c, sOrV_c, sNotV_c, sIf_c, sChain_c, stYes_c, sdNil_c, sdCons_c, sLst_c, sLen_c, sTup_c, sCallB_c, sCallL_c, sIsa_c, sSlice_c, soNone_c, soSome_c, sgName_c, sgOwn_c, sOwnIx_c, siSeq_c, siEnum_c, siZip_c, siRange1_c, siRange2_c, siRangeD_c, slR1_c, slR2_c, sCall_c, sCallN_c, saNil_c, saCons_c, saBag_c, sComp_c, sRevL_c, sgTup_t, sgCons_c, sgNil_n, freezeSl, setUn, Slot.inner, List.map_cons, List.map_nil, List.replicate, List.cons_append, List.nil_append, List.append_nil, List.getElem?_cons_zero, List.getElem?_cons_succ, List.set_cons_zero, List.set_cons_succ, List.length_cons, List.length_nil, and_assoc, Option.some.injEq, PyData.list.injEq, PyData.tuple.injEq, toL_n, Nat.sub_self, Nat.zero_add, Nat.reduceAdd, Nat.reduceSub, true_and, and_true, addD_ii, subD_ii, ltD_ii, leD_ii, gtD_ii, geD_ii, negD_i, mulD_i, fdivD_i, modD_i, itemsD_l, itemsD_t, tupleB_l, tupleB_t, listB_l, listB_t, lenB_l, lenB_t, intB_i, intB_b, fold2_i, appendM_1, ixN_len, reduceCtorEq, reduceIte, Bool.and_self, Bool.true_and, Bool.false_and, Bool.and_true, Bool.and_false, Bool.not_true, Bool.not_false, PyData.isTuple, PyData.isInt, PyData.isBool, PyData.isList, PyData.isStr, isBLT]
    refine sp_short_set hl ?_
    simp -implicitDefEqProofs (disch := ((try simp only [List.length_map, List.length_append, List.length_cons, List.length_nil, List.length_take, List.length_drop, List.length_set, List.length_replicate, List.length_range, List.length_zipIdx, List.length_zip]); omega)) only [kVal_s, hold_c, kNx_c, kRt_c, kRtN_c, kAsg_c, kAsgF_c, kPar_c, kParF_c, kParF2_c, kExp_c, kFor_c, kIf_t, kIf_f, kIfV_t, kIfV_f, kOrT_t, kOrT_f, kAndT_t, kAndT_f, kNotT_c, kAnd_t, kAnd_f, kOr_t, kOr_f, kNot_b, kTest_b, kBin_c, kBin2_c, kUn_c, kChain_t, kChain_f, kCh1_c, kCh2_c, kRet_d, kRet_n, kRetN_n, kSome_i, kSlot_d, kDc_c, kDc2_c, kLst_c, kLen_c, kTup_c, kCB_c, kIsa_c, kSl1_c, kSl2_c, kSl3_c, kRtO_c, kOm_c, kOm2_c, kOm3_c, kSo_c, kSo2_c, kSo3_c, kOi_c, kOi2_c, kSeq_c, kEnum_c, kEnum2_c, kZip_c, kZip2_c, kZip3_c, kZip4_c, kRg1_c, kRg2_c, kRg2b_c, kRgD_c, kRgDb_c, kCall_c, kCallN_c, kAc_c, kAc2_c, kBag_b, kComp_c, kRev_c, kGc_c, kFl_c, compT_c, kCt_c, kCt2_t, kCt2_f, fnS_c, ssSeq_c, ssRet_c, ssRetF_c, ssRetOwn_c, ssRetN_c, ssAsg_c, ssAsgF_c, ssPar_c, ssParF_c, ssIf_c, ssExpr_c, ssNil_c, ssPass_c, ssBreak_c, ssCont_c, ssFor_c, ssFreeze_c, ssOwnM_c, sVar_c, sC_c, sBin_c, sUn_c, sTest_c, sNotT_c, sAndT_c, sOrT_c, sBorT_c, sAndV_c, sOrV_c, sNotV_c, sIf_c, sChain_c, stYes_c, sdNil_c, sdCons_c, sLst_c, sLen_c, sTup_c, sCallB_c, sCallL_c, sIsa_c, sSlice_c, soNone_c, soSome_c, sgName_c, sgOwn_c, sOwnIx_c, siSeq_c, siEnum_c, siZip_c, siRange1_c, siRange2_c, siRangeD_c, slR1_c, slR2_c, sCall_c, sCallN_c, saNil_c, saCons_c, saBag_c, sComp_c, sRevL_c, sgTup_t, sgCons_c, sgNil_n, freezeSl, setUn, Slot.inner, List.map_cons, List.map_nil, List.replicate, List.cons_append, List.nil_append, List.append_nil, List.getElem?_cons_zero, List.getElem?_cons_succ, List.set_cons_zero, List.set_cons_succ, List.length_cons, List.length_nil, and_assoc, Option.some.injEq, PyData.list.injEq, PyData.tuple.injEq, toL_n, Nat.sub_self, Nat.zero_add, Nat.reduceAdd, Nat.reduceSub, true_and, and_true, addD_ii, subD_ii, ltD_ii, leD_ii, gtD_ii, geD_ii, negD_i, mulD_i, fdivD_i, modD_i, itemsD_l, itemsD_t, tupleB_l, tupleB_t, listB_l, listB_t, lenB_l, lenB_t, intB_i, intB_b, fold2_i, appendM_1, ixN_len, reduceCtorEq, reduceIte, Bool.and_self, Bool.true_and, Bool.false_and, Bool.and_true, Bool.and_false, Bool.not_true, Bool.not_false, PyData.isTuple, PyData.isInt, PyData.isBool, PyData.isList, PyData.isStr, isBLT, isD_n, optT_none]
    exact h
  | false =>
    rw [e, Bool.false_and] at h
    simp -implicitDefEqProofs (disch := ((try simp only [List.length_map, List.length_append, List.length_cons, List.length_nil, List.length_take, List.length_drop, List.length_set, List.length_replicate, List.length_range, List.length_zipIdx, List.length_zip]); omega)) only [kVal_s, hold_c, kNx_c, kRt_c, kRtN_c, kAsg_c, kAsgF_c, kPar_c, kParF_c, kParF2_c, kExp_c, kFor_c, kIf_t, kIf_f, kIfV_t, kIfV_f, kOrT_t, kOrT_f, kAndT_t, kAndT_f, kNotT_c, kAnd_t, kAnd_f, kOr_t, kOr_f, kNot_b, kTest_b, kBin_c, kBin2_c, kUn_c, kChain_t, kChain_f, kCh1_c, kCh2_c, kRet_d, kRet_n, kRetN_n, kSome_i, kSlot_d, kDc_c, kDc2_c, kLst_c, kLen_c, kTup_c, kCB_c, kIsa_c, kSl1_c, kSl2_c, kSl3_c, kRtO_c, kOm_c, kOm2_c, kOm3_c, kSo_c, kSo2_c, kSo3_c, kOi_c, kOi2_c, kSeq_c, kEnum_c, kEnum2_c, kZip_c, kZip2_c, kZip3_c, kZip4_c, kRg1_c, kRg2_c, kRg2b_c, kRgD_c, kRgDb_c, kCall_c, kCallN_c, kAc_c, kAc2_c, kBag_b, kComp_c, kRev_c, kGc_c, kFl_c, compT_c, kCt_c, kCt2_t, kCt2_f, fnS_c, ssSeq_c, ssRet_c, ssRetF_c, ssRetOwn_c, ssRetN_c, ssAsg_c, ssAsgF_c, ssPar_c, ssParF_c, ssIf_c, ssExpr_c, ssNil_c, ssPass_c, ssBreak_c, ssCont_c, ssFor_c, ssFreeze_c, ssOwnM_c, sVar_c, sC_c, sBin_c, sUn_c, sTest_c, sNotT_c, sAndT_c, sOrT_c, sBorT_c, sAndV_c, sOrV_c, sNotV_c, sIf_c, sChain_c, stYes_c, sdNil_c, sdCons_c, sLst_c, sLen_c, sTup_c, sCallB_c, sCallL_c, sIsa_c, sSlice_c, soNone_c, soSome_c, sgName_c, sgOwn_c, sOwnIx_c, siSeq_c, siEnum_c, siZip_c, siRange1_c, siRange2_c, siRangeD_c, slR1_c, slR2_c, sCall_c, sCallN_c, saNil_c, saCons_c, saBag_c, sComp_c, sRevL_c, sgTup_t, sgCons_c, sgNil_n, freezeSl, setUn, Slot.inner, List.map_cons, List.map_nil, List.replicate, List.cons_append, List.nil_append, List.append_nil, List.getElem?_cons_zero, List.getElem?_cons_succ, List.set_cons_zero, List.set_cons_succ, List.length_cons, List.length_nil, and_assoc, Option.some.injEq, PyData.list.injEq, PyData.tuple.injEq, toL_n, Nat.sub_self, Nat.zero_add, Nat.reduceAdd, Nat.reduceSub, true_and, and_true, addD_ii, subD_ii, ltD_ii, leD_ii, gtD_ii, geD_ii, negD_i, mulD_i, fdivD_i, modD_i, itemsD_l, itemsD_t, tupleB_l, tupleB_t, listB_l, listB_t, lenB_l, lenB_t, intB_i, intB_b, fold2_i, appendM_1, ixN_len, reduceCtorEq, reduceIte, Bool.and_self, Bool.true_and, Bool.false_and, Bool.and_true, Bool.and_false, Bool.not_true, Bool.not_false, PyData.isTuple, PyData.isInt, PyData.isBool, PyData.isList, PyData.isStr, isBLT]
    exact h
def fitsGo (r : Int) : List Int → Nat → Int → Option Int
  | [], _, f => some f
  | x :: xs, c, f => if f + x < r * ((c : Int) + 1) * ((c : Int) + 2) / 2 then none else fitsGo r xs (c + 1) (f + x)
def fitsB (rs : List Int) (r : Int) : Bool := match fitsGo r (sortI rs) 0 0 with
  | none => false
  | some f => decide (f = r * (rs.length : Int) * ((rs.length : Int) + 1) / 2)
theorem lp_fits {De : DEnds} {F : Exc → Prop} {m : Nat} {d0 : D} {r : Int} : ∀ (xs : List Int) (c : Nat) (f : Int) (x3 x4 : Slot), c + xs.length ≤ 1000 →
    (fitsGo r xs c f = none → De.rt (.dat (.bool false)) m) → (∀ g, fitsGo r xs c f = some g → ∀ x3 x4, De.nx ⟨[.dat d0, .dat (.int r), .dat (.int g), x3, x4], m, F⟩) →
    forL (sgTup 2 (sgCons (sgName 3) (sgCons (sgName 4) sgNil))) L1__law_fits De (enumD c (xs.map .int)) ⟨[.dat d0, .dat (.int r), .dat (.int f), x3, x4], m, F⟩
  | [], c, f, x3, x4, hc, h1, h2 => h2 f rfl x3 x4
  | x :: xs, c, f, x3, x4, hc, h1, h2 => by
    rw [List.length_cons] at hc
    rw [List.map_cons, enumD, forL_c]
    simp -implicitDefEqProofs (disch := ((try simp only [List.length_map, List.length_append, List.length_cons, List.length_nil, List.length_take, List.length_drop, List.length_set, List.length_replicate, List.length_range, List.length_zipIdx, List.length_zip]); omega)) only [kVal_s, hold_c, kNx_c, kRt_c, kRtN_c, kAsg_c, kAsgF_c, kPar_c, kParF_c, kParF2_c, kExp_c, kFor_c, kIf_t, kIf_f, kIfV_t, kIfV_f, kOrT_t, kOrT_f, kAndT_t, kAndT_f, kNotT_c, kAnd_t, kAnd_f, kOr_t, kOr_f, kNot_b, kTest_b, kBin_c, kBin2_c, kUn_c, kChain_t, kChain_f, kCh1_c, kCh2_c, kRet_d, kRet_n, kRetN_n, kSome_i, kSlot_d, kDc_c, kDc2_c, kLst_c, kLen_c, kTup_c, kCB_c, kIsa_c, kSl1_c, kSl2_c, kSl3_c, kRtO_c, kOm_c, kOm2_c, kOm3_c, kSo_c, kSo2_c, kSo3_c, kOi_c, kOi2_c, kSeq_c, kEnum_c, kEnum2_c, kZip_c, kZip2_c, kZip3_c, kZip4_c, kRg1_c, kRg2_c, kRg2b_c, kRgD_c, kRgDb_c, kCall_c, kCallN_c, kAc_c, kAc2_c, kBag_b, kComp_c, kRev_c, kGc_c, kFl_c, compT_c, kCt_c, kCt2_t, kCt2_f, fnS_c, ssSeq_c, ssRet_c, ssRetF_c, ssRetOwn_c, ssRetN_c, ssAsg_c, ssAsgF_c, ssPar_c, ssParF_c, ssIf_c, ssExpr_c, ssNil_c, ssPass_c, ssBreak_c, ssCont_c, ssFor_c, ssFreeze_c, ssOwnM_c, sVar_c, sC_c, sBin_c, sUn_c, sTest_c, sNotT_c, sAndT_c, sOrT_c, sBorT_c, sAndV_c, sOrV_c, sNotV_c, sIf_c, sChain_c, stYes_c, sdNil_c, sdCons_c, sLst_c, sLen_c, sTup_c, sCallB_c, sCallL_c, sIsa_c, sSlice_c, soNone_c, soSome_c, sgName_c, sgOwn_c, sOwnIx_c, siSeq_c, siEnum_c, siZip_c, siRange1_c, siRange2_c, siRangeD_c, slR1_c, slR2_c, sCall_c, sCallN_c, saNil_c, saCons_c, saBag_c, sComp_c, sRevL_c, sgTup_t, sgCons_c, sgNil_n, freezeSl, setUn, Slot.inner, List.map_cons, List.map_nil, List.replicate, List.cons_append, List.nil_append, List.append_nil, List.getElem?_cons_zero, List.getElem?_cons_succ, List.set_cons_zero, List.set_cons_succ, List.length_cons, List.length_nil, and_assoc, Option.some.injEq, PyData.list.injEq, PyData.tuple.injEq, toL_n, Nat.sub_self, Nat.zero_add, Nat.reduceAdd, Nat.reduceSub, true_and, and_true, addD_ii, subD_ii, ltD_ii, leD_ii, gtD_ii, geD_ii, negD_i, mulD_i, fdivD_i, modD_i, itemsD_l, itemsD_t, tupleB_l, tupleB_t, listB_l, listB_t, lenB_l, lenB_t, intB_i, intB_b, fold2_i, appendM_1, ixN_len, reduceCtorEq, reduceIte, Bool.and_self, Bool.true_and, Bool.false_and, Bool.and_true, Bool.and_false, Bool.not_true, Bool.not_false, PyData.isTuple, PyData.isInt, PyData.isBool, PyData.isList, PyData.isStr, isBLT, L1__law_fits]
    unfold fitsGo at h1 h2
    by_cases e : f + x < r * ((c : Int) + 1) * ((c : Int) + 2) / 2
    · rw [if_pos e] at h1
      rw [decide_eq_true e]
      simp -implicitDefEqProofs (disch := ((try simp only [List.length_map, List.length_append, List.length_cons, List.length_nil, List.length_take, List.length_drop, List.length_set, List.length_replicate, List.length_range, List.length_zipIdx, List.length_zip]); omega)) only [kVal_s, hold_c, kNx_c, kRt_c, kRtN_c, kAsg_c, kAsgF_c, kPar_c, kParF_c, kParF2_c, kExp_c, kFor_c, kIf_t, kIf_f, kIfV_t, kIfV_f, kOrT_t, kOrT_f, kAndT_t, kAndT_f, kNotT_c, kAnd_t, kAnd_f, kOr_t, kOr_f, kNot_b, kTest_b, kBin_c, kBin2_c, kUn_c, kChain_t, kChain_f, kCh1_c, kCh2_c, kRet_d, kRet_n, kRetN_n, kSome_i, kSlot_d, kDc_c, kDc2_c, kLst_c, kLen_c, kTup_c, kCB_c, kIsa_c, kSl1_c, kSl2_c, kSl3_c, kRtO_c, kOm_c, kOm2_c, kOm3_c, kSo_c, kSo2_c, kSo3_c, kOi_c, kOi2_c, kSeq_c, kEnum_c, kEnum2_c, kZip_c, kZip2_c, kZip3_c, kZip4_c, kRg1_c, kRg2_c, kRg2b_c, kRgD_c, kRgDb_c, kCall_c, kCallN_c, kAc_c, kAc2_c, kBag_b, kComp_c, kRev_c, kGc_c, kFl_c, compT_c, kCt_c, kCt2_t, kCt2_f, fnS_c, ssSeq_c, ssRet_c, ssRetF_c, ssRetOwn_c, ssRetN_c, ssAsg_c, ssAsgF_c, ssPar_c, ssParF_c, ssIf_c, ssExpr_c, ssNil_c, ssPass_c, ssBreak_c, ssCont_c, ssFor_c, ssFreeze_c, ssOwnM_c, sVar_c, sC_c, sBin_c, sUn_c, sTest_c, sNotT_c, sAndT_c, sOrT_c, sBorT_c, sAndV_c, sOrV_c, sNotV_c, sIf_c, sChain_c, stYes_c, sdNil_c, sdCons_c, sLst_c, sLen_c, sTup_c, sCallB_c, sCallL_c, sIsa_c, sSlice_c, soNone_c, soSome_c, sgName_c, sgOwn_c, sOwnIx_c, siSeq_c, siEnum_c, siZip_c, siRange1_c, siRange2_c, siRangeD_c, slR1_c, slR2_c, sCall_c, sCallN_c, saNil_c, saCons_c, saBag_c, sComp_c, sRevL_c, sgTup_t, sgCons_c, sgNil_n, freezeSl, setUn, Slot.inner, List.map_cons, List.map_nil, List.replicate, List.cons_append, List.nil_append, List.append_nil, List.getElem?_cons_zero, List.getElem?_cons_succ, List.set_cons_zero, List.set_cons_succ, List.length_cons, List.length_nil, and_assoc, Option.some.injEq, PyData.list.injEq, PyData.tuple.injEq, toL_n, Nat.sub_self, Nat.zero_add, Nat.reduceAdd, Nat.reduceSub, true_and, and_true, addD_ii, subD_ii, ltD_ii, leD_ii, gtD_ii, geD_ii, negD_i, mulD_i, fdivD_i, modD_i, itemsD_l, itemsD_t, tupleB_l, tupleB_t, listB_l, listB_t, lenB_l, lenB_t, intB_i, intB_b, fold2_i, appendM_1, ixN_len, reduceCtorEq, reduceIte, Bool.and_self, Bool.true_and, Bool.false_and, Bool.and_true, Bool.and_false, Bool.not_true, Bool.not_false, PyData.isTuple, PyData.isInt, PyData.isBool, PyData.isList, PyData.isStr, isBLT]
      exact h1 rfl
    · rw [if_neg e] at h1 h2
      rw [decide_eq_false e]
      simp -implicitDefEqProofs (disch := ((try simp only [List.length_map, List.length_append, List.length_cons, List.length_nil, List.length_take, List.length_drop, List.length_set, List.length_replicate, List.length_range, List.length_zipIdx, List.length_zip]); omega)) only [kVal_s, hold_c, kNx_c, kRt_c, kRtN_c, kAsg_c, kAsgF_c, kPar_c, kParF_c, kParF2_c, kExp_c, kFor_c, kIf_t, kIf_f, kIfV_t, kIfV_f, kOrT_t, kOrT_f, kAndT_t, kAndT_f, kNotT_c, kAnd_t, kAnd_f, kOr_t, kOr_f, kNot_b, kTest_b, kBin_c, kBin2_c, kUn_c, kChain_t, kChain_f, kCh1_c, kCh2_c, kRet_d, kRet_n, kRetN_n, kSome_i, kSlot_d, kDc_c, kDc2_c, kLst_c, kLen_c, kTup_c, kCB_c, kIsa_c, kSl1_c, kSl2_c, kSl3_c, kRtO_c, kOm_c, kOm2_c, kOm3_c, kSo_c, kSo2_c, kSo3_c, kOi_c, kOi2_c, kSeq_c, kEnum_c, kEnum2_c, kZip_c, kZip2_c, kZip3_c, kZip4_c, kRg1_c, kRg2_c, kRg2b_c, kRgD_c, kRgDb_c, kCall_c, kCallN_c, kAc_c, kAc2_c, kBag_b, kComp_c, kRev_c, kGc_c, kFl_c, compT_c, kCt_c, kCt2_t, kCt2_f, fnS_c, ssSeq_c, ssRet_c, ssRetF_c, ssRetOwn_c, ssRetN_c, ssAsg_c, ssAsgF_c, ssPar_c, ssParF_c, ssIf_c, ssExpr_c, ssNil_c, ssPass_c, ssBreak_c, ssCont_c, ssFor_c, ssFreeze_c, ssOwnM_c, sVar_c, sC_c, sBin_c, sUn_c, sTest_c, sNotT_c, sAndT_c, sOrT_c, sBorT_c, sAndV_c, sOrV_c, sNotV_c, sIf_c, sChain_c, stYes_c, sdNil_c, sdCons_c, sLst_c, sLen_c, sTup_c, sCallB_c, sCallL_c, sIsa_c, sSlice_c, soNone_c, soSome_c, sgName_c, sgOwn_c, sOwnIx_c, siSeq_c, siEnum_c, siZip_c, siRange1_c, siRange2_c, siRangeD_c, slR1_c, slR2_c, sCall_c, sCallN_c, saNil_c, saCons_c, saBag_c, sComp_c, sRevL_c, sgTup_t, sgCons_c, sgNil_n, freezeSl, setUn, Slot.inner, List.map_cons, List.map_nil, List.replicate, List.cons_append, List.nil_append, List.append_nil, List.getElem?_cons_zero, List.getElem?_cons_succ, List.set_cons_zero, List.set_cons_succ, List.length_cons, List.length_nil, and_assoc, Option.some.injEq, PyData.list.injEq, PyData.tuple.injEq, toL_n, Nat.sub_self, Nat.zero_add, Nat.reduceAdd, Nat.reduceSub, true_and, and_true, addD_ii, subD_ii, ltD_ii, leD_ii, gtD_ii, geD_ii, negD_i, mulD_i, fdivD_i, modD_i, itemsD_l, itemsD_t, tupleB_l, tupleB_t, listB_l, listB_t, lenB_l, lenB_t, intB_i, intB_b, fold2_i, appendM_1, ixN_len, reduceCtorEq, reduceIte, Bool.and_self, Bool.true_and, Bool.false_and, Bool.and_true, Bool.and_false, Bool.not_true, Bool.not_false, PyData.isTuple, PyData.isInt, PyData.isBool, PyData.isList, PyData.isStr, isBLT]
      exact lp_fits xs (c + 1) (f + x) _ _ (by omega) h1 h2
theorem sp_fits {d : D} {rs : List Int} {r : Int} {m F R} (hd : d = tI rs ∨ d = lI rs) (hl : rs.length ≤ 100) (h : R (.dat (.bool (fitsB rs r))) m) : m__law_fits [.dat d, .dat (.int r)] m F R := by
  have e1 : sortB [d] = some ((sortI rs).map .int) := by
    rcases hd with rfl | rfl
    · exact sortB_tI rs
    · exact sortB_lI rs
  have e2 : lenB [d] = some (.int rs.length) := by
    rcases hd with rfl | rfl
    · exact congrArg (fun n : Nat => some (PyData.int n)) (List.length_map ..)
    · exact congrArg (fun n : Nat => some (PyData.int n)) (List.length_map ..)
  have e3 : (sortI rs).length = rs.length := (sortI_perm rs).length_eq
  simp -implicitDefEqProofs (disch := ((try simp only [List.length_map, List.length_append, List.length_cons, List.length_nil, List.length_take, List.length_drop, List.length_set, List.length_replicate, List.length_range, List.length_zipIdx, List.length_zip]); omega)) only [kVal_s, hold_c, kNx_c, kRt_c, kRtN_c, kAsg_c, kAsgF_c, kPar_c, kParF_c, kParF2_c, kExp_c, kFor_c, kIf_t, kIf_f, kIfV_t, kIfV_f, kOrT_t, kOrT_f, kAndT_t, kAndT_f, kNotT_c, kAnd_t, kAnd_f, kOr_t, kOr_f, kNot_b, kTest_b, kBin_c, kBin2_c, kUn_c, kChain_t, kChain_f, kCh1_c, kCh2_c, kRet_d, kRet_n, kRetN_n, kSome_i, kSlot_d, kDc_c, kDc2_c, kLst_c, kLen_c, kTup_c, kCB_c, kIsa_c, kSl1_c, kSl2_c, kSl3_c, kRtO_c, kOm_c, kOm2_c, kOm3_c, kSo_c, kSo2_c, kSo3_c, kOi_c, kOi2_c, kSeq_c, kEnum_c, kEnum2_c, kZip_c, kZip2_c, kZip3_c, kZip4_c, kRg1_c, kRg2_c, kRg2b_c, kRgD_c, kRgDb_c, kCall_c, kCallN_c, kAc_c, kAc2_c, kBag_b, kComp_c, kRev_c, kGc_c, kFl_c, compT_c, kCt_c, kCt2_t, kCt2_f, fnS_c, ssSeq_c, ssRet_c, ssRetF_c, ssRetOwn_c, ssRetN_c, ssAsg_c, ssAsgF_c, ssPar_c, ssParF_c, ssIf_c, ssExpr_c, ssNil_c, ssPass_c, ssBreak_c, ssCont_c, ssFor_c, ssFreeze_c, ssOwnM_c, sVar_c, sC_c, sBin_c, sUn_c, sTest_c, sNotT_c, sAndT_c, sOrT_c, sBorT_c, sAndV_c, sOrV_c, sNotV_c, sIf_c, sChain_c, stYes_c, sdNil_c, sdCons_c, sLst_c, sLen_c, sTup_c, sCallB_c, sCallL_c, sIsa_c, sSlice_c, soNone_c, soSome_c, sgName_c, sgOwn_c, sOwnIx_c, siSeq_c, siEnum_c, siZip_c, siRange1_c, siRange2_c, siRangeD_c, slR1_c, slR2_c, sCall_c, sCallN_c, saNil_c, saCons_c, saBag_c, sComp_c, sRevL_c, sgTup_t, sgCons_c, sgNil_n, freezeSl, setUn, Slot.inner, List.map_cons, List.map_nil, List.replicate, List.cons_append, List.nil_append, List.append_nil, List.getElem?_cons_zero, List.getElem?_cons_succ, List.set_cons_zero, List.set_cons_succ, List.length_cons, List.length_nil, and_assoc, Option.some.injEq, PyData.list.injEq, PyData.tuple.injEq, toL_n, Nat.sub_self, Nat.zero_add, Nat.reduceAdd, Nat.reduceSub, true_and, and_true, addD_ii, subD_ii, ltD_ii, leD_ii, gtD_ii, geD_ii, negD_i, mulD_i, fdivD_i, modD_i, itemsD_l, itemsD_t, tupleB_l, tupleB_t, listB_l, listB_t, lenB_l, lenB_t, intB_i, intB_b, fold2_i, appendM_1, ixN_len, reduceCtorEq, reduceIte, Bool.and_self, Bool.true_and, Bool.false_and, Bool.and_true, Bool.and_false, Bool.not_true, Bool.not_false, PyData.isTuple, PyData.isInt, PyData.isBool, PyData.isList, PyData.isStr, isBLT, m__law_fits, b__law_fits, e1]
  refine lp_fits (sortI rs) 0 0 _ _ (by omega) (fun hn => ?_) fun g hg x3 x4 => ?_
  · unfold fitsB at h
    rw [hn] at h
    exact h
  · simp -implicitDefEqProofs (disch := ((try simp only [List.length_map, List.length_append, List.length_cons, List.length_nil, List.length_take, List.length_drop, List.length_set, List.length_replicate, List.length_range, List.length_zipIdx, List.length_zip]); omega)) only [kVal_s, hold_c, kNx_c, kRt_c, kRtN_c, kAsg_c, kAsgF_c, kPar_c, kParF_c, kParF2_c, kExp_c, kFor_c, kIf_t, kIf_f, kIfV_t, kIfV_f, kOrT_t, kOrT_f, kAndT_t, kAndT_f, kNotT_c, kAnd_t, kAnd_f, kOr_t, kOr_f, kNot_b, kTest_b, kBin_c, kBin2_c, kUn_c, kChain_t, kChain_f, kCh1_c, kCh2_c, kRet_d, kRet_n, kRetN_n, kSome_i, kSlot_d, kDc_c, kDc2_c, kLst_c, kLen_c, kTup_c, kCB_c, kIsa_c, kSl1_c, kSl2_c, kSl3_c, kRtO_c, kOm_c, kOm2_c, kOm3_c, kSo_c, kSo2_c, kSo3_c, kOi_c, kOi2_c, kSeq_c, kEnum_c, kEnum2_c, kZip_c, kZip2_c, kZip3_c, kZip4_c, kRg1_c, kRg2_c, kRg2b_c, kRgD_c, kRgDb_c, kCall_c, kCallN_c, kAc_c, kAc2_c, kBag_b, kComp_c, kRev_c, kGc_c, kFl_c, compT_c, kCt_c, kCt2_t, kCt2_f, fnS_c, ssSeq_c, ssRet_c, ssRetF_c, ssRetOwn_c, ssRetN_c, ssAsg_c, ssAsgF_c, ssPar_c, ssParF_c, ssIf_c, ssExpr_c, ssNil_c, ssPass_c, ssBreak_c, ssCont_c, ssFor_c, ssFreeze_c, ssOwnM_c, sVar_c, sC_c, sBin_c, sUn_c, sTest_c, sNotT_c, sAndT_c, sOrT_c, sBorT_c, sAndV_c, sOrV_c, sNotV_c, sIf_c, sChain_c, stYes_c, sdNil_c, sdCons_c, sLst_c, sLen_c, sTup_c, sCallB_c, sCallL_c, sIsa_c, sSlice_c, soNone_c, soSome_c, sgName_c, sgOwn_c, sOwnIx_c, siSeq_c, siEnum_c, siZip_c, siRange1_c, siRange2_c, siRangeD_c, slR1_c, slR2_c, sCall_c, sCallN_c, saNil_c, saCons_c, saBag_c, sComp_c, sRevL_c, sgTup_t, sgCons_c, sgNil_n, freezeSl, setUn, Slot.inner, List.map_cons, List.map_nil, List.replicate, List.cons_append, List.nil_append, List.append_nil, List.getElem?_cons_zero, List.getElem?_cons_succ, List.set_cons_zero, List.set_cons_succ, List.length_cons, List.length_nil, and_assoc, Option.some.injEq, PyData.list.injEq, PyData.tuple.injEq, toL_n, Nat.sub_self, Nat.zero_add, Nat.reduceAdd, Nat.reduceSub, true_and, and_true, addD_ii, subD_ii, ltD_ii, leD_ii, gtD_ii, geD_ii, negD_i, mulD_i, fdivD_i, modD_i, itemsD_l, itemsD_t, tupleB_l, tupleB_t, listB_l, listB_t, lenB_l, lenB_t, intB_i, intB_b, fold2_i, appendM_1, ixN_len, reduceCtorEq, reduceIte, Bool.and_self, Bool.true_and, Bool.false_and, Bool.and_true, Bool.and_false, Bool.not_true, Bool.not_false, PyData.isTuple, PyData.isInt, PyData.isBool, PyData.isList, PyData.isStr, isBLT, e2, eqD_i]
    unfold fitsB at h
    rw [hg] at h
    exact h
end PT
set_option maxHeartbeats 1000000
namespace PT
/-! fits is balanced; sums of races are balanced -/
theorem sorted_eq : ∀ {a b : List Int}, a.Perm b → a.Pairwise (· ≤ ·) → b.Pairwise (· ≤ ·) → a = b
  | [], b, h, _, _ => (List.nil_perm.mp h).symm
  | x :: a, [], h, _, _ => by simp at h
  | x :: a, y :: b, h, ha, hb => by
    have h1 := List.pairwise_cons.mp ha
    have h2 := List.pairwise_cons.mp hb
    have e : x = y := by
      have hx : x ∈ y :: b := h.mem_iff.mp (List.mem_cons_self ..)
      have hy : y ∈ x :: a := h.mem_iff.mpr (List.mem_cons_self ..)
      rcases List.mem_cons.mp hx with z | z
      · exact z
      · rcases List.mem_cons.mp hy with w | w
        · exact w.symm
        · have := h1.1 y w
          have := h2.1 x z
          omega
    subst e
    rw [sorted_eq (List.perm_cons x |>.mp h) h1.2 h2.2]
theorem ord_fst (rs : List Int) : (ordP rs).map (·.1) = sortI rs := by
  refine sorted_eq ?_ ?_ (sortI_sorted rs)
  · have := (sortP_perm (numbered rs)).map (·.1)
    rw [num_fst] at this
    exact this.trans (sortI_perm rs).symm
  · rw [List.pairwise_map]
    exact (sortP_sorted _).imp fun h => by omega
theorem fits_short (r : Int) (ord : List (Int × Int)) : ∀ (ps : List (Int × Int)) (c : Nat) (f : Int), fitsGo r (ps.map (·.1)) c f = if (shortGo r ord ps c f).isNone then some (f + (ps.map (·.1)).sum) else none
  | [], c, f => by simp [fitsGo, shortGo]
  | p :: ps, c, f => by
    rw [List.map_cons]
    unfold fitsGo shortGo
    have e : r * ((c : Int) + 1) * ((c : Int) + 1 + 1) = r * ((c : Int) + 1) * ((c : Int) + 2) := by rw [Int.add_assoc (c : Int) 1 1]; rfl
    rw [e]
    by_cases h : f + p.1 < r * ((c : Int) + 1) * ((c : Int) + 2) / 2
    · rw [if_pos h, if_pos h]
      rfl
    · rw [if_neg h, if_neg h, fits_short r ord ps (c + 1) (f + p.1)]
      split
      · rw [List.sum_cons, Int.add_assoc]
      · rfl
theorem fits_bal (rs : List Int) (r : Int) : fitsB rs r = balB rs r := by
  unfold fitsB balB
  rw [← ord_fst, fits_short r (ordP rs)]
  rw [show shortGo r (ordP rs) (ordP rs) 0 0 = shortSet rs r from rfl]
  have hs : ((ordP rs).map (·.1)).sum = rs.sum := by rw [ord_fst]; exact perm_sum (sortI_perm rs)
  cases e : (shortSet rs r).isNone with
  | true =>
    rw [if_pos rfl, Int.zero_add, hs, Bool.and_true]
  | false =>
    rw [if_neg Bool.false_ne_true, Bool.and_false]
/-- balanced in words -/
def Bal (rs : List Int) (r : Int) : Prop := rs.sum = due r rs.length ∧ ∀ c, Inc rs.length c → due r c.length ≤ tot rs c
theorem bal_iff (rs : List Int) (r : Int) : balB rs r = true ↔ Bal rs r := by
  unfold balB
  rw [Bool.and_eq_true, decide_eq_true_eq]
  refine and_congr Iff.rfl ⟨fun h c hc => ?_, fun h => ?_⟩
  · have := shortSet_none (Option.isNone_iff_eq_none.mp h) hc
    omega
  · cases e : shortSet rs r with
    | none => rfl
    | some xs =>
      obtain ⟨h1, h2⟩ := shortSet_some e
      have := h xs h1
      omega
/-! sums of races -/
theorem places_sum : ∀ n : Nat, 2 * (places n).sum = (n : Int) * ((n : Int) + 1)
  | 0 => rfl
  | n + 1 => by
    rw [places_succ, List.sum_append, Int.mul_add, places_sum n]
    simp only [List.sum_cons, List.sum_nil, Int.natCast_add, Int.natCast_one]
    have : ((n : Int) + 1) * ((n : Int) + 1 + 1) = (n : Int) * ((n : Int) + 1) + 2 * ((n : Int) + 1) := by
      rw [Int.mul_comm, Int.add_assoc, Int.add_mul]
      rfl
    omega
theorem places_take : ∀ (n k : Nat), k ≤ n → (places n).take k = places k := by
  intro n k h
  unfold places
  rw [← List.map_take, List.take_range, Nat.min_eq_left h]
theorem places_sorted (n : Nat) : (places n).Pairwise (· ≤ ·) := by
  unfold places
  rw [List.pairwise_map]
  exact List.pairwise_lt_range.imp fun h => by omega
theorem race_tot {n : Nat} {r : List Int} (h : IsRace n r) {c : List Int} (hc : Inc n c) : (c.length : Int) * ((c.length : Int) + 1) ≤ 2 * tot r c := by
  have hl : r.length = n := (race_bnd h).1
  have hs := inc_sub r 0 c hc.1 (fun i hi => by have := hc.2 i hi; omega)
  have e0 : (c.map fun (i : Int) => r.getD (i - ((0 : Nat) : Int)).toNat 0) = c.map fun (i : Int) => r.getD i.toNat 0 := by
    refine List.map_congr_left fun i _ => by rw [show i - ((0 : Nat) : Int) = i by omega]
  rw [e0] at hs
  have hle := least_sum hs h (places_sorted n)
  have hcl := hs.length_le
  rw [List.length_map, hl] at hcl
  rw [List.length_map, places_take n _ hcl] at hle
  have := places_sum c.length
  unfold tot
  omega
theorem addV_getD {f r : List Int} (h : r.length = f.length) (i : Nat) : (addV f r).getD i 0 = f.getD i 0 + r.getD i 0 := by
  unfold addV
  rw [List.getD_eq_getElem?_getD, List.getD_eq_getElem?_getD, List.getD_eq_getElem?_getD, List.getElem?_zipWith]
  by_cases hi : i < f.length
  · rw [List.getElem?_eq_getElem hi, List.getElem?_eq_getElem (show i < r.length by omega)]
    rfl
  · rw [List.getElem?_eq_none (by omega), List.getElem?_eq_none (show r.length ≤ i by omega)]
    rfl
theorem tot_add {f r : List Int} (h : r.length = f.length) : ∀ c : List Int, tot (addV f r) c = tot f c + tot r c
  | [] => rfl
  | i :: c => by
    have := tot_add h c
    unfold tot at this ⊢
    rw [List.map_cons, List.map_cons, List.map_cons, List.sum_cons, List.sum_cons, List.sum_cons, this, addV_getD h]
    omega
theorem sum_add : ∀ {f r : List Int}, r.length = f.length → (addV f r).sum = f.sum + r.sum
  | [], [], _ => rfl
  | [], _ :: _, h => by simp at h
  | _ :: _, [], h => by simp at h
  | x :: f, y :: r, h => by
    have := sum_add (f := f) (r := r) (by simpa using h)
    unfold addV at this ⊢
    rw [List.zipWith_cons_cons, List.sum_cons, List.sum_cons, List.sum_cons, this]
    omega
end PT
set_option maxHeartbeats 1000000
namespace PT
open PySem PySem.Spec PyProof.Rows L2 DL
theorem rep_getD (n i : Nat) : (List.replicate n (0 : Int)).getD i 0 = 0 := by
  rw [List.getD_eq_getElem?_getD, List.getElem?_replicate]
  split <;> rfl
theorem tot_rep (n : Nat) : ∀ c : List Int, tot (List.replicate n 0) c = 0
  | [] => rfl
  | i :: c => by
    have := tot_rep n c
    unfold tot at this ⊢
    rw [List.map_cons, List.sum_cons, this, rep_getD]
    rfl
theorem col_tot {n : Nat} {c : List Int} (hc : Inc n c) : ∀ (rs : List (List Int)) (f : List Int), f.length = n → (∀ r ∈ rs, IsRace n r) → 2 * tot f c + (rs.length : Int) * ((c.length : Int) * ((c.length : Int) + 1)) ≤ 2 * tot (rs.foldl addV f) c
  | [], f, _, _ => by simp
  | r :: rs, f, hf, hr => by
    have h1 := hr r (List.mem_cons_self ..)
    have hl : r.length = f.length := by rw [hf]; exact (race_bnd h1).1
    have ih := col_tot hc rs (addV f r) (by rw [addV_len hl]; exact hf) fun r' h' => hr r' (List.mem_cons_of_mem _ h')
    rw [tot_add hl] at ih
    have := race_tot h1 hc
    rw [List.foldl_cons, List.length_cons, Int.natCast_add, Int.add_mul]
    rw [show ((1 : Nat) : Int) * ((c.length : Int) * ((c.length : Int) + 1)) = (c.length : Int) * ((c.length : Int) + 1) from Int.one_mul _]
    omega
theorem col_sum {n : Nat} : ∀ (rs : List (List Int)) (f : List Int), f.length = n → (∀ r ∈ rs, IsRace n r) → 2 * f.sum + (rs.length : Int) * ((n : Int) * ((n : Int) + 1)) = 2 * (rs.foldl addV f).sum
  | [], f, _, _ => by simp
  | r :: rs, f, hf, hr => by
    have h1 := hr r (List.mem_cons_self ..)
    have hl : r.length = f.length := by rw [hf]; exact (race_bnd h1).1
    have ih := col_sum rs (addV f r) (by rw [addV_len hl]; exact hf) fun r' h' => hr r' (List.mem_cons_of_mem _ h')
    rw [sum_add hl] at ih
    have h2 := places_sum n
    have h3 := perm_sum h1
    rw [List.foldl_cons, List.length_cons, Int.natCast_add, Int.add_mul]
    rw [show ((1 : Nat) : Int) * ((n : Int) * ((n : Int) + 1)) = (n : Int) * ((n : Int) + 1) from Int.one_mul _]
    omega
theorem col_len {n : Nat} : ∀ (rs : List (List Int)) (f : List Int), f.length = n → (∀ r ∈ rs, IsRace n r) → (rs.foldl addV f).length = n
  | [], f, hf, _ => hf
  | r :: rs, f, hf, hr => by
    have hl : r.length = f.length := by rw [hf]; exact (race_bnd (hr r (List.mem_cons_self ..))).1
    exact col_len rs (addV f r) (by rw [addV_len hl]; exact hf) fun r' h' => hr r' (List.mem_cons_of_mem _ h')
theorem col_bal {n : Nat} {rs : List (List Int)} (hr : ∀ r ∈ rs, IsRace n r) : Bal (colSum n rs) rs.length := by
  have hl : (colSum n rs).length = n := col_len rs _ List.length_replicate hr
  refine ⟨?_, fun c hc => ?_⟩
  · have := col_sum rs (List.replicate n 0) List.length_replicate hr
    rw [hl]
    unfold due colSum
    rw [Int.mul_assoc]
    rw [show (List.replicate n (0 : Int)).sum = 0 by simp] at this
    omega
  · rw [hl] at hc
    have := col_tot hc rs (List.replicate n 0) List.length_replicate hr
    rw [tot_rep] at this
    unfold due colSum
    rw [Int.mul_assoc]
    omega
end PT
set_option maxHeartbeats 1000000
namespace PT
open PySem PySem.Spec PyProof.Rows L2 DL
theorem sp_occursN {rs : List Int} {r : Int} {m F R} (hl : rs.length ≤ 100) (hr : (rs.length : Int) - 1 ≤ r) (h : R (.dat (.bool (balB rs r))) m) : m_occursN [.dat (tI rs), .dat (.int r)] m F R := by
  simp -implicitDefEqProofs (disch := ((try simp only [List.length_map, List.length_append, List.length_cons, List.length_nil, List.length_take, List.length_drop, List.length_set, List.length_replicate, List.length_range, List.length_zipIdx, List.length_zip]); omega)) only [kVal_s, hold_c, kNx_c, kRt_c, kRtN_c, kAsg_c, kAsgF_c, kPar_c, kParF_c, kParF2_c, kExp_c, kFor_c, kIf_t, kIf_f, kIfV_t, kIfV_f, kOrT_t, kOrT_f, kAndT_t, kAndT_f, kNotT_c, kAnd_t, kAnd_f, kOr_t, kOr_f, kNot_b, kTest_b, kBin_c, kBin2_c, kUn_c, kChain_t, kChain_f, kCh1_c, kCh2_c, kRet_d, kRet_n, kRetN_n, kSome_i, kSlot_d, kDc_c, kDc2_c, kLst_c, kLen_c, kTup_c, kCB_c, kIsa_c, kSl1_c, kSl2_c, kSl3_c, kRtO_c, kOm_c, kOm2_c, kOm3_c, kSo_c, kSo2_c, kSo3_c, kOi_c, kOi2_c, kSeq_c, kEnum_c, kEnum2_c, kZip_c, kZip2_c, kZip3_c, kZip4_c, kRg1_c, kRg2_c, kRg2b_c, kRgD_c, kRgDb_c, kCall_c, kCallN_c, kAc_c, kAc2_c, kBag_b, kComp_c, kRev_c, kGc_c, kFl_c, compT_c, kCt_c, kCt2_t, kCt2_f, fnS_c, ssSeq_c, ssRet_c, ssRetF_c, ssRetOwn_c, ssRetN_c, ssAsg_c, ssAsgF_c, ssPar_c, ssParF_c, ssIf_c, ssExpr_c, ssNil_c, ssPass_c, ssBreak_c, ssCont_c, ssFor_c, ssFreeze_c, ssOwnM_c, sVar_c, sC_c, sBin_c, sUn_c, sTest_c, sNotT_c, sAndT_c, sOrT_c, sBorT_c, sAndV_c, sOrV_c, sNotV_c, sIf_c, sChain_c, stYes_c, sdNil_c, sdCons_c, sLst_c, sLen_c, sTup_c, sCallB_c, sCallL_c, sIsa_c, sSlice_c, soNone_c, soSome_c, sgName_c, sgOwn_c, sOwnIx_c, siSeq_c, siEnum_c, siZip_c, siRange1_c, siRange2_c, siRangeD_c, slR1_c, slR2_c, sCall_c, sCallN_c, saNil_c, saCons_c, saBag_c, sComp_c, sRevL_c, sgTup_t, sgCons_c, sgNil_n, freezeSl, setUn, Slot.inner, List.map_cons, List.map_nil, List.replicate, List.cons_append, List.nil_append, List.append_nil, List.getElem?_cons_zero, List.getElem?_cons_succ, List.set_cons_zero, List.set_cons_succ, List.length_cons, List.length_nil, and_assoc, Option.some.injEq, PyData.list.injEq, PyData.tuple.injEq, toL_n, Nat.sub_self, Nat.zero_add, Nat.reduceAdd, Nat.reduceSub, true_and, and_true, addD_ii, subD_ii, ltD_ii, leD_ii, gtD_ii, geD_ii, negD_i, mulD_i, fdivD_i, modD_i, itemsD_l, itemsD_t, tupleB_l, tupleB_t, listB_l, listB_t, lenB_l, lenB_t, intB_i, intB_b, fold2_i, appendM_1, ixN_len, reduceCtorEq, reduceIte, Bool.and_self, Bool.true_and, Bool.false_and, Bool.and_true, Bool.and_false, Bool.not_true, Bool.not_false, PyData.isTuple, PyData.isInt, PyData.isBool, PyData.isList, PyData.isStr, isBLT, m_occursN, b_occursN]
  refine sp_balanced hl ?_
  cases e : balB rs r with
  | false =>
    rw [e] at h
    simp -implicitDefEqProofs (disch := ((try simp only [List.length_map, List.length_append, List.length_cons, List.length_nil, List.length_take, List.length_drop, List.length_set, List.length_replicate, List.length_range, List.length_zipIdx, List.length_zip]); omega)) only [kVal_s, hold_c, kNx_c, kRt_c, kRtN_c, kAsg_c, kAsgF_c, kPar_c, kParF_c, kParF2_c, kExp_c, kFor_c, kIf_t, kIf_f, kIfV_t, kIfV_f, kOrT_t, kOrT_f, kAndT_t, kAndT_f, kNotT_c, kAnd_t, kAnd_f, kOr_t, kOr_f, kNot_b, kTest_b, kBin_c, kBin2_c, kUn_c, kChain_t, kChain_f, kCh1_c, kCh2_c, kRet_d, kRet_n, kRetN_n, kSome_i, kSlot_d, kDc_c, kDc2_c, kLst_c, kLen_c, kTup_c, kCB_c, kIsa_c, kSl1_c, kSl2_c, kSl3_c, kRtO_c, kOm_c, kOm2_c, kOm3_c, kSo_c, kSo2_c, kSo3_c, kOi_c, kOi2_c, kSeq_c, kEnum_c, kEnum2_c, kZip_c, kZip2_c, kZip3_c, kZip4_c, kRg1_c, kRg2_c, kRg2b_c, kRgD_c, kRgDb_c, kCall_c, kCallN_c, kAc_c, kAc2_c, kBag_b, kComp_c, kRev_c, kGc_c, kFl_c, compT_c, kCt_c, kCt2_t, kCt2_f, fnS_c, ssSeq_c, ssRet_c, ssRetF_c, ssRetOwn_c, ssRetN_c, ssAsg_c, ssAsgF_c, ssPar_c, ssParF_c, ssIf_c, ssExpr_c, ssNil_c, ssPass_c, ssBreak_c, ssCont_c, ssFor_c, ssFreeze_c, ssOwnM_c, sVar_c, sC_c, sBin_c, sUn_c, sTest_c, sNotT_c, sAndT_c, sOrT_c, sBorT_c, sAndV_c, sOrV_c, sNotV_c, sIf_c, sChain_c, stYes_c, sdNil_c, sdCons_c, sLst_c, sLen_c, sTup_c, sCallB_c, sCallL_c, sIsa_c, sSlice_c, soNone_c, soSome_c, sgName_c, sgOwn_c, sOwnIx_c, siSeq_c, siEnum_c, siZip_c, siRange1_c, siRange2_c, siRangeD_c, slR1_c, slR2_c, sCall_c, sCallN_c, saNil_c, saCons_c, saBag_c, sComp_c, sRevL_c, sgTup_t, sgCons_c, sgNil_n, freezeSl, setUn, Slot.inner, List.map_cons, List.map_nil, List.replicate, List.cons_append, List.nil_append, List.append_nil, List.getElem?_cons_zero, List.getElem?_cons_succ, List.set_cons_zero, List.set_cons_succ, List.length_cons, List.length_nil, and_assoc, Option.some.injEq, PyData.list.injEq, PyData.tuple.injEq, toL_n, Nat.sub_self, Nat.zero_add, Nat.reduceAdd, Nat.reduceSub, true_and, and_true, addD_ii, subD_ii, ltD_ii, leD_ii, gtD_ii, geD_ii, negD_i, mulD_i, fdivD_i, modD_i, itemsD_l, itemsD_t, tupleB_l, tupleB_t, listB_l, listB_t, lenB_l, lenB_t, intB_i, intB_b, fold2_i, appendM_1, ixN_len, reduceCtorEq, reduceIte, Bool.and_self, Bool.true_and, Bool.false_and, Bool.and_true, Bool.and_false, Bool.not_true, Bool.not_false, PyData.isTuple, PyData.isInt, PyData.isBool, PyData.isList, PyData.isStr, isBLT]
    exact h
  | true =>
    rw [e] at h
    simp -implicitDefEqProofs (disch := ((try simp only [List.length_map, List.length_append, List.length_cons, List.length_nil, List.length_take, List.length_drop, List.length_set, List.length_replicate, List.length_range, List.length_zipIdx, List.length_zip]); omega)) only [kVal_s, hold_c, kNx_c, kRt_c, kRtN_c, kAsg_c, kAsgF_c, kPar_c, kParF_c, kParF2_c, kExp_c, kFor_c, kIf_t, kIf_f, kIfV_t, kIfV_f, kOrT_t, kOrT_f, kAndT_t, kAndT_f, kNotT_c, kAnd_t, kAnd_f, kOr_t, kOr_f, kNot_b, kTest_b, kBin_c, kBin2_c, kUn_c, kChain_t, kChain_f, kCh1_c, kCh2_c, kRet_d, kRet_n, kRetN_n, kSome_i, kSlot_d, kDc_c, kDc2_c, kLst_c, kLen_c, kTup_c, kCB_c, kIsa_c, kSl1_c, kSl2_c, kSl3_c, kRtO_c, kOm_c, kOm2_c, kOm3_c, kSo_c, kSo2_c, kSo3_c, kOi_c, kOi2_c, kSeq_c, kEnum_c, kEnum2_c, kZip_c, kZip2_c, kZip3_c, kZip4_c, kRg1_c, kRg2_c, kRg2b_c, kRgD_c, kRgDb_c, kCall_c, kCallN_c, kAc_c, kAc2_c, kBag_b, kComp_c, kRev_c, kGc_c, kFl_c, compT_c, kCt_c, kCt2_t, kCt2_f, fnS_c, ssSeq_c, ssRet_c, ssRetF_c, ssRetOwn_c, ssRetN_c, ssAsg_c, ssAsgF_c, ssPar_c, ssParF_c, ssIf_c, ssExpr_c, ssNil_c, ssPass_c, ssBreak_c, ssCont_c, ssFor_c, ssFreeze_c, ssOwnM_c, sVar_c, sC_c, sBin_c, sUn_c, sTest_c, sNotT_c, sAndT_c, sOrT_c, sBorT_c, sAndV_c, sOrV_c, sNotV_c, sIf_c, sChain_c, stYes_c, sdNil_c, sdCons_c, sLst_c, sLen_c, sTup_c, sCallB_c, sCallL_c, sIsa_c, sSlice_c, soNone_c, soSome_c, sgName_c, sgOwn_c, sOwnIx_c, siSeq_c, siEnum_c, siZip_c, siRange1_c, siRange2_c, siRangeD_c, slR1_c, slR2_c, sCall_c, sCallN_c, saNil_c, saCons_c, saBag_c, sComp_c, sRevL_c, sgTup_t, sgCons_c, sgNil_n, freezeSl, setUn, Slot.inner, List.map_cons, List.map_nil, List.replicate, List.cons_append, List.nil_append, List.append_nil, List.getElem?_cons_zero, List.getElem?_cons_succ, List.set_cons_zero, List.set_cons_succ, List.length_cons, List.length_nil, and_assoc, Option.some.injEq, PyData.list.injEq, PyData.tuple.injEq, toL_n, Nat.sub_self, Nat.zero_add, Nat.reduceAdd, Nat.reduceSub, true_and, and_true, addD_ii, subD_ii, ltD_ii, leD_ii, gtD_ii, geD_ii, negD_i, mulD_i, fdivD_i, modD_i, itemsD_l, itemsD_t, tupleB_l, tupleB_t, listB_l, listB_t, lenB_l, lenB_t, intB_i, intB_b, fold2_i, appendM_1, ixN_len, reduceCtorEq, reduceIte, Bool.and_self, Bool.true_and, Bool.false_and, Bool.and_true, Bool.and_false, Bool.not_true, Bool.not_false, PyData.isTuple, PyData.isInt, PyData.isBool, PyData.isList, PyData.isStr, isBLT, tI, List.length_map]
    rw [decide_eq_true (show (rs.length : Int) - 1 ≤ r from hr)]
    simp -implicitDefEqProofs (disch := ((try simp only [List.length_map, List.length_append, List.length_cons, List.length_nil, List.length_take, List.length_drop, List.length_set, List.length_replicate, List.length_range, List.length_zipIdx, List.length_zip]); omega)) only [kVal_s, hold_c, kNx_c, kRt_c, kRtN_c, kAsg_c, kAsgF_c, kPar_c, kParF_c, kParF2_c, kExp_c, kFor_c, kIf_t, kIf_f, kIfV_t, kIfV_f, kOrT_t, kOrT_f, kAndT_t, kAndT_f, kNotT_c, kAnd_t, kAnd_f, kOr_t, kOr_f, kNot_b, kTest_b, kBin_c, kBin2_c, kUn_c, kChain_t, kChain_f, kCh1_c, kCh2_c, kRet_d, kRet_n, kRetN_n, kSome_i, kSlot_d, kDc_c, kDc2_c, kLst_c, kLen_c, kTup_c, kCB_c, kIsa_c, kSl1_c, kSl2_c, kSl3_c, kRtO_c, kOm_c, kOm2_c, kOm3_c, kSo_c, kSo2_c, kSo3_c, kOi_c, kOi2_c, kSeq_c, kEnum_c, kEnum2_c, kZip_c, kZip2_c, kZip3_c, kZip4_c, kRg1_c, kRg2_c, kRg2b_c, kRgD_c, kRgDb_c, kCall_c, kCallN_c, kAc_c, kAc2_c, kBag_b, kComp_c, kRev_c, kGc_c, kFl_c, compT_c, kCt_c, kCt2_t, kCt2_f, fnS_c, ssSeq_c, ssRet_c, ssRetF_c, ssRetOwn_c, ssRetN_c, ssAsg_c, ssAsgF_c, ssPar_c, ssParF_c, ssIf_c, ssExpr_c, ssNil_c, ssPass_c, ssBreak_c, ssCont_c, ssFor_c, ssFreeze_c, ssOwnM_c, sVar_c, sC_c, sBin_c, sUn_c, sTest_c, sNotT_c, sAndT_c, sOrT_c, sBorT_c, sAndV_c, sOrV_c, sNotV_c, sIf_c, sChain_c, stYes_c, sdNil_c, sdCons_c, sLst_c, sLen_c, sTup_c, sCallB_c, sCallL_c, sIsa_c, sSlice_c, soNone_c, soSome_c, sgName_c, sgOwn_c, sOwnIx_c, siSeq_c, siEnum_c, siZip_c, siRange1_c, siRange2_c, siRangeD_c, slR1_c, slR2_c, sCall_c, sCallN_c, saNil_c, saCons_c, saBag_c, sComp_c, sRevL_c, sgTup_t, sgCons_c, sgNil_n, freezeSl, setUn, Slot.inner, List.map_cons, List.map_nil, List.replicate, List.cons_append, List.nil_append, List.append_nil, List.getElem?_cons_zero, List.getElem?_cons_succ, List.set_cons_zero, List.set_cons_succ, List.length_cons, List.length_nil, and_assoc, Option.some.injEq, PyData.list.injEq, PyData.tuple.injEq, toL_n, Nat.sub_self, Nat.zero_add, Nat.reduceAdd, Nat.reduceSub, true_and, and_true, addD_ii, subD_ii, ltD_ii, leD_ii, gtD_ii, geD_ii, negD_i, mulD_i, fdivD_i, modD_i, itemsD_l, itemsD_t, tupleB_l, tupleB_t, listB_l, listB_t, lenB_l, lenB_t, intB_i, intB_b, fold2_i, appendM_1, ixN_len, reduceCtorEq, reduceIte, Bool.and_self, Bool.true_and, Bool.false_and, Bool.and_true, Bool.and_false, Bool.not_true, Bool.not_false, PyData.isTuple, PyData.isInt, PyData.isBool, PyData.isList, PyData.isStr, isBLT]
    exact h
theorem sp_check_boat {rs : List Int} {b : Int} {m F R} (hb : 0 ≤ b ∧ b < rs.length) (h : R (.dat .none) m) : m_check_boat [.dat (tI rs), .dat (.int b)] m F R := by
  simp -implicitDefEqProofs (disch := ((try simp only [List.length_map, List.length_append, List.length_cons, List.length_nil, List.length_take, List.length_drop, List.length_set, List.length_replicate, List.length_range, List.length_zipIdx, List.length_zip]); omega)) only [kVal_s, hold_c, kNx_c, kRt_c, kRtN_c, kAsg_c, kAsgF_c, kPar_c, kParF_c, kParF2_c, kExp_c, kFor_c, kIf_t, kIf_f, kIfV_t, kIfV_f, kOrT_t, kOrT_f, kAndT_t, kAndT_f, kNotT_c, kAnd_t, kAnd_f, kOr_t, kOr_f, kNot_b, kTest_b, kBin_c, kBin2_c, kUn_c, kChain_t, kChain_f, kCh1_c, kCh2_c, kRet_d, kRet_n, kRetN_n, kSome_i, kSlot_d, kDc_c, kDc2_c, kLst_c, kLen_c, kTup_c, kCB_c, kIsa_c, kSl1_c, kSl2_c, kSl3_c, kRtO_c, kOm_c, kOm2_c, kOm3_c, kSo_c, kSo2_c, kSo3_c, kOi_c, kOi2_c, kSeq_c, kEnum_c, kEnum2_c, kZip_c, kZip2_c, kZip3_c, kZip4_c, kRg1_c, kRg2_c, kRg2b_c, kRgD_c, kRgDb_c, kCall_c, kCallN_c, kAc_c, kAc2_c, kBag_b, kComp_c, kRev_c, kGc_c, kFl_c, compT_c, kCt_c, kCt2_t, kCt2_f, fnS_c, ssSeq_c, ssRet_c, ssRetF_c, ssRetOwn_c, ssRetN_c, ssAsg_c, ssAsgF_c, ssPar_c, ssParF_c, ssIf_c, ssExpr_c, ssNil_c, ssPass_c, ssBreak_c, ssCont_c, ssFor_c, ssFreeze_c, ssOwnM_c, sVar_c, sC_c, sBin_c, sUn_c, sTest_c, sNotT_c, sAndT_c, sOrT_c, sBorT_c, sAndV_c, sOrV_c, sNotV_c, sIf_c, sChain_c, stYes_c, sdNil_c, sdCons_c, sLst_c, sLen_c, sTup_c, sCallB_c, sCallL_c, sIsa_c, sSlice_c, soNone_c, soSome_c, sgName_c, sgOwn_c, sOwnIx_c, siSeq_c, siEnum_c, siZip_c, siRange1_c, siRange2_c, siRangeD_c, slR1_c, slR2_c, sCall_c, sCallN_c, saNil_c, saCons_c, saBag_c, sComp_c, sRevL_c, sgTup_t, sgCons_c, sgNil_n, freezeSl, setUn, Slot.inner, List.map_cons, List.map_nil, List.replicate, List.cons_append, List.nil_append, List.append_nil, List.getElem?_cons_zero, List.getElem?_cons_succ, List.set_cons_zero, List.set_cons_succ, List.length_cons, List.length_nil, and_assoc, Option.some.injEq, PyData.list.injEq, PyData.tuple.injEq, toL_n, Nat.sub_self, Nat.zero_add, Nat.reduceAdd, Nat.reduceSub, true_and, and_true, addD_ii, subD_ii, ltD_ii, leD_ii, gtD_ii, geD_ii, negD_i, mulD_i, fdivD_i, modD_i, itemsD_l, itemsD_t, tupleB_l, tupleB_t, listB_l, listB_t, lenB_l, lenB_t, intB_i, intB_b, fold2_i, appendM_1, ixN_len, reduceCtorEq, reduceIte, Bool.and_self, Bool.true_and, Bool.false_and, Bool.and_true, Bool.and_false, Bool.not_true, Bool.not_false, PyData.isTuple, PyData.isInt, PyData.isBool, PyData.isList, PyData.isStr, isBLT, m_check_boat, b_check_boat, tI, List.length_map]
  refine sp_in_range ?_
  rw [show inR (.int b) 0 ((rs.length : Int) - 1) = true by unfold inR; simp; omega]
  simp -implicitDefEqProofs (disch := ((try simp only [List.length_map, List.length_append, List.length_cons, List.length_nil, List.length_take, List.length_drop, List.length_set, List.length_replicate, List.length_range, List.length_zipIdx, List.length_zip]); omega)) only [kVal_s, hold_c, kNx_c, kRt_c, kRtN_c, kAsg_c, kAsgF_c, kPar_c, kParF_c, kParF2_c, kExp_c, kFor_c, kIf_t, kIf_f, kIfV_t, kIfV_f, kOrT_t, kOrT_f, kAndT_t, kAndT_f, kNotT_c, kAnd_t, kAnd_f, kOr_t, kOr_f, kNot_b, kTest_b, kBin_c, kBin2_c, kUn_c, kChain_t, kChain_f, kCh1_c, kCh2_c, kRet_d, kRet_n, kRetN_n, kSome_i, kSlot_d, kDc_c, kDc2_c, kLst_c, kLen_c, kTup_c, kCB_c, kIsa_c, kSl1_c, kSl2_c, kSl3_c, kRtO_c, kOm_c, kOm2_c, kOm3_c, kSo_c, kSo2_c, kSo3_c, kOi_c, kOi2_c, kSeq_c, kEnum_c, kEnum2_c, kZip_c, kZip2_c, kZip3_c, kZip4_c, kRg1_c, kRg2_c, kRg2b_c, kRgD_c, kRgDb_c, kCall_c, kCallN_c, kAc_c, kAc2_c, kBag_b, kComp_c, kRev_c, kGc_c, kFl_c, compT_c, kCt_c, kCt2_t, kCt2_f, fnS_c, ssSeq_c, ssRet_c, ssRetF_c, ssRetOwn_c, ssRetN_c, ssAsg_c, ssAsgF_c, ssPar_c, ssParF_c, ssIf_c, ssExpr_c, ssNil_c, ssPass_c, ssBreak_c, ssCont_c, ssFor_c, ssFreeze_c, ssOwnM_c, sVar_c, sC_c, sBin_c, sUn_c, sTest_c, sNotT_c, sAndT_c, sOrT_c, sBorT_c, sAndV_c, sOrV_c, sNotV_c, sIf_c, sChain_c, stYes_c, sdNil_c, sdCons_c, sLst_c, sLen_c, sTup_c, sCallB_c, sCallL_c, sIsa_c, sSlice_c, soNone_c, soSome_c, sgName_c, sgOwn_c, sOwnIx_c, siSeq_c, siEnum_c, siZip_c, siRange1_c, siRange2_c, siRangeD_c, slR1_c, slR2_c, sCall_c, sCallN_c, saNil_c, saCons_c, saBag_c, sComp_c, sRevL_c, sgTup_t, sgCons_c, sgNil_n, freezeSl, setUn, Slot.inner, List.map_cons, List.map_nil, List.replicate, List.cons_append, List.nil_append, List.append_nil, List.getElem?_cons_zero, List.getElem?_cons_succ, List.set_cons_zero, List.set_cons_succ, List.length_cons, List.length_nil, and_assoc, Option.some.injEq, PyData.list.injEq, PyData.tuple.injEq, toL_n, Nat.sub_self, Nat.zero_add, Nat.reduceAdd, Nat.reduceSub, true_and, and_true, addD_ii, subD_ii, ltD_ii, leD_ii, gtD_ii, geD_ii, negD_i, mulD_i, fdivD_i, modD_i, itemsD_l, itemsD_t, tupleB_l, tupleB_t, listB_l, listB_t, lenB_l, lenB_t, intB_i, intB_b, fold2_i, appendM_1, ixN_len, reduceCtorEq, reduceIte, Bool.and_self, Bool.true_and, Bool.false_and, Bool.and_true, Bool.and_false, Bool.not_true, Bool.not_false, PyData.isTuple, PyData.isInt, PyData.isBool, PyData.isList, PyData.isStr, isBLT]
  exact h
def other2 (one other : Int) (p : Int × Nat) : Bool := !(one == (p.2 : Int) || other == (p.2 : Int))
def knownOf (rs : List Int) (one other : Int) : Int := (((rs.zipIdx 0).filter (other2 one other)).map (·.1)).sum
def changedL (rs : List Int) (one other first both : Int) : List Int := (rs.set one.toNat first).set other.toNat (both - first)
def bothOf (rs : List Int) (r one other : Int) : Int := r * (rs.length : Int) * ((rs.length : Int) + 1) / 2 - knownOf rs one other
def goodF (rs : List Int) (r one other both : Int) (f : Int) : Bool := balB (changedL rs one other f both) r
def unreadL (rs : List Int) (r one other : Int) : List (Int × Int) :=
  ((((List.range (max 0 (bothOf rs r one other + 1)).toNat).map fun (i : Nat) => (0 : Int) + (i : Int)).filter (goodF rs r one other (bothOf rs r one other))).map fun f => (f, bothOf rs r one other - f))
theorem changed_len {rs : List Int} {one other first both : Int} : (changedL rs one other first both).length = rs.length := by
  unfold changedL
  rw [List.length_set, List.length_set]
theorem st12_unread {De : DEnds} {F : Exc → Prop} {m : Nat} {rs : List Int} {r one other both f : Int} {s4 s5 s6 : Slot} (ps : List (Int × Int)) (x10 : Slot) (hl : rs.length ≤ 100) (hr : (rs.length : Int) - 1 ≤ r) (h1 : 0 ≤ one ∧ one < rs.length) (h2 : 0 ≤ other ∧ other < rs.length) (hp : ps.length ≤ 1000)
    (h : ∀ x10, De.nx ⟨[.dat (tI rs), .dat (.int r), .dat (.int one), .dat (.int other), s4, s5, s6, .own ((if goodF rs r one other both f then ps ++ [(f, both - f)] else ps).map pI), .dat (.int both), .dat (.int f), x10], m, F⟩) :
    L2_unreadN De ⟨[.dat (tI rs), .dat (.int r), .dat (.int one), .dat (.int other), s4, s5, s6, .own (ps.map pI), .dat (.int both), .dat (.int f), x10], m, F⟩ := by
  simp -implicitDefEqProofs (disch := ((try simp only [List.length_map, List.length_append, List.length_cons, List.length_nil, List.length_take, List.length_drop, List.length_set, List.length_replicate, List.length_range, List.length_zipIdx, List.length_zip]); omega)) only [kVal_s, hold_c, kNx_c, kRt_c, kRtN_c, kAsg_c, kAsgF_c, kPar_c, kParF_c, kParF2_c, kExp_c, kFor_c, kIf_t, kIf_f, kIfV_t, kIfV_f, kOrT_t, kOrT_f, kAndT_t, kAndT_f, kNotT_c, kAnd_t, kAnd_f, kOr_t, kOr_f, kNot_b, kTest_b, kBin_c, kBin2_c, kUn_c, kChain_t, kChain_f, kCh1_c, kCh2_c, kRet_d, kRet_n, kRetN_n, kSome_i, kSlot_d, kDc_c, kDc2_c, kLst_c, kLen_c, kTup_c, kCB_c, kIsa_c, kSl1_c, kSl2_c, kSl3_c, kRtO_c, kOm_c, kOm2_c, kOm3_c, kSo_c, kSo2_c, kSo3_c, kOi_c, kOi2_c, kSeq_c, kEnum_c, kEnum2_c, kZip_c, kZip2_c, kZip3_c, kZip4_c, kRg1_c, kRg2_c, kRg2b_c, kRgD_c, kRgDb_c, kCall_c, kCallN_c, kAc_c, kAc2_c, kBag_b, kComp_c, kRev_c, kGc_c, kFl_c, compT_c, kCt_c, kCt2_t, kCt2_f, fnS_c, ssSeq_c, ssRet_c, ssRetF_c, ssRetOwn_c, ssRetN_c, ssAsg_c, ssAsgF_c, ssPar_c, ssParF_c, ssIf_c, ssExpr_c, ssNil_c, ssPass_c, ssBreak_c, ssCont_c, ssFor_c, ssFreeze_c, ssOwnM_c, sVar_c, sC_c, sBin_c, sUn_c, sTest_c, sNotT_c, sAndT_c, sOrT_c, sBorT_c, sAndV_c, sOrV_c, sNotV_c, sIf_c, sChain_c, stYes_c, sdNil_c, sdCons_c, sLst_c, sLen_c, sTup_c, sCallB_c, sCallL_c, sIsa_c, sSlice_c, soNone_c, soSome_c, sgName_c, sgOwn_c, sOwnIx_c, siSeq_c, siEnum_c, siZip_c, siRange1_c, siRange2_c, siRangeD_c, slR1_c, slR2_c, sCall_c, sCallN_c, saNil_c, saCons_c, saBag_c, sComp_c, sRevL_c, sgTup_t, sgCons_c, sgNil_n, freezeSl, setUn, Slot.inner, List.map_cons, List.map_nil, List.replicate, List.cons_append, List.nil_append, List.append_nil, List.getElem?_cons_zero, List.getElem?_cons_succ, List.set_cons_zero, List.set_cons_succ, List.length_cons, List.length_nil, and_assoc, Option.some.injEq, PyData.list.injEq, PyData.tuple.injEq, toL_n, Nat.sub_self, Nat.zero_add, Nat.reduceAdd, Nat.reduceSub, true_and, and_true, addD_ii, subD_ii, ltD_ii, leD_ii, gtD_ii, geD_ii, negD_i, mulD_i, fdivD_i, modD_i, itemsD_l, itemsD_t, tupleB_l, tupleB_t, listB_l, listB_t, lenB_l, lenB_t, intB_i, intB_b, fold2_i, appendM_1, ixN_len, reduceCtorEq, reduceIte, Bool.and_self, Bool.true_and, Bool.false_and, Bool.and_true, Bool.and_false, Bool.not_true, Bool.not_false, PyData.isTuple, PyData.isInt, PyData.isBool, PyData.isList, PyData.isStr, isBLT, L2_unreadN, tI]
  refine ⟨by decide, ?_⟩
  rw [← List.map_set, ← List.map_set]
  refine sp_occursN (rs := changedL rs one other f both) (by rw [changed_len]; exact hl) (by rw [changed_len]; exact hr) ?_
  rw [show balB (changedL rs one other f both) r = goodF rs r one other both f from rfl]
  cases e : goodF rs r one other both f with
  | true =>
    rw [e] at h
    simp -implicitDefEqProofs (disch := ((try simp only [List.length_map, List.length_append, List.length_cons, List.length_nil, List.length_take, List.length_drop, List.length_set, List.length_replicate, List.length_range, List.length_zipIdx, List.length_zip]); omega)) only [kVal_s, hold_c, kNx_c, kRt_c, kRtN_c, kAsg_c, kAsgF_c, kPar_c, kParF_c, kParF2_c, kExp_c, kFor_c, kIf_t, kIf_f, kIfV_t, kIfV_f, kOrT_t, kOrT_f, kAndT_t, kAndT_f, kNotT_c, kAnd_t, kAnd_f, kOr_t, kOr_f, kNot_b, kTest_b, kBin_c, kBin2_c, kUn_c, kChain_t, kChain_f, kCh1_c, kCh2_c, kRet_d, kRet_n, kRetN_n, kSome_i, kSlot_d, kDc_c, kDc2_c, kLst_c, kLen_c, kTup_c, kCB_c, kIsa_c, kSl1_c, kSl2_c, kSl3_c, kRtO_c, kOm_c, kOm2_c, kOm3_c, kSo_c, kSo2_c, kSo3_c, kOi_c, kOi2_c, kSeq_c, kEnum_c, kEnum2_c, kZip_c, kZip2_c, kZip3_c, kZip4_c, kRg1_c, kRg2_c, kRg2b_c, kRgD_c, kRgDb_c, kCall_c, kCallN_c, kAc_c, kAc2_c, kBag_b, kComp_c, kRev_c, kGc_c, kFl_c, compT_c, kCt_c, kCt2_t, kCt2_f, fnS_c, ssSeq_c, ssRet_c, ssRetF_c, ssRetOwn_c, ssRetN_c, ssAsg_c, ssAsgF_c, ssPar_c, ssParF_c, ssIf_c, ssExpr_c, ssNil_c, ssPass_c, ssBreak_c, ssCont_c, ssFor_c, ssFreeze_c, ssOwnM_c, sVar_c, sC_c, sBin_c, sUn_c, sTest_c, sNotT_c, sAndT_c, sOrT_c, sBorT_c, sAndV_c, sOrV_c, sNotV_c, sIf_c, sChain_c, stYes_c, sdNil_c, sdCons_c, sLst_c, sLen_c, sTup_c, sCallB_c, sCallL_c, sIsa_c, sSlice_c, soNone_c, soSome_c, sgName_c, sgOwn_c, sOwnIx_c, siSeq_c, siEnum_c, siZip_c, siRange1_c, siRange2_c, siRangeD_c, slR1_c, slR2_c, sCall_c, sCallN_c, saNil_c, saCons_c, saBag_c, sComp_c, sRevL_c, sgTup_t, sgCons_c, sgNil_n, freezeSl, setUn, Slot.inner, List.map_cons, List.map_nil, List.replicate, List.cons_append, List.nil_append, List.append_nil, List.getElem?_cons_zero, List.getElem?_cons_succ, List.set_cons_zero, List.set_cons_succ, List.length_cons, List.length_nil, and_assoc, Option.some.injEq, PyData.list.injEq, PyData.tuple.injEq, toL_n, Nat.sub_self, Nat.zero_add, Nat.reduceAdd, Nat.reduceSub, true_and, and_true, addD_ii, subD_ii, ltD_ii, leD_ii, gtD_ii, geD_ii, negD_i, mulD_i, fdivD_i, modD_i, itemsD_l, itemsD_t, tupleB_l, tupleB_t, listB_l, listB_t, lenB_l, lenB_t, intB_i, intB_b, fold2_i, appendM_1, ixN_len, reduceCtorEq, reduceIte, Bool.and_self, Bool.true_and, Bool.false_and, Bool.and_true, Bool.and_false, Bool.not_true, Bool.not_false, PyData.isTuple, PyData.isInt, PyData.isBool, PyData.isList, PyData.isStr, isBLT]
    refine ⟨by decide, ?_⟩
    rw [if_pos rfl, List.map_append] at h
    exact h _
  | false =>
    rw [e] at h
    simp -implicitDefEqProofs (disch := ((try simp only [List.length_map, List.length_append, List.length_cons, List.length_nil, List.length_take, List.length_drop, List.length_set, List.length_replicate, List.length_range, List.length_zipIdx, List.length_zip]); omega)) only [kVal_s, hold_c, kNx_c, kRt_c, kRtN_c, kAsg_c, kAsgF_c, kPar_c, kParF_c, kParF2_c, kExp_c, kFor_c, kIf_t, kIf_f, kIfV_t, kIfV_f, kOrT_t, kOrT_f, kAndT_t, kAndT_f, kNotT_c, kAnd_t, kAnd_f, kOr_t, kOr_f, kNot_b, kTest_b, kBin_c, kBin2_c, kUn_c, kChain_t, kChain_f, kCh1_c, kCh2_c, kRet_d, kRet_n, kRetN_n, kSome_i, kSlot_d, kDc_c, kDc2_c, kLst_c, kLen_c, kTup_c, kCB_c, kIsa_c, kSl1_c, kSl2_c, kSl3_c, kRtO_c, kOm_c, kOm2_c, kOm3_c, kSo_c, kSo2_c, kSo3_c, kOi_c, kOi2_c, kSeq_c, kEnum_c, kEnum2_c, kZip_c, kZip2_c, kZip3_c, kZip4_c, kRg1_c, kRg2_c, kRg2b_c, kRgD_c, kRgDb_c, kCall_c, kCallN_c, kAc_c, kAc2_c, kBag_b, kComp_c, kRev_c, kGc_c, kFl_c, compT_c, kCt_c, kCt2_t, kCt2_f, fnS_c, ssSeq_c, ssRet_c, ssRetF_c, ssRetOwn_c, ssRetN_c, ssAsg_c, ssAsgF_c, ssPar_c, ssParF_c, ssIf_c, ssExpr_c, ssNil_c, ssPass_c, ssBreak_c, ssCont_c, ssFor_c, ssFreeze_c, ssOwnM_c, sVar_c, sC_c, sBin_c, sUn_c, sTest_c, sNotT_c, sAndT_c, sOrT_c, sBorT_c, sAndV_c, sOrV_c, sNotV_c, sIf_c, sChain_c, stYes_c, sdNil_c, sdCons_c, sLst_c, sLen_c, sTup_c, sCallB_c, sCallL_c, sIsa_c, sSlice_c, soNone_c, soSome_c, sgName_c, sgOwn_c, sOwnIx_c, siSeq_c, siEnum_c, siZip_c, siRange1_c, siRange2_c, siRangeD_c, slR1_c, slR2_c, sCall_c, sCallN_c, saNil_c, saCons_c, saBag_c, sComp_c, sRevL_c, sgTup_t, sgCons_c, sgNil_n, freezeSl, setUn, Slot.inner, List.map_cons, List.map_nil, List.replicate, List.cons_append, List.nil_append, List.append_nil, List.getElem?_cons_zero, List.getElem?_cons_succ, List.set_cons_zero, List.set_cons_succ, List.length_cons, List.length_nil, and_assoc, Option.some.injEq, PyData.list.injEq, PyData.tuple.injEq, toL_n, Nat.sub_self, Nat.zero_add, Nat.reduceAdd, Nat.reduceSub, true_and, and_true, addD_ii, subD_ii, ltD_ii, leD_ii, gtD_ii, geD_ii, negD_i, mulD_i, fdivD_i, modD_i, itemsD_l, itemsD_t, tupleB_l, tupleB_t, listB_l, listB_t, lenB_l, lenB_t, intB_i, intB_b, fold2_i, appendM_1, ixN_len, reduceCtorEq, reduceIte, Bool.and_self, Bool.true_and, Bool.false_and, Bool.and_true, Bool.and_false, Bool.not_true, Bool.not_false, PyData.isTuple, PyData.isInt, PyData.isBool, PyData.isList, PyData.isStr, isBLT]
    exact h _
theorem lp12_unread {De : DEnds} {F : Exc → Prop} {m : Nat} {rs : List Int} {r one other both : Int} {s4 s5 s6 : Slot} (hl : rs.length ≤ 100) (hr : (rs.length : Int) - 1 ≤ r) (h1 : 0 ≤ one ∧ one < rs.length) (h2 : 0 ≤ other ∧ other < rs.length) : ∀ (fs : List Int) (ps : List (Int × Int)) (x9 x10 : Slot), fs.length + ps.length ≤ 1000 →
    (∀ x9 x10, De.nx ⟨[.dat (tI rs), .dat (.int r), .dat (.int one), .dat (.int other), s4, s5, s6, .own ((ps ++ (fs.filter (goodF rs r one other both)).map fun f => (f, both - f)).map pI), .dat (.int both), x9, x10], m, F⟩) →
    forL (sgName 9) L2_unreadN De (fs.map .int) ⟨[.dat (tI rs), .dat (.int r), .dat (.int one), .dat (.int other), s4, s5, s6, .own (ps.map pI), .dat (.int both), x9, x10], m, F⟩
  | [], ps, x9, x10, hp, h => by
    have := h x9 x10
    rw [List.filter_nil, List.map_nil, List.append_nil] at this
    exact this
  | f :: fs, ps, x9, x10, hp, h => by
    rw [List.length_cons] at hp
    rw [List.map_cons, forL_c, sgName_c, kFl_c]
    refine st12_unread ps x10 hl hr h1 h2 (by omega) fun x10 => ?_
    refine lp12_unread hl hr h1 h2 fs _ _ x10 (by split <;> (try simp only [List.length_append, List.length_cons, List.length_nil]) <;> omega) fun x9 x10 => ?_
    cases e : goodF rs r one other both f with
    | true =>
      rw [List.filter_cons_of_pos (by rw [e])] at h
      rw [if_pos rfl, List.append_assoc]
      exact h x9 x10
    | false =>
      rw [List.filter_cons_of_neg (by rw [e]; decide)] at h
      rw [if_neg Bool.false_ne_true]
      exact h x9 x10
end PT
set_option maxHeartbeats 1000000
namespace PT
open PySem PySem.Spec PyProof.Rows L2 DL
theorem inD_2 {b x y : Int} : inD true (.int b) (.tuple [.int x, .int y]) = some (.bool (!(x == b || y == b))) := by
  unfold inD
  simp only []
  rw [if_pos (show (PyData.int b).depth ≤ 100 from Nat.zero_le _)]
  show some (PyData.bool (!((x == b) || ((y == b) || false)))) = _
  rw [Bool.or_false]
theorem known_nonneg {rs : List Int} (h : ∀ x ∈ rs, 0 ≤ x) (one other : Int) : 0 ≤ knownOf rs one other := by
  have key : ∀ l : List Int, (∀ x ∈ l, 0 ≤ x) → 0 ≤ l.sum := fun l => by
    induction l with
    | nil => intro _; exact Int.le_refl 0
    | cons a l ih =>
      intro hl
      have := ih fun x hx => hl x (List.mem_cons_of_mem _ hx)
      have := hl a (List.mem_cons_self ..)
      rw [List.sum_cons]
      omega
  refine key _ fun x hx => ?_
  obtain ⟨p, hp, rfl⟩ := List.mem_map.mp hx
  have hz := (List.mem_filter.mp hp).1
  obtain ⟨h1, h2⟩ := List.mem_zipIdx' hz
  rw [h2]
  exact h _ (List.getElem_mem h1)
theorem due_le {n r : Int} (hn : 0 ≤ n ∧ n ≤ 6) (hr : 0 ≤ r ∧ r ≤ 8) : r * n * (n + 1) / 2 ≤ 168 := by
  have h1 : r * n ≤ 8 * 6 := Int.mul_le_mul hr.2 hn.2 hn.1 (by decide)
  have h0 : 0 ≤ r * n := Int.mul_nonneg hr.1 hn.1
  have h2 : r * n * (n + 1) ≤ 48 * 7 := Int.mul_le_mul h1 (by omega) (by omega) (by decide)
  omega
theorem sp_unreadN {rs : List Int} {r one other : Int} {m F R} (hr : okTot rs) (h8 : 1 ≤ r ∧ r ≤ 8) (hn : (rs.length : Int) - 1 ≤ r) (h1 : 0 ≤ one ∧ one < rs.length) (h2 : 0 ≤ other ∧ other < rs.length) (hne : one ≠ other) (h : R (.new ((unreadL rs r one other).map pI)) m) :
    m_unreadN [.dat (tI rs), .dat (.int r), .dat (.int one), .dat (.int other)] m F R := by
  have hl := hr.1
  have hb : bothOf rs r one other ≤ 168 := by
    have := known_nonneg (fun x hx => (hr.2 x hx).1) one other
    have := due_le (n := rs.length) (r := r) (by omega) (by omega)
    unfold bothOf
    omega
  simp -implicitDefEqProofs (disch := ((try simp only [List.length_map, List.length_append, List.length_cons, List.length_nil, List.length_take, List.length_drop, List.length_set, List.length_replicate, List.length_range, List.length_zipIdx, List.length_zip]); omega)) only [kVal_s, hold_c, kNx_c, kRt_c, kRtN_c, kAsg_c, kAsgF_c, kPar_c, kParF_c, kParF2_c, kExp_c, kFor_c, kIf_t, kIf_f, kIfV_t, kIfV_f, kOrT_t, kOrT_f, kAndT_t, kAndT_f, kNotT_c, kAnd_t, kAnd_f, kOr_t, kOr_f, kNot_b, kTest_b, kBin_c, kBin2_c, kUn_c, kChain_t, kChain_f, kCh1_c, kCh2_c, kRet_d, kRet_n, kRetN_n, kSome_i, kSlot_d, kDc_c, kDc2_c, kLst_c, kLen_c, kTup_c, kCB_c, kIsa_c, kSl1_c, kSl2_c, kSl3_c, kRtO_c, kOm_c, kOm2_c, kOm3_c, kSo_c, kSo2_c, kSo3_c, kOi_c, kOi2_c, kSeq_c, kEnum_c, kEnum2_c, kZip_c, kZip2_c, kZip3_c, kZip4_c, kRg1_c, kRg2_c, kRg2b_c, kRgD_c, kRgDb_c, kCall_c, kCallN_c, kAc_c, kAc2_c, kBag_b, kComp_c, kRev_c, kGc_c, kFl_c, compT_c, kCt_c, kCt2_t, kCt2_f, fnS_c, ssSeq_c, ssRet_c, ssRetF_c, ssRetOwn_c, ssRetN_c, ssAsg_c, ssAsgF_c, ssPar_c, ssParF_c, ssIf_c, ssExpr_c, ssNil_c, ssPass_c, ssBreak_c, ssCont_c, ssFor_c, ssFreeze_c, ssOwnM_c, sVar_c, sC_c, sBin_c, sUn_c, sTest_c, sNotT_c, sAndT_c, sOrT_c, sBorT_c, sAndV_c, sOrV_c, sNotV_c, sIf_c, sChain_c, stYes_c, sdNil_c, sdCons_c, sLst_c, sLen_c, sTup_c, sCallB_c, sCallL_c, sIsa_c, sSlice_c, soNone_c, soSome_c, sgName_c, sgOwn_c, sOwnIx_c, siSeq_c, siEnum_c, siZip_c, siRange1_c, siRange2_c, siRangeD_c, slR1_c, slR2_c, sCall_c, sCallN_c, saNil_c, saCons_c, saBag_c, sComp_c, sRevL_c, sgTup_t, sgCons_c, sgNil_n, freezeSl, setUn, Slot.inner, List.map_cons, List.map_nil, List.replicate, List.cons_append, List.nil_append, List.append_nil, List.getElem?_cons_zero, List.getElem?_cons_succ, List.set_cons_zero, List.set_cons_succ, List.length_cons, List.length_nil, and_assoc, Option.some.injEq, PyData.list.injEq, PyData.tuple.injEq, toL_n, Nat.sub_self, Nat.zero_add, Nat.reduceAdd, Nat.reduceSub, true_and, and_true, addD_ii, subD_ii, ltD_ii, leD_ii, gtD_ii, geD_ii, negD_i, mulD_i, fdivD_i, modD_i, itemsD_l, itemsD_t, tupleB_l, tupleB_t, listB_l, listB_t, lenB_l, lenB_t, intB_i, intB_b, fold2_i, appendM_1, ixN_len, reduceCtorEq, reduceIte, Bool.and_self, Bool.true_and, Bool.false_and, Bool.and_true, Bool.and_false, Bool.not_true, Bool.not_false, PyData.isTuple, PyData.isInt, PyData.isBool, PyData.isList, PyData.isStr, isBLT, m_unreadN, b_unreadN]
  refine sp_check_totals hr ?_
  simp -implicitDefEqProofs (disch := ((try simp only [List.length_map, List.length_append, List.length_cons, List.length_nil, List.length_take, List.length_drop, List.length_set, List.length_replicate, List.length_range, List.length_zipIdx, List.length_zip]); omega)) only [kVal_s, hold_c, kNx_c, kRt_c, kRtN_c, kAsg_c, kAsgF_c, kPar_c, kParF_c, kParF2_c, kExp_c, kFor_c, kIf_t, kIf_f, kIfV_t, kIfV_f, kOrT_t, kOrT_f, kAndT_t, kAndT_f, kNotT_c, kAnd_t, kAnd_f, kOr_t, kOr_f, kNot_b, kTest_b, kBin_c, kBin2_c, kUn_c, kChain_t, kChain_f, kCh1_c, kCh2_c, kRet_d, kRet_n, kRetN_n, kSome_i, kSlot_d, kDc_c, kDc2_c, kLst_c, kLen_c, kTup_c, kCB_c, kIsa_c, kSl1_c, kSl2_c, kSl3_c, kRtO_c, kOm_c, kOm2_c, kOm3_c, kSo_c, kSo2_c, kSo3_c, kOi_c, kOi2_c, kSeq_c, kEnum_c, kEnum2_c, kZip_c, kZip2_c, kZip3_c, kZip4_c, kRg1_c, kRg2_c, kRg2b_c, kRgD_c, kRgDb_c, kCall_c, kCallN_c, kAc_c, kAc2_c, kBag_b, kComp_c, kRev_c, kGc_c, kFl_c, compT_c, kCt_c, kCt2_t, kCt2_f, fnS_c, ssSeq_c, ssRet_c, ssRetF_c, ssRetOwn_c, ssRetN_c, ssAsg_c, ssAsgF_c, ssPar_c, ssParF_c, ssIf_c, ssExpr_c, ssNil_c, ssPass_c, ssBreak_c, ssCont_c, ssFor_c, ssFreeze_c, ssOwnM_c, sVar_c, sC_c, sBin_c, sUn_c, sTest_c, sNotT_c, sAndT_c, sOrT_c, sBorT_c, sAndV_c, sOrV_c, sNotV_c, sIf_c, sChain_c, stYes_c, sdNil_c, sdCons_c, sLst_c, sLen_c, sTup_c, sCallB_c, sCallL_c, sIsa_c, sSlice_c, soNone_c, soSome_c, sgName_c, sgOwn_c, sOwnIx_c, siSeq_c, siEnum_c, siZip_c, siRange1_c, siRange2_c, siRangeD_c, slR1_c, slR2_c, sCall_c, sCallN_c, saNil_c, saCons_c, saBag_c, sComp_c, sRevL_c, sgTup_t, sgCons_c, sgNil_n, freezeSl, setUn, Slot.inner, List.map_cons, List.map_nil, List.replicate, List.cons_append, List.nil_append, List.append_nil, List.getElem?_cons_zero, List.getElem?_cons_succ, List.set_cons_zero, List.set_cons_succ, List.length_cons, List.length_nil, and_assoc, Option.some.injEq, PyData.list.injEq, PyData.tuple.injEq, toL_n, Nat.sub_self, Nat.zero_add, Nat.reduceAdd, Nat.reduceSub, true_and, and_true, addD_ii, subD_ii, ltD_ii, leD_ii, gtD_ii, geD_ii, negD_i, mulD_i, fdivD_i, modD_i, itemsD_l, itemsD_t, tupleB_l, tupleB_t, listB_l, listB_t, lenB_l, lenB_t, intB_i, intB_b, fold2_i, appendM_1, ixN_len, reduceCtorEq, reduceIte, Bool.and_self, Bool.true_and, Bool.false_and, Bool.and_true, Bool.and_false, Bool.not_true, Bool.not_false, PyData.isTuple, PyData.isInt, PyData.isBool, PyData.isList, PyData.isStr, isBLT]
  refine sp_check_number h8 ?_
  simp -implicitDefEqProofs (disch := ((try simp only [List.length_map, List.length_append, List.length_cons, List.length_nil, List.length_take, List.length_drop, List.length_set, List.length_replicate, List.length_range, List.length_zipIdx, List.length_zip]); omega)) only [kVal_s, hold_c, kNx_c, kRt_c, kRtN_c, kAsg_c, kAsgF_c, kPar_c, kParF_c, kParF2_c, kExp_c, kFor_c, kIf_t, kIf_f, kIfV_t, kIfV_f, kOrT_t, kOrT_f, kAndT_t, kAndT_f, kNotT_c, kAnd_t, kAnd_f, kOr_t, kOr_f, kNot_b, kTest_b, kBin_c, kBin2_c, kUn_c, kChain_t, kChain_f, kCh1_c, kCh2_c, kRet_d, kRet_n, kRetN_n, kSome_i, kSlot_d, kDc_c, kDc2_c, kLst_c, kLen_c, kTup_c, kCB_c, kIsa_c, kSl1_c, kSl2_c, kSl3_c, kRtO_c, kOm_c, kOm2_c, kOm3_c, kSo_c, kSo2_c, kSo3_c, kOi_c, kOi2_c, kSeq_c, kEnum_c, kEnum2_c, kZip_c, kZip2_c, kZip3_c, kZip4_c, kRg1_c, kRg2_c, kRg2b_c, kRgD_c, kRgDb_c, kCall_c, kCallN_c, kAc_c, kAc2_c, kBag_b, kComp_c, kRev_c, kGc_c, kFl_c, compT_c, kCt_c, kCt2_t, kCt2_f, fnS_c, ssSeq_c, ssRet_c, ssRetF_c, ssRetOwn_c, ssRetN_c, ssAsg_c, ssAsgF_c, ssPar_c, ssParF_c, ssIf_c, ssExpr_c, ssNil_c, ssPass_c, ssBreak_c, ssCont_c, ssFor_c, ssFreeze_c, ssOwnM_c, sVar_c, sC_c, sBin_c, sUn_c, sTest_c, sNotT_c, sAndT_c, sOrT_c, sBorT_c, sAndV_c, sOrV_c, sNotV_c, sIf_c, sChain_c, stYes_c, sdNil_c, sdCons_c, sLst_c, sLen_c, sTup_c, sCallB_c, sCallL_c, sIsa_c, sSlice_c, soNone_c, soSome_c, sgName_c, sgOwn_c, sOwnIx_c, siSeq_c, siEnum_c, siZip_c, siRange1_c, siRange2_c, siRangeD_c, slR1_c, slR2_c, sCall_c, sCallN_c, saNil_c, saCons_c, saBag_c, sComp_c, sRevL_c, sgTup_t, sgCons_c, sgNil_n, freezeSl, setUn, Slot.inner, List.map_cons, List.map_nil, List.replicate, List.cons_append, List.nil_append, List.append_nil, List.getElem?_cons_zero, List.getElem?_cons_succ, List.set_cons_zero, List.set_cons_succ, List.length_cons, List.length_nil, and_assoc, Option.some.injEq, PyData.list.injEq, PyData.tuple.injEq, toL_n, Nat.sub_self, Nat.zero_add, Nat.reduceAdd, Nat.reduceSub, true_and, and_true, addD_ii, subD_ii, ltD_ii, leD_ii, gtD_ii, geD_ii, negD_i, mulD_i, fdivD_i, modD_i, itemsD_l, itemsD_t, tupleB_l, tupleB_t, listB_l, listB_t, lenB_l, lenB_t, intB_i, intB_b, fold2_i, appendM_1, ixN_len, reduceCtorEq, reduceIte, Bool.and_self, Bool.true_and, Bool.false_and, Bool.and_true, Bool.and_false, Bool.not_true, Bool.not_false, PyData.isTuple, PyData.isInt, PyData.isBool, PyData.isList, PyData.isStr, isBLT]
  refine sp_check_boat h1 ?_
  simp -implicitDefEqProofs (disch := ((try simp only [List.length_map, List.length_append, List.length_cons, List.length_nil, List.length_take, List.length_drop, List.length_set, List.length_replicate, List.length_range, List.length_zipIdx, List.length_zip]); omega)) only [kVal_s, hold_c, kNx_c, kRt_c, kRtN_c, kAsg_c, kAsgF_c, kPar_c, kParF_c, kParF2_c, kExp_c, kFor_c, kIf_t, kIf_f, kIfV_t, kIfV_f, kOrT_t, kOrT_f, kAndT_t, kAndT_f, kNotT_c, kAnd_t, kAnd_f, kOr_t, kOr_f, kNot_b, kTest_b, kBin_c, kBin2_c, kUn_c, kChain_t, kChain_f, kCh1_c, kCh2_c, kRet_d, kRet_n, kRetN_n, kSome_i, kSlot_d, kDc_c, kDc2_c, kLst_c, kLen_c, kTup_c, kCB_c, kIsa_c, kSl1_c, kSl2_c, kSl3_c, kRtO_c, kOm_c, kOm2_c, kOm3_c, kSo_c, kSo2_c, kSo3_c, kOi_c, kOi2_c, kSeq_c, kEnum_c, kEnum2_c, kZip_c, kZip2_c, kZip3_c, kZip4_c, kRg1_c, kRg2_c, kRg2b_c, kRgD_c, kRgDb_c, kCall_c, kCallN_c, kAc_c, kAc2_c, kBag_b, kComp_c, kRev_c, kGc_c, kFl_c, compT_c, kCt_c, kCt2_t, kCt2_f, fnS_c, ssSeq_c, ssRet_c, ssRetF_c, ssRetOwn_c, ssRetN_c, ssAsg_c, ssAsgF_c, ssPar_c, ssParF_c, ssIf_c, ssExpr_c, ssNil_c, ssPass_c, ssBreak_c, ssCont_c, ssFor_c, ssFreeze_c, ssOwnM_c, sVar_c, sC_c, sBin_c, sUn_c, sTest_c, sNotT_c, sAndT_c, sOrT_c, sBorT_c, sAndV_c, sOrV_c, sNotV_c, sIf_c, sChain_c, stYes_c, sdNil_c, sdCons_c, sLst_c, sLen_c, sTup_c, sCallB_c, sCallL_c, sIsa_c, sSlice_c, soNone_c, soSome_c, sgName_c, sgOwn_c, sOwnIx_c, siSeq_c, siEnum_c, siZip_c, siRange1_c, siRange2_c, siRangeD_c, slR1_c, slR2_c, sCall_c, sCallN_c, saNil_c, saCons_c, saBag_c, sComp_c, sRevL_c, sgTup_t, sgCons_c, sgNil_n, freezeSl, setUn, Slot.inner, List.map_cons, List.map_nil, List.replicate, List.cons_append, List.nil_append, List.append_nil, List.getElem?_cons_zero, List.getElem?_cons_succ, List.set_cons_zero, List.set_cons_succ, List.length_cons, List.length_nil, and_assoc, Option.some.injEq, PyData.list.injEq, PyData.tuple.injEq, toL_n, Nat.sub_self, Nat.zero_add, Nat.reduceAdd, Nat.reduceSub, true_and, and_true, addD_ii, subD_ii, ltD_ii, leD_ii, gtD_ii, geD_ii, negD_i, mulD_i, fdivD_i, modD_i, itemsD_l, itemsD_t, tupleB_l, tupleB_t, listB_l, listB_t, lenB_l, lenB_t, intB_i, intB_b, fold2_i, appendM_1, ixN_len, reduceCtorEq, reduceIte, Bool.and_self, Bool.true_and, Bool.false_and, Bool.and_true, Bool.and_false, Bool.not_true, Bool.not_false, PyData.isTuple, PyData.isInt, PyData.isBool, PyData.isList, PyData.isStr, isBLT]
  refine sp_check_boat h2 ?_
  simp -implicitDefEqProofs (disch := ((try simp only [List.length_map, List.length_append, List.length_cons, List.length_nil, List.length_take, List.length_drop, List.length_set, List.length_replicate, List.length_range, List.length_zipIdx, List.length_zip]); omega)) only [kVal_s, hold_c, kNx_c, kRt_c, kRtN_c, kAsg_c, kAsgF_c, kPar_c, kParF_c, kParF2_c, kExp_c, kFor_c, kIf_t, kIf_f, kIfV_t, kIfV_f, kOrT_t, kOrT_f, kAndT_t, kAndT_f, kNotT_c, kAnd_t, kAnd_f, kOr_t, kOr_f, kNot_b, kTest_b, kBin_c, kBin2_c, kUn_c, kChain_t, kChain_f, kCh1_c, kCh2_c, kRet_d, kRet_n, kRetN_n, kSome_i, kSlot_d, kDc_c, kDc2_c, kLst_c, kLen_c, kTup_c, kCB_c, kIsa_c, kSl1_c, kSl2_c, kSl3_c, kRtO_c, kOm_c, kOm2_c, kOm3_c, kSo_c, kSo2_c, kSo3_c, kOi_c, kOi2_c, kSeq_c, kEnum_c, kEnum2_c, kZip_c, kZip2_c, kZip3_c, kZip4_c, kRg1_c, kRg2_c, kRg2b_c, kRgD_c, kRgDb_c, kCall_c, kCallN_c, kAc_c, kAc2_c, kBag_b, kComp_c, kRev_c, kGc_c, kFl_c, compT_c, kCt_c, kCt2_t, kCt2_f, fnS_c, ssSeq_c, ssRet_c, ssRetF_c, ssRetOwn_c, ssRetN_c, ssAsg_c, ssAsgF_c, ssPar_c, ssParF_c, ssIf_c, ssExpr_c, ssNil_c, ssPass_c, ssBreak_c, ssCont_c, ssFor_c, ssFreeze_c, ssOwnM_c, sVar_c, sC_c, sBin_c, sUn_c, sTest_c, sNotT_c, sAndT_c, sOrT_c, sBorT_c, sAndV_c, sOrV_c, sNotV_c, sIf_c, sChain_c, stYes_c, sdNil_c, sdCons_c, sLst_c, sLen_c, sTup_c, sCallB_c, sCallL_c, sIsa_c, sSlice_c, soNone_c, soSome_c, sgName_c, sgOwn_c, sOwnIx_c, siSeq_c, siEnum_c, siZip_c, siRange1_c, siRange2_c, siRangeD_c, slR1_c, slR2_c, sCall_c, sCallN_c, saNil_c, saCons_c, saBag_c, sComp_c, sRevL_c, sgTup_t, sgCons_c, sgNil_n, freezeSl, setUn, Slot.inner, List.map_cons, List.map_nil, List.replicate, List.cons_append, List.nil_append, List.append_nil, List.getElem?_cons_zero, List.getElem?_cons_succ, List.set_cons_zero, List.set_cons_succ, List.length_cons, List.length_nil, and_assoc, Option.some.injEq, PyData.list.injEq, PyData.tuple.injEq, toL_n, Nat.sub_self, Nat.zero_add, Nat.reduceAdd, Nat.reduceSub, true_and, and_true, addD_ii, subD_ii, ltD_ii, leD_ii, gtD_ii, geD_ii, negD_i, mulD_i, fdivD_i, modD_i, itemsD_l, itemsD_t, tupleB_l, tupleB_t, listB_l, listB_t, lenB_l, lenB_t, intB_i, intB_b, fold2_i, appendM_1, ixN_len, reduceCtorEq, reduceIte, Bool.and_self, Bool.true_and, Bool.false_and, Bool.and_true, Bool.and_false, Bool.not_true, Bool.not_false, PyData.isTuple, PyData.isInt, PyData.isBool, PyData.isList, PyData.isStr, isBLT, eqD_i, tI]
  rw [decide_eq_false hne]
  simp -implicitDefEqProofs (disch := ((try simp only [List.length_map, List.length_append, List.length_cons, List.length_nil, List.length_take, List.length_drop, List.length_set, List.length_replicate, List.length_range, List.length_zipIdx, List.length_zip]); omega)) only [kVal_s, hold_c, kNx_c, kRt_c, kRtN_c, kAsg_c, kAsgF_c, kPar_c, kParF_c, kParF2_c, kExp_c, kFor_c, kIf_t, kIf_f, kIfV_t, kIfV_f, kOrT_t, kOrT_f, kAndT_t, kAndT_f, kNotT_c, kAnd_t, kAnd_f, kOr_t, kOr_f, kNot_b, kTest_b, kBin_c, kBin2_c, kUn_c, kChain_t, kChain_f, kCh1_c, kCh2_c, kRet_d, kRet_n, kRetN_n, kSome_i, kSlot_d, kDc_c, kDc2_c, kLst_c, kLen_c, kTup_c, kCB_c, kIsa_c, kSl1_c, kSl2_c, kSl3_c, kRtO_c, kOm_c, kOm2_c, kOm3_c, kSo_c, kSo2_c, kSo3_c, kOi_c, kOi2_c, kSeq_c, kEnum_c, kEnum2_c, kZip_c, kZip2_c, kZip3_c, kZip4_c, kRg1_c, kRg2_c, kRg2b_c, kRgD_c, kRgDb_c, kCall_c, kCallN_c, kAc_c, kAc2_c, kBag_b, kComp_c, kRev_c, kGc_c, kFl_c, compT_c, kCt_c, kCt2_t, kCt2_f, fnS_c, ssSeq_c, ssRet_c, ssRetF_c, ssRetOwn_c, ssRetN_c, ssAsg_c, ssAsgF_c, ssPar_c, ssParF_c, ssIf_c, ssExpr_c, ssNil_c, ssPass_c, ssBreak_c, ssCont_c, ssFor_c, ssFreeze_c, ssOwnM_c, sVar_c, sC_c, sBin_c, sUn_c, sTest_c, sNotT_c, sAndT_c, sOrT_c, sBorT_c, sAndV_c, sOrV_c, sNotV_c, sIf_c, sChain_c, stYes_c, sdNil_c, sdCons_c, sLst_c, sLen_c, sTup_c, sCallB_c, sCallL_c, sIsa_c, sSlice_c, soNone_c, soSome_c, sgName_c, sgOwn_c, sOwnIx_c, siSeq_c, siEnum_c, siZip_c, siRange1_c, siRange2_c, siRangeD_c, slR1_c, slR2_c, sCall_c, sCallN_c, saNil_c, saCons_c, saBag_c, sComp_c, sRevL_c, sgTup_t, sgCons_c, sgNil_n, freezeSl, setUn, Slot.inner, List.map_cons, List.map_nil, List.replicate, List.cons_append, List.nil_append, List.append_nil, List.getElem?_cons_zero, List.getElem?_cons_succ, List.set_cons_zero, List.set_cons_succ, List.length_cons, List.length_nil, and_assoc, Option.some.injEq, PyData.list.injEq, PyData.tuple.injEq, toL_n, Nat.sub_self, Nat.zero_add, Nat.reduceAdd, Nat.reduceSub, true_and, and_true, addD_ii, subD_ii, ltD_ii, leD_ii, gtD_ii, geD_ii, negD_i, mulD_i, fdivD_i, modD_i, itemsD_l, itemsD_t, tupleB_l, tupleB_t, listB_l, listB_t, lenB_l, lenB_t, intB_i, intB_b, fold2_i, appendM_1, ixN_len, reduceCtorEq, reduceIte, Bool.and_self, Bool.true_and, Bool.false_and, Bool.and_true, Bool.and_false, Bool.not_true, Bool.not_false, PyData.isTuple, PyData.isInt, PyData.isBool, PyData.isList, PyData.isStr, isBLT]
  rw [enumD_enc]
  refine ⟨Nat.le_trans (by rw [List.length_map, List.length_zipIdx]; omega) (by decide : 6 ≤ 16000000), ?_⟩
  refine compL_filter (fun p : Int × Nat => .tuple [.int (p.2 : Int), .int p.1]) (other2 one other) (fun p => .int p.1) _ _ (fun q hq K N hk hn => ?_) ?_
  · simp -implicitDefEqProofs (disch := ((try simp only [List.length_map, List.length_append, List.length_cons, List.length_nil, List.length_take, List.length_drop, List.length_set, List.length_replicate, List.length_range, List.length_zipIdx, List.length_zip]); omega)) only [kVal_s, hold_c, kNx_c, kRt_c, kRtN_c, kAsg_c, kAsgF_c, kPar_c, kParF_c, kParF2_c, kExp_c, kFor_c, kIf_t, kIf_f, kIfV_t, kIfV_f, kOrT_t, kOrT_f, kAndT_t, kAndT_f, kNotT_c, kAnd_t, kAnd_f, kOr_t, kOr_f, kNot_b, kTest_b, kBin_c, kBin2_c, kUn_c, kChain_t, kChain_f, kCh1_c, kCh2_c, kRet_d, kRet_n, kRetN_n, kSome_i, kSlot_d, kDc_c, kDc2_c, kLst_c, kLen_c, kTup_c, kCB_c, kIsa_c, kSl1_c, kSl2_c, kSl3_c, kRtO_c, kOm_c, kOm2_c, kOm3_c, kSo_c, kSo2_c, kSo3_c, kOi_c, kOi2_c, kSeq_c, kEnum_c, kEnum2_c, kZip_c, kZip2_c, kZip3_c, kZip4_c, kRg1_c, kRg2_c, kRg2b_c, kRgD_c, kRgDb_c, kCall_c, kCallN_c, kAc_c, kAc2_c, kBag_b, kComp_c, kRev_c, kGc_c, kFl_c, compT_c, kCt_c, kCt2_t, kCt2_f, fnS_c, ssSeq_c, ssRet_c, ssRetF_c, ssRetOwn_c, ssRetN_c, ssAsg_c, ssAsgF_c, ssPar_c, ssParF_c, ssIf_c, ssExpr_c, ssNil_c, ssPass_c, ssBreak_c, ssCont_c, ssFor_c, ssFreeze_c, ssOwnM_c, sVar_c, sC_c, sBin_c, sUn_c, sTest_c, sNotT_c, sAndT_c, sOrT_c, sBorT_c, sAndV_c, sOrV_c, sNotV_c, sIf_c, sChain_c, stYes_c, sdNil_c, sdCons_c, sLst_c, sLen_c, sTup_c, sCallB_c, sCallL_c, sIsa_c, sSlice_c, soNone_c, soSome_c, sgName_c, sgOwn_c, sOwnIx_c, siSeq_c, siEnum_c, siZip_c, siRange1_c, siRange2_c, siRangeD_c, slR1_c, slR2_c, sCall_c, sCallN_c, saNil_c, saCons_c, saBag_c, sComp_c, sRevL_c, sgTup_t, sgCons_c, sgNil_n, freezeSl, setUn, Slot.inner, List.map_cons, List.map_nil, List.replicate, List.cons_append, List.nil_append, List.append_nil, List.getElem?_cons_zero, List.getElem?_cons_succ, List.set_cons_zero, List.set_cons_succ, List.length_cons, List.length_nil, and_assoc, Option.some.injEq, PyData.list.injEq, PyData.tuple.injEq, toL_n, Nat.sub_self, Nat.zero_add, Nat.reduceAdd, Nat.reduceSub, true_and, and_true, addD_ii, subD_ii, ltD_ii, leD_ii, gtD_ii, geD_ii, negD_i, mulD_i, fdivD_i, modD_i, itemsD_l, itemsD_t, tupleB_l, tupleB_t, listB_l, listB_t, lenB_l, lenB_t, intB_i, intB_b, fold2_i, appendM_1, ixN_len, reduceCtorEq, reduceIte, Bool.and_self, Bool.true_and, Bool.false_and, Bool.and_true, Bool.and_false, Bool.not_true, Bool.not_false, PyData.isTuple, PyData.isInt, PyData.isBool, PyData.isList, PyData.isStr, isBLT, t1_unreadN, inD_2]
    refine ⟨by decide, ?_⟩
    cases e : other2 one other q with
    | true =>
      rw [show (!(one == (q.2 : Int) || other == (q.2 : Int))) = true from e]
      simp -implicitDefEqProofs (disch := ((try simp only [List.length_map, List.length_append, List.length_cons, List.length_nil, List.length_take, List.length_drop, List.length_set, List.length_replicate, List.length_range, List.length_zipIdx, List.length_zip]); omega)) only [kVal_s, hold_c, kNx_c, kRt_c, kRtN_c, kAsg_c, kAsgF_c, kPar_c, kParF_c, kParF2_c, kExp_c, kFor_c, kIf_t, kIf_f, kIfV_t, kIfV_f, kOrT_t, kOrT_f, kAndT_t, kAndT_f, kNotT_c, kAnd_t, kAnd_f, kOr_t, kOr_f, kNot_b, kTest_b, kBin_c, kBin2_c, kUn_c, kChain_t, kChain_f, kCh1_c, kCh2_c, kRet_d, kRet_n, kRetN_n, kSome_i, kSlot_d, kDc_c, kDc2_c, kLst_c, kLen_c, kTup_c, kCB_c, kIsa_c, kSl1_c, kSl2_c, kSl3_c, kRtO_c, kOm_c, kOm2_c, kOm3_c, kSo_c, kSo2_c, kSo3_c, kOi_c, kOi2_c, kSeq_c, kEnum_c, kEnum2_c, kZip_c, kZip2_c, kZip3_c, kZip4_c, kRg1_c, kRg2_c, kRg2b_c, kRgD_c, kRgDb_c, kCall_c, kCallN_c, kAc_c, kAc2_c, kBag_b, kComp_c, kRev_c, kGc_c, kFl_c, compT_c, kCt_c, kCt2_t, kCt2_f, fnS_c, ssSeq_c, ssRet_c, ssRetF_c, ssRetOwn_c, ssRetN_c, ssAsg_c, ssAsgF_c, ssPar_c, ssParF_c, ssIf_c, ssExpr_c, ssNil_c, ssPass_c, ssBreak_c, ssCont_c, ssFor_c, ssFreeze_c, ssOwnM_c, sVar_c, sC_c, sBin_c, sUn_c, sTest_c, sNotT_c, sAndT_c, sOrT_c, sBorT_c, sAndV_c, sOrV_c, sNotV_c, sIf_c, sChain_c, stYes_c, sdNil_c, sdCons_c, sLst_c, sLen_c, sTup_c, sCallB_c, sCallL_c, sIsa_c, sSlice_c, soNone_c, soSome_c, sgName_c, sgOwn_c, sOwnIx_c, siSeq_c, siEnum_c, siZip_c, siRange1_c, siRange2_c, siRangeD_c, slR1_c, slR2_c, sCall_c, sCallN_c, saNil_c, saCons_c, saBag_c, sComp_c, sRevL_c, sgTup_t, sgCons_c, sgNil_n, freezeSl, setUn, Slot.inner, List.map_cons, List.map_nil, List.replicate, List.cons_append, List.nil_append, List.append_nil, List.getElem?_cons_zero, List.getElem?_cons_succ, List.set_cons_zero, List.set_cons_succ, List.length_cons, List.length_nil, and_assoc, Option.some.injEq, PyData.list.injEq, PyData.tuple.injEq, toL_n, Nat.sub_self, Nat.zero_add, Nat.reduceAdd, Nat.reduceSub, true_and, and_true, addD_ii, subD_ii, ltD_ii, leD_ii, gtD_ii, geD_ii, negD_i, mulD_i, fdivD_i, modD_i, itemsD_l, itemsD_t, tupleB_l, tupleB_t, listB_l, listB_t, lenB_l, lenB_t, intB_i, intB_b, fold2_i, appendM_1, ixN_len, reduceCtorEq, reduceIte, Bool.and_self, Bool.true_and, Bool.false_and, Bool.and_true, Bool.and_false, Bool.not_true, Bool.not_false, PyData.isTuple, PyData.isInt, PyData.isBool, PyData.isList, PyData.isStr, isBLT]
      exact hk e
    | false =>
      rw [show (!(one == (q.2 : Int) || other == (q.2 : Int))) = false from e]
      simp -implicitDefEqProofs (disch := ((try simp only [List.length_map, List.length_append, List.length_cons, List.length_nil, List.length_take, List.length_drop, List.length_set, List.length_replicate, List.length_range, List.length_zipIdx, List.length_zip]); omega)) only [kVal_s, hold_c, kNx_c, kRt_c, kRtN_c, kAsg_c, kAsgF_c, kPar_c, kParF_c, kParF2_c, kExp_c, kFor_c, kIf_t, kIf_f, kIfV_t, kIfV_f, kOrT_t, kOrT_f, kAndT_t, kAndT_f, kNotT_c, kAnd_t, kAnd_f, kOr_t, kOr_f, kNot_b, kTest_b, kBin_c, kBin2_c, kUn_c, kChain_t, kChain_f, kCh1_c, kCh2_c, kRet_d, kRet_n, kRetN_n, kSome_i, kSlot_d, kDc_c, kDc2_c, kLst_c, kLen_c, kTup_c, kCB_c, kIsa_c, kSl1_c, kSl2_c, kSl3_c, kRtO_c, kOm_c, kOm2_c, kOm3_c, kSo_c, kSo2_c, kSo3_c, kOi_c, kOi2_c, kSeq_c, kEnum_c, kEnum2_c, kZip_c, kZip2_c, kZip3_c, kZip4_c, kRg1_c, kRg2_c, kRg2b_c, kRgD_c, kRgDb_c, kCall_c, kCallN_c, kAc_c, kAc2_c, kBag_b, kComp_c, kRev_c, kGc_c, kFl_c, compT_c, kCt_c, kCt2_t, kCt2_f, fnS_c, ssSeq_c, ssRet_c, ssRetF_c, ssRetOwn_c, ssRetN_c, ssAsg_c, ssAsgF_c, ssPar_c, ssParF_c, ssIf_c, ssExpr_c, ssNil_c, ssPass_c, ssBreak_c, ssCont_c, ssFor_c, ssFreeze_c, ssOwnM_c, sVar_c, sC_c, sBin_c, sUn_c, sTest_c, sNotT_c, sAndT_c, sOrT_c, sBorT_c, sAndV_c, sOrV_c, sNotV_c, sIf_c, sChain_c, stYes_c, sdNil_c, sdCons_c, sLst_c, sLen_c, sTup_c, sCallB_c, sCallL_c, sIsa_c, sSlice_c, soNone_c, soSome_c, sgName_c, sgOwn_c, sOwnIx_c, siSeq_c, siEnum_c, siZip_c, siRange1_c, siRange2_c, siRangeD_c, slR1_c, slR2_c, sCall_c, sCallN_c, saNil_c, saCons_c, saBag_c, sComp_c, sRevL_c, sgTup_t, sgCons_c, sgNil_n, freezeSl, setUn, Slot.inner, List.map_cons, List.map_nil, List.replicate, List.cons_append, List.nil_append, List.append_nil, List.getElem?_cons_zero, List.getElem?_cons_succ, List.set_cons_zero, List.set_cons_succ, List.length_cons, List.length_nil, and_assoc, Option.some.injEq, PyData.list.injEq, PyData.tuple.injEq, toL_n, Nat.sub_self, Nat.zero_add, Nat.reduceAdd, Nat.reduceSub, true_and, and_true, addD_ii, subD_ii, ltD_ii, leD_ii, gtD_ii, geD_ii, negD_i, mulD_i, fdivD_i, modD_i, itemsD_l, itemsD_t, tupleB_l, tupleB_t, listB_l, listB_t, lenB_l, lenB_t, intB_i, intB_b, fold2_i, appendM_1, ixN_len, reduceCtorEq, reduceIte, Bool.and_self, Bool.true_and, Bool.false_and, Bool.and_true, Bool.and_false, Bool.not_true, Bool.not_false, PyData.isTuple, PyData.isInt, PyData.isBool, PyData.isList, PyData.isStr, isBLT]
      exact hn e
  · rw [show (((rs.zipIdx 0).filter (other2 one other)).map fun p => PyData.int p.1) = (((rs.zipIdx 0).filter (other2 one other)).map (·.1)).map PyData.int by rw [List.map_map]; rfl]
    simp -implicitDefEqProofs (disch := ((try simp only [List.length_map, List.length_append, List.length_cons, List.length_nil, List.length_take, List.length_drop, List.length_set, List.length_replicate, List.length_range, List.length_zipIdx, List.length_zip]); omega)) only [kVal_s, hold_c, kNx_c, kRt_c, kRtN_c, kAsg_c, kAsgF_c, kPar_c, kParF_c, kParF2_c, kExp_c, kFor_c, kIf_t, kIf_f, kIfV_t, kIfV_f, kOrT_t, kOrT_f, kAndT_t, kAndT_f, kNotT_c, kAnd_t, kAnd_f, kOr_t, kOr_f, kNot_b, kTest_b, kBin_c, kBin2_c, kUn_c, kChain_t, kChain_f, kCh1_c, kCh2_c, kRet_d, kRet_n, kRetN_n, kSome_i, kSlot_d, kDc_c, kDc2_c, kLst_c, kLen_c, kTup_c, kCB_c, kIsa_c, kSl1_c, kSl2_c, kSl3_c, kRtO_c, kOm_c, kOm2_c, kOm3_c, kSo_c, kSo2_c, kSo3_c, kOi_c, kOi2_c, kSeq_c, kEnum_c, kEnum2_c, kZip_c, kZip2_c, kZip3_c, kZip4_c, kRg1_c, kRg2_c, kRg2b_c, kRgD_c, kRgDb_c, kCall_c, kCallN_c, kAc_c, kAc2_c, kBag_b, kComp_c, kRev_c, kGc_c, kFl_c, compT_c, kCt_c, kCt2_t, kCt2_f, fnS_c, ssSeq_c, ssRet_c, ssRetF_c, ssRetOwn_c, ssRetN_c, ssAsg_c, ssAsgF_c, ssPar_c, ssParF_c, ssIf_c, ssExpr_c, ssNil_c, ssPass_c, ssBreak_c, ssCont_c, ssFor_c, ssFreeze_c, ssOwnM_c, sVar_c, sC_c, sBin_c, sUn_c, sTest_c, sNotT_c, sAndT_c, sOrT_c, sBorT_c, sAndV_c, sOrV_c, sNotV_c, sIf_c, sChain_c, stYes_c, sdNil_c, sdCons_c, sLst_c, sLen_c, sTup_c, sCallB_c, sCallL_c, sIsa_c, sSlice_c, soNone_c, soSome_c, sgName_c, sgOwn_c, sOwnIx_c, siSeq_c, siEnum_c, siZip_c, siRange1_c, siRange2_c, siRangeD_c, slR1_c, slR2_c, sCall_c, sCallN_c, saNil_c, saCons_c, saBag_c, sComp_c, sRevL_c, sgTup_t, sgCons_c, sgNil_n, freezeSl, setUn, Slot.inner, List.map_cons, List.map_nil, List.replicate, List.cons_append, List.nil_append, List.append_nil, List.getElem?_cons_zero, List.getElem?_cons_succ, List.set_cons_zero, List.set_cons_succ, List.length_cons, List.length_nil, and_assoc, Option.some.injEq, PyData.list.injEq, PyData.tuple.injEq, toL_n, Nat.sub_self, Nat.zero_add, Nat.reduceAdd, Nat.reduceSub, true_and, and_true, addD_ii, subD_ii, ltD_ii, leD_ii, gtD_ii, geD_ii, negD_i, mulD_i, fdivD_i, modD_i, itemsD_l, itemsD_t, tupleB_l, tupleB_t, listB_l, listB_t, lenB_l, lenB_t, intB_i, intB_b, fold2_i, appendM_1, ixN_len, reduceCtorEq, reduceIte, Bool.and_self, Bool.true_and, Bool.false_and, Bool.and_true, Bool.and_false, Bool.not_true, Bool.not_false, PyData.isTuple, PyData.isInt, PyData.isBool, PyData.isList, PyData.isStr, isBLT, sumB_l, List.length_map]
    refine ⟨by decide, ?_⟩
    refine sp_least (by omega) ?_
    simp -implicitDefEqProofs (disch := ((try simp only [List.length_map, List.length_append, List.length_cons, List.length_nil, List.length_take, List.length_drop, List.length_set, List.length_replicate, List.length_range, List.length_zipIdx, List.length_zip]); omega)) only [kVal_s, hold_c, kNx_c, kRt_c, kRtN_c, kAsg_c, kAsgF_c, kPar_c, kParF_c, kParF2_c, kExp_c, kFor_c, kIf_t, kIf_f, kIfV_t, kIfV_f, kOrT_t, kOrT_f, kAndT_t, kAndT_f, kNotT_c, kAnd_t, kAnd_f, kOr_t, kOr_f, kNot_b, kTest_b, kBin_c, kBin2_c, kUn_c, kChain_t, kChain_f, kCh1_c, kCh2_c, kRet_d, kRet_n, kRetN_n, kSome_i, kSlot_d, kDc_c, kDc2_c, kLst_c, kLen_c, kTup_c, kCB_c, kIsa_c, kSl1_c, kSl2_c, kSl3_c, kRtO_c, kOm_c, kOm2_c, kOm3_c, kSo_c, kSo2_c, kSo3_c, kOi_c, kOi2_c, kSeq_c, kEnum_c, kEnum2_c, kZip_c, kZip2_c, kZip3_c, kZip4_c, kRg1_c, kRg2_c, kRg2b_c, kRgD_c, kRgDb_c, kCall_c, kCallN_c, kAc_c, kAc2_c, kBag_b, kComp_c, kRev_c, kGc_c, kFl_c, compT_c, kCt_c, kCt2_t, kCt2_f, fnS_c, ssSeq_c, ssRet_c, ssRetF_c, ssRetOwn_c, ssRetN_c, ssAsg_c, ssAsgF_c, ssPar_c, ssParF_c, ssIf_c, ssExpr_c, ssNil_c, ssPass_c, ssBreak_c, ssCont_c, ssFor_c, ssFreeze_c, ssOwnM_c, sVar_c, sC_c, sBin_c, sUn_c, sTest_c, sNotT_c, sAndT_c, sOrT_c, sBorT_c, sAndV_c, sOrV_c, sNotV_c, sIf_c, sChain_c, stYes_c, sdNil_c, sdCons_c, sLst_c, sLen_c, sTup_c, sCallB_c, sCallL_c, sIsa_c, sSlice_c, soNone_c, soSome_c, sgName_c, sgOwn_c, sOwnIx_c, siSeq_c, siEnum_c, siZip_c, siRange1_c, siRange2_c, siRangeD_c, slR1_c, slR2_c, sCall_c, sCallN_c, saNil_c, saCons_c, saBag_c, sComp_c, sRevL_c, sgTup_t, sgCons_c, sgNil_n, freezeSl, setUn, Slot.inner, List.map_cons, List.map_nil, List.replicate, List.cons_append, List.nil_append, List.append_nil, List.getElem?_cons_zero, List.getElem?_cons_succ, List.set_cons_zero, List.set_cons_succ, List.length_cons, List.length_nil, and_assoc, Option.some.injEq, PyData.list.injEq, PyData.tuple.injEq, toL_n, Nat.sub_self, Nat.zero_add, Nat.reduceAdd, Nat.reduceSub, true_and, and_true, addD_ii, subD_ii, ltD_ii, leD_ii, gtD_ii, geD_ii, negD_i, mulD_i, fdivD_i, modD_i, itemsD_l, itemsD_t, tupleB_l, tupleB_t, listB_l, listB_t, lenB_l, lenB_t, intB_i, intB_b, fold2_i, appendM_1, ixN_len, reduceCtorEq, reduceIte, Bool.and_self, Bool.true_and, Bool.false_and, Bool.and_true, Bool.and_false, Bool.not_true, Bool.not_false, PyData.isTuple, PyData.isInt, PyData.isBool, PyData.isList, PyData.isStr, isBLT]
    rw [show r * (rs.length : Int) * ((rs.length : Int) + 1) / 2 - ((((rs.zipIdx 0).filter (other2 one other)).map (·.1)).sum) = bothOf rs r one other from rfl]
    refine ⟨by omega, by omega, ?_⟩
    rw [range_enc]
    refine lp12_unread (by omega) hn h1 h2 _ [] _ _ (by rw [List.length_map, List.length_range]; show _ + 0 ≤ 1000; omega) fun x9 x10 => ?_
    simp -implicitDefEqProofs (disch := ((try simp only [List.length_map, List.length_append, List.length_cons, List.length_nil, List.length_take, List.length_drop, List.length_set, List.length_replicate, List.length_range, List.length_zipIdx, List.length_zip]); omega)) only [kVal_s, hold_c, kNx_c, kRt_c, kRtN_c, kAsg_c, kAsgF_c, kPar_c, kParF_c, kParF2_c, kExp_c, kFor_c, kIf_t, kIf_f, kIfV_t, kIfV_f, kOrT_t, kOrT_f, kAndT_t, kAndT_f, kNotT_c, kAnd_t, kAnd_f, kOr_t, kOr_f, kNot_b, kTest_b, kBin_c, kBin2_c, kUn_c, kChain_t, kChain_f, kCh1_c, kCh2_c, kRet_d, kRet_n, kRetN_n, kSome_i, kSlot_d, kDc_c, kDc2_c, kLst_c, kLen_c, kTup_c, kCB_c, kIsa_c, kSl1_c, kSl2_c, kSl3_c, kRtO_c, kOm_c, kOm2_c, kOm3_c, kSo_c, kSo2_c, kSo3_c, kOi_c, kOi2_c, kSeq_c, kEnum_c, kEnum2_c, kZip_c, kZip2_c, kZip3_c, kZip4_c, kRg1_c, kRg2_c, kRg2b_c, kRgD_c, kRgDb_c, kCall_c, kCallN_c, kAc_c, kAc2_c, kBag_b, kComp_c, kRev_c, kGc_c, kFl_c, compT_c, kCt_c, kCt2_t, kCt2_f, fnS_c, ssSeq_c, ssRet_c, ssRetF_c, ssRetOwn_c, ssRetN_c, ssAsg_c, ssAsgF_c, ssPar_c, ssParF_c, ssIf_c, ssExpr_c, ssNil_c, ssPass_c, ssBreak_c, ssCont_c, ssFor_c, ssFreeze_c, ssOwnM_c, sVar_c, sC_c, sBin_c, sUn_c, sTest_c, sNotT_c, sAndT_c, sOrT_c, sBorT_c, sAndV_c, sOrV_c, sNotV_c, sIf_c, sChain_c, stYes_c, sdNil_c, sdCons_c, sLst_c, sLen_c, sTup_c, sCallB_c, sCallL_c, sIsa_c, sSlice_c, soNone_c, soSome_c, sgName_c, sgOwn_c, sOwnIx_c, siSeq_c, siEnum_c, siZip_c, siRange1_c, siRange2_c, siRangeD_c, slR1_c, slR2_c, sCall_c, sCallN_c, saNil_c, saCons_c, saBag_c, sComp_c, sRevL_c, sgTup_t, sgCons_c, sgNil_n, freezeSl, setUn, Slot.inner, List.map_cons, List.map_nil, List.replicate, List.cons_append, List.nil_append, List.append_nil, List.getElem?_cons_zero, List.getElem?_cons_succ, List.set_cons_zero, List.set_cons_succ, List.length_cons, List.length_nil, and_assoc, Option.some.injEq, PyData.list.injEq, PyData.tuple.injEq, toL_n, Nat.sub_self, Nat.zero_add, Nat.reduceAdd, Nat.reduceSub, true_and, and_true, addD_ii, subD_ii, ltD_ii, leD_ii, gtD_ii, geD_ii, negD_i, mulD_i, fdivD_i, modD_i, itemsD_l, itemsD_t, tupleB_l, tupleB_t, listB_l, listB_t, lenB_l, lenB_t, intB_i, intB_b, fold2_i, appendM_1, ixN_len, reduceCtorEq, reduceIte, Bool.and_self, Bool.true_and, Bool.false_and, Bool.and_true, Bool.and_false, Bool.not_true, Bool.not_false, PyData.isTuple, PyData.isInt, PyData.isBool, PyData.isList, PyData.isStr, isBLT]
    exact h
end PT
set_option maxHeartbeats 1000000
namespace PT
open PySem PySem.Spec PyProof.Rows L2 DL
/-! _law_same on one and the same; pairs; sorted lists -/
inductive OkD : Nat → D → Prop
  | none {n : Nat} : OkD n .none
  | bool {n : Nat} (b : Bool) : OkD n (.bool b)
  | int {n : Nat} (i : Int) : OkD n (.int i)
  | str {n : Nat} (s : Str) : OkD n (.str s)
  | list {n : Nat} {xs : List D} (h : xs.length ≤ 16000000) (hx : ∀ x ∈ xs, OkD n x) : OkD (n + 1) (.list xs)
  | tuple {n : Nat} {xs : List D} (h : xs.length ≤ 16000000) (hx : ∀ x ∈ xs, OkD n x) : OkD (n + 1) (.tuple xs)
theorem same_succ (n : Nat) : m__law_same_ (n + 1) = fnS 4 2 (b__law_same (m__law_same_ n)) := rfl
theorem eqD_ss {s : Str} : eqD (.str s) (.str s) = some (.bool true) := by
  unfold eqD
  rw [if_pos (show shal _ _ from Nat.le_trans (Nat.min_le_left _ _) (Nat.zero_le _))]
  show some (PyData.bool (s == s)) = _
  rw [beq_self_eq_true]
theorem zip_self : ∀ xs : List D, zipD xs xs = xs.map fun x => .tuple [x, x]
  | [] => rfl
  | x :: xs => by
    have := zip_self xs
    unfold zipD at this ⊢
    rw [List.zipWith_cons_cons, this, List.map_cons]
theorem all_true {α : Type} (xs : List α) : allB [.list (xs.map fun _ => PyData.bool true)] = some (.bool true) := by
  rw [show (xs.map fun _ => PyData.bool true) = (xs.map fun _ => true).map PyData.bool by rw [List.map_map]; rfl, allB_l]
  simp
theorem sp_same_ : ∀ (n : Nat) {d : D} {m : Nat} {F : Exc → Prop} {R : RV → Nat → Prop}, OkD n d → R (.dat (.bool true)) m → m__law_same_ (n + 1) [.dat d, .dat d] m F R
  | n, _, m, F, R, .none, h => by
    rw [same_succ]
    simp -implicitDefEqProofs (disch := ((try simp only [List.length_map, List.length_append, List.length_cons, List.length_nil, List.length_take, List.length_drop, List.length_set, List.length_replicate, List.length_range, List.length_zipIdx, List.length_zip]); omega)) only [kVal_s, hold_c, kNx_c, kRt_c, kRtN_c, kAsg_c, kAsgF_c, kPar_c, kParF_c, kParF2_c, kExp_c, kFor_c, kIf_t, kIf_f, kIfV_t, kIfV_f, kOrT_t, kOrT_f, kAndT_t, kAndT_f, kNotT_c, kAnd_t, kAnd_f, kOr_t, kOr_f, kNot_b, kTest_b, kBin_c, kBin2_c, kUn_c, kChain_t, kChain_f, kCh1_c, kCh2_c, kRet_d, kRet_n, kRetN_n, kSome_i, kSlot_d, kDc_c, kDc2_c, kLst_c, kLen_c, kTup_c, kCB_c, kIsa_c, kSl1_c, kSl2_c, kSl3_c, kRtO_c, kOm_c, kOm2_c, kOm3_c, kSo_c, kSo2_c, kSo3_c, kOi_c, kOi2_c, kSeq_c, kEnum_c, kEnum2_c, kZip_c, kZip2_c, kZip3_c, kZip4_c, kRg1_c, kRg2_c, kRg2b_c, kRgD_c, kRgDb_c, kCall_c, kCallN_c, kAc_c, kAc2_c, kBag_b, kComp_c, kRev_c, kGc_c, kFl_c, compT_c, kCt_c, kCt2_t, kCt2_f, fnS_c, ssSeq_c, ssRet_c, ssRetF_c, ssRetOwn_c, ssRetN_c, ssAsg_c, ssAsgF_c, ssPar_c, ssParF_c, ssIf_c, ssExpr_c, ssNil_c, ssPass_c, ssBreak_c, ssCont_c, ssFor_c, ssFreeze_c, ssOwnM_c, sVar_c, sC_c, sBin_c, sUn_c, sTest_c, sNotT_c, sAndT_c, sOrT_c, sBorT_c, sAndV_c, sOrV_c, sNotV_c, sIf_c, sChain_c, stYes_c, sdNil_c, sdCons_c, sLst_c, sLen_c, sTup_c, sCallB_c, sCallL_c, sIsa_c, sSlice_c, soNone_c, soSome_c, sgName_c, sgOwn_c, sOwnIx_c, siSeq_c, siEnum_c, siZip_c, siRange1_c, siRange2_c, siRangeD_c, slR1_c, slR2_c, sCall_c, sCallN_c, saNil_c, saCons_c, saBag_c, sComp_c, sRevL_c, sgTup_t, sgCons_c, sgNil_n, freezeSl, setUn, Slot.inner, List.map_cons, List.map_nil, List.replicate, List.cons_append, List.nil_append, List.append_nil, List.getElem?_cons_zero, List.getElem?_cons_succ, List.set_cons_zero, List.set_cons_succ, List.length_cons, List.length_nil, and_assoc, Option.some.injEq, PyData.list.injEq, PyData.tuple.injEq, toL_n, Nat.sub_self, Nat.zero_add, Nat.reduceAdd, Nat.reduceSub, true_and, and_true, addD_ii, subD_ii, ltD_ii, leD_ii, gtD_ii, geD_ii, negD_i, mulD_i, fdivD_i, modD_i, itemsD_l, itemsD_t, tupleB_l, tupleB_t, listB_l, listB_t, lenB_l, lenB_t, intB_i, intB_b, fold2_i, appendM_1, ixN_len, reduceCtorEq, reduceIte, Bool.and_self, Bool.true_and, Bool.false_and, Bool.and_true, Bool.and_false, Bool.not_true, Bool.not_false, PyData.isTuple, PyData.isInt, PyData.isBool, PyData.isList, PyData.isStr, isBLT, b__law_same, isD_n]
    rw [show PyData.eqv PyData.none PyData.none = true from rfl]
    simp -implicitDefEqProofs (disch := ((try simp only [List.length_map, List.length_append, List.length_cons, List.length_nil, List.length_take, List.length_drop, List.length_set, List.length_replicate, List.length_range, List.length_zipIdx, List.length_zip]); omega)) only [kVal_s, hold_c, kNx_c, kRt_c, kRtN_c, kAsg_c, kAsgF_c, kPar_c, kParF_c, kParF2_c, kExp_c, kFor_c, kIf_t, kIf_f, kIfV_t, kIfV_f, kOrT_t, kOrT_f, kAndT_t, kAndT_f, kNotT_c, kAnd_t, kAnd_f, kOr_t, kOr_f, kNot_b, kTest_b, kBin_c, kBin2_c, kUn_c, kChain_t, kChain_f, kCh1_c, kCh2_c, kRet_d, kRet_n, kRetN_n, kSome_i, kSlot_d, kDc_c, kDc2_c, kLst_c, kLen_c, kTup_c, kCB_c, kIsa_c, kSl1_c, kSl2_c, kSl3_c, kRtO_c, kOm_c, kOm2_c, kOm3_c, kSo_c, kSo2_c, kSo3_c, kOi_c, kOi2_c, kSeq_c, kEnum_c, kEnum2_c, kZip_c, kZip2_c, kZip3_c, kZip4_c, kRg1_c, kRg2_c, kRg2b_c, kRgD_c, kRgDb_c, kCall_c, kCallN_c, kAc_c, kAc2_c, kBag_b, kComp_c, kRev_c, kGc_c, kFl_c, compT_c, kCt_c, kCt2_t, kCt2_f, fnS_c, ssSeq_c, ssRet_c, ssRetF_c, ssRetOwn_c, ssRetN_c, ssAsg_c, ssAsgF_c, ssPar_c, ssParF_c, ssIf_c, ssExpr_c, ssNil_c, ssPass_c, ssBreak_c, ssCont_c, ssFor_c, ssFreeze_c, ssOwnM_c, sVar_c, sC_c, sBin_c, sUn_c, sTest_c, sNotT_c, sAndT_c, sOrT_c, sBorT_c, sAndV_c, sOrV_c, sNotV_c, sIf_c, sChain_c, stYes_c, sdNil_c, sdCons_c, sLst_c, sLen_c, sTup_c, sCallB_c, sCallL_c, sIsa_c, sSlice_c, soNone_c, soSome_c, sgName_c, sgOwn_c, sOwnIx_c, siSeq_c, siEnum_c, siZip_c, siRange1_c, siRange2_c, siRangeD_c, slR1_c, slR2_c, sCall_c, sCallN_c, saNil_c, saCons_c, saBag_c, sComp_c, sRevL_c, sgTup_t, sgCons_c, sgNil_n, freezeSl, setUn, Slot.inner, List.map_cons, List.map_nil, List.replicate, List.cons_append, List.nil_append, List.append_nil, List.getElem?_cons_zero, List.getElem?_cons_succ, List.set_cons_zero, List.set_cons_succ, List.length_cons, List.length_nil, and_assoc, Option.some.injEq, PyData.list.injEq, PyData.tuple.injEq, toL_n, Nat.sub_self, Nat.zero_add, Nat.reduceAdd, Nat.reduceSub, true_and, and_true, addD_ii, subD_ii, ltD_ii, leD_ii, gtD_ii, geD_ii, negD_i, mulD_i, fdivD_i, modD_i, itemsD_l, itemsD_t, tupleB_l, tupleB_t, listB_l, listB_t, lenB_l, lenB_t, intB_i, intB_b, fold2_i, appendM_1, ixN_len, reduceCtorEq, reduceIte, Bool.and_self, Bool.true_and, Bool.false_and, Bool.and_true, Bool.and_false, Bool.not_true, Bool.not_false, PyData.isTuple, PyData.isInt, PyData.isBool, PyData.isList, PyData.isStr, isBLT, isD_n]
    rw [show PyData.eqv PyData.none PyData.none = true from rfl]
    exact h
  | n, _, m, F, R, .bool b, h => by
    rw [same_succ]
    simp -implicitDefEqProofs (disch := ((try simp only [List.length_map, List.length_append, List.length_cons, List.length_nil, List.length_take, List.length_drop, List.length_set, List.length_replicate, List.length_range, List.length_zipIdx, List.length_zip]); omega)) only [kVal_s, hold_c, kNx_c, kRt_c, kRtN_c, kAsg_c, kAsgF_c, kPar_c, kParF_c, kParF2_c, kExp_c, kFor_c, kIf_t, kIf_f, kIfV_t, kIfV_f, kOrT_t, kOrT_f, kAndT_t, kAndT_f, kNotT_c, kAnd_t, kAnd_f, kOr_t, kOr_f, kNot_b, kTest_b, kBin_c, kBin2_c, kUn_c, kChain_t, kChain_f, kCh1_c, kCh2_c, kRet_d, kRet_n, kRetN_n, kSome_i, kSlot_d, kDc_c, kDc2_c, kLst_c, kLen_c, kTup_c, kCB_c, kIsa_c, kSl1_c, kSl2_c, kSl3_c, kRtO_c, kOm_c, kOm2_c, kOm3_c, kSo_c, kSo2_c, kSo3_c, kOi_c, kOi2_c, kSeq_c, kEnum_c, kEnum2_c, kZip_c, kZip2_c, kZip3_c, kZip4_c, kRg1_c, kRg2_c, kRg2b_c, kRgD_c, kRgDb_c, kCall_c, kCallN_c, kAc_c, kAc2_c, kBag_b, kComp_c, kRev_c, kGc_c, kFl_c, compT_c, kCt_c, kCt2_t, kCt2_f, fnS_c, ssSeq_c, ssRet_c, ssRetF_c, ssRetOwn_c, ssRetN_c, ssAsg_c, ssAsgF_c, ssPar_c, ssParF_c, ssIf_c, ssExpr_c, ssNil_c, ssPass_c, ssBreak_c, ssCont_c, ssFor_c, ssFreeze_c, ssOwnM_c, sVar_c, sC_c, sBin_c, sUn_c, sTest_c, sNotT_c, sAndT_c, sOrT_c, sBorT_c, sAndV_c, sOrV_c, sNotV_c, sIf_c, sChain_c, stYes_c, sdNil_c, sdCons_c, sLst_c, sLen_c, sTup_c, sCallB_c, sCallL_c, sIsa_c, sSlice_c, soNone_c, soSome_c, sgName_c, sgOwn_c, sOwnIx_c, siSeq_c, siEnum_c, siZip_c, siRange1_c, siRange2_c, siRangeD_c, slR1_c, slR2_c, sCall_c, sCallN_c, saNil_c, saCons_c, saBag_c, sComp_c, sRevL_c, sgTup_t, sgCons_c, sgNil_n, freezeSl, setUn, Slot.inner, List.map_cons, List.map_nil, List.replicate, List.cons_append, List.nil_append, List.append_nil, List.getElem?_cons_zero, List.getElem?_cons_succ, List.set_cons_zero, List.set_cons_succ, List.length_cons, List.length_nil, and_assoc, Option.some.injEq, PyData.list.injEq, PyData.tuple.injEq, toL_n, Nat.sub_self, Nat.zero_add, Nat.reduceAdd, Nat.reduceSub, true_and, and_true, addD_ii, subD_ii, ltD_ii, leD_ii, gtD_ii, geD_ii, negD_i, mulD_i, fdivD_i, modD_i, itemsD_l, itemsD_t, tupleB_l, tupleB_t, listB_l, listB_t, lenB_l, lenB_t, intB_i, intB_b, fold2_i, appendM_1, ixN_len, reduceCtorEq, reduceIte, Bool.and_self, Bool.true_and, Bool.false_and, Bool.and_true, Bool.and_false, Bool.not_true, Bool.not_false, PyData.isTuple, PyData.isInt, PyData.isBool, PyData.isList, PyData.isStr, isBLT, b__law_same, eqD_bb, decide_true]
    exact h
  | n, _, m, F, R, .int i, h => by
    rw [same_succ]
    simp -implicitDefEqProofs (disch := ((try simp only [List.length_map, List.length_append, List.length_cons, List.length_nil, List.length_take, List.length_drop, List.length_set, List.length_replicate, List.length_range, List.length_zipIdx, List.length_zip]); omega)) only [kVal_s, hold_c, kNx_c, kRt_c, kRtN_c, kAsg_c, kAsgF_c, kPar_c, kParF_c, kParF2_c, kExp_c, kFor_c, kIf_t, kIf_f, kIfV_t, kIfV_f, kOrT_t, kOrT_f, kAndT_t, kAndT_f, kNotT_c, kAnd_t, kAnd_f, kOr_t, kOr_f, kNot_b, kTest_b, kBin_c, kBin2_c, kUn_c, kChain_t, kChain_f, kCh1_c, kCh2_c, kRet_d, kRet_n, kRetN_n, kSome_i, kSlot_d, kDc_c, kDc2_c, kLst_c, kLen_c, kTup_c, kCB_c, kIsa_c, kSl1_c, kSl2_c, kSl3_c, kRtO_c, kOm_c, kOm2_c, kOm3_c, kSo_c, kSo2_c, kSo3_c, kOi_c, kOi2_c, kSeq_c, kEnum_c, kEnum2_c, kZip_c, kZip2_c, kZip3_c, kZip4_c, kRg1_c, kRg2_c, kRg2b_c, kRgD_c, kRgDb_c, kCall_c, kCallN_c, kAc_c, kAc2_c, kBag_b, kComp_c, kRev_c, kGc_c, kFl_c, compT_c, kCt_c, kCt2_t, kCt2_f, fnS_c, ssSeq_c, ssRet_c, ssRetF_c, ssRetOwn_c, ssRetN_c, ssAsg_c, ssAsgF_c, ssPar_c, ssParF_c, ssIf_c, ssExpr_c, ssNil_c, ssPass_c, ssBreak_c, ssCont_c, ssFor_c, ssFreeze_c, ssOwnM_c, sVar_c, sC_c, sBin_c, sUn_c, sTest_c, sNotT_c, sAndT_c, sOrT_c, sBorT_c, sAndV_c, sOrV_c, sNotV_c, sIf_c, sChain_c, stYes_c, sdNil_c, sdCons_c, sLst_c, sLen_c, sTup_c, sCallB_c, sCallL_c, sIsa_c, sSlice_c, soNone_c, soSome_c, sgName_c, sgOwn_c, sOwnIx_c, siSeq_c, siEnum_c, siZip_c, siRange1_c, siRange2_c, siRangeD_c, slR1_c, slR2_c, sCall_c, sCallN_c, saNil_c, saCons_c, saBag_c, sComp_c, sRevL_c, sgTup_t, sgCons_c, sgNil_n, freezeSl, setUn, Slot.inner, List.map_cons, List.map_nil, List.replicate, List.cons_append, List.nil_append, List.append_nil, List.getElem?_cons_zero, List.getElem?_cons_succ, List.set_cons_zero, List.set_cons_succ, List.length_cons, List.length_nil, and_assoc, Option.some.injEq, PyData.list.injEq, PyData.tuple.injEq, toL_n, Nat.sub_self, Nat.zero_add, Nat.reduceAdd, Nat.reduceSub, true_and, and_true, addD_ii, subD_ii, ltD_ii, leD_ii, gtD_ii, geD_ii, negD_i, mulD_i, fdivD_i, modD_i, itemsD_l, itemsD_t, tupleB_l, tupleB_t, listB_l, listB_t, lenB_l, lenB_t, intB_i, intB_b, fold2_i, appendM_1, ixN_len, reduceCtorEq, reduceIte, Bool.and_self, Bool.true_and, Bool.false_and, Bool.and_true, Bool.and_false, Bool.not_true, Bool.not_false, PyData.isTuple, PyData.isInt, PyData.isBool, PyData.isList, PyData.isStr, isBLT, b__law_same, eqD_i, decide_true]
    exact h
  | n, _, m, F, R, .str s, h => by
    rw [same_succ]
    simp -implicitDefEqProofs (disch := ((try simp only [List.length_map, List.length_append, List.length_cons, List.length_nil, List.length_take, List.length_drop, List.length_set, List.length_replicate, List.length_range, List.length_zipIdx, List.length_zip]); omega)) only [kVal_s, hold_c, kNx_c, kRt_c, kRtN_c, kAsg_c, kAsgF_c, kPar_c, kParF_c, kParF2_c, kExp_c, kFor_c, kIf_t, kIf_f, kIfV_t, kIfV_f, kOrT_t, kOrT_f, kAndT_t, kAndT_f, kNotT_c, kAnd_t, kAnd_f, kOr_t, kOr_f, kNot_b, kTest_b, kBin_c, kBin2_c, kUn_c, kChain_t, kChain_f, kCh1_c, kCh2_c, kRet_d, kRet_n, kRetN_n, kSome_i, kSlot_d, kDc_c, kDc2_c, kLst_c, kLen_c, kTup_c, kCB_c, kIsa_c, kSl1_c, kSl2_c, kSl3_c, kRtO_c, kOm_c, kOm2_c, kOm3_c, kSo_c, kSo2_c, kSo3_c, kOi_c, kOi2_c, kSeq_c, kEnum_c, kEnum2_c, kZip_c, kZip2_c, kZip3_c, kZip4_c, kRg1_c, kRg2_c, kRg2b_c, kRgD_c, kRgDb_c, kCall_c, kCallN_c, kAc_c, kAc2_c, kBag_b, kComp_c, kRev_c, kGc_c, kFl_c, compT_c, kCt_c, kCt2_t, kCt2_f, fnS_c, ssSeq_c, ssRet_c, ssRetF_c, ssRetOwn_c, ssRetN_c, ssAsg_c, ssAsgF_c, ssPar_c, ssParF_c, ssIf_c, ssExpr_c, ssNil_c, ssPass_c, ssBreak_c, ssCont_c, ssFor_c, ssFreeze_c, ssOwnM_c, sVar_c, sC_c, sBin_c, sUn_c, sTest_c, sNotT_c, sAndT_c, sOrT_c, sBorT_c, sAndV_c, sOrV_c, sNotV_c, sIf_c, sChain_c, stYes_c, sdNil_c, sdCons_c, sLst_c, sLen_c, sTup_c, sCallB_c, sCallL_c, sIsa_c, sSlice_c, soNone_c, soSome_c, sgName_c, sgOwn_c, sOwnIx_c, siSeq_c, siEnum_c, siZip_c, siRange1_c, siRange2_c, siRangeD_c, slR1_c, slR2_c, sCall_c, sCallN_c, saNil_c, saCons_c, saBag_c, sComp_c, sRevL_c, sgTup_t, sgCons_c, sgNil_n, freezeSl, setUn, Slot.inner, List.map_cons, List.map_nil, List.replicate, List.cons_append, List.nil_append, List.append_nil, List.getElem?_cons_zero, List.getElem?_cons_succ, List.set_cons_zero, List.set_cons_succ, List.length_cons, List.length_nil, and_assoc, Option.some.injEq, PyData.list.injEq, PyData.tuple.injEq, toL_n, Nat.sub_self, Nat.zero_add, Nat.reduceAdd, Nat.reduceSub, true_and, and_true, addD_ii, subD_ii, ltD_ii, leD_ii, gtD_ii, geD_ii, negD_i, mulD_i, fdivD_i, modD_i, itemsD_l, itemsD_t, tupleB_l, tupleB_t, listB_l, listB_t, lenB_l, lenB_t, intB_i, intB_b, fold2_i, appendM_1, ixN_len, reduceCtorEq, reduceIte, Bool.and_self, Bool.true_and, Bool.false_and, Bool.and_true, Bool.and_false, Bool.not_true, Bool.not_false, PyData.isTuple, PyData.isInt, PyData.isBool, PyData.isList, PyData.isStr, isBLT, b__law_same, eqD_ss]
    exact h
  | n + 1, _, m, F, R, .list (xs := xs) hl hx, h => by
    rw [same_succ]
    simp -implicitDefEqProofs (disch := ((try simp only [List.length_map, List.length_append, List.length_cons, List.length_nil, List.length_take, List.length_drop, List.length_set, List.length_replicate, List.length_range, List.length_zipIdx, List.length_zip]); omega)) only [kVal_s, hold_c, kNx_c, kRt_c, kRtN_c, kAsg_c, kAsgF_c, kPar_c, kParF_c, kParF2_c, kExp_c, kFor_c, kIf_t, kIf_f, kIfV_t, kIfV_f, kOrT_t, kOrT_f, kAndT_t, kAndT_f, kNotT_c, kAnd_t, kAnd_f, kOr_t, kOr_f, kNot_b, kTest_b, kBin_c, kBin2_c, kUn_c, kChain_t, kChain_f, kCh1_c, kCh2_c, kRet_d, kRet_n, kRetN_n, kSome_i, kSlot_d, kDc_c, kDc2_c, kLst_c, kLen_c, kTup_c, kCB_c, kIsa_c, kSl1_c, kSl2_c, kSl3_c, kRtO_c, kOm_c, kOm2_c, kOm3_c, kSo_c, kSo2_c, kSo3_c, kOi_c, kOi2_c, kSeq_c, kEnum_c, kEnum2_c, kZip_c, kZip2_c, kZip3_c, kZip4_c, kRg1_c, kRg2_c, kRg2b_c, kRgD_c, kRgDb_c, kCall_c, kCallN_c, kAc_c, kAc2_c, kBag_b, kComp_c, kRev_c, kGc_c, kFl_c, compT_c, kCt_c, kCt2_t, kCt2_f, fnS_c, ssSeq_c, ssRet_c, ssRetF_c, ssRetOwn_c, ssRetN_c, ssAsg_c, ssAsgF_c, ssPar_c, ssParF_c, ssIf_c, ssExpr_c, ssNil_c, ssPass_c, ssBreak_c, ssCont_c, ssFor_c, ssFreeze_c, ssOwnM_c, sVar_c, sC_c, sBin_c, sUn_c, sTest_c, sNotT_c, sAndT_c, sOrT_c, sBorT_c, sAndV_c, sOrV_c, sNotV_c, sIf_c, sChain_c, stYes_c, sdNil_c, sdCons_c, sLst_c, sLen_c, sTup_c, sCallB_c, sCallL_c, sIsa_c, sSlice_c, soNone_c, soSome_c, sgName_c, sgOwn_c, sOwnIx_c, siSeq_c, siEnum_c, siZip_c, siRange1_c, siRange2_c, siRangeD_c, slR1_c, slR2_c, sCall_c, sCallN_c, saNil_c, saCons_c, saBag_c, sComp_c, sRevL_c, sgTup_t, sgCons_c, sgNil_n, freezeSl, setUn, Slot.inner, List.map_cons, List.map_nil, List.replicate, List.cons_append, List.nil_append, List.append_nil, List.getElem?_cons_zero, List.getElem?_cons_succ, List.set_cons_zero, List.set_cons_succ, List.length_cons, List.length_nil, and_assoc, Option.some.injEq, PyData.list.injEq, PyData.tuple.injEq, toL_n, Nat.sub_self, Nat.zero_add, Nat.reduceAdd, Nat.reduceSub, true_and, and_true, addD_ii, subD_ii, ltD_ii, leD_ii, gtD_ii, geD_ii, negD_i, mulD_i, fdivD_i, modD_i, itemsD_l, itemsD_t, tupleB_l, tupleB_t, listB_l, listB_t, lenB_l, lenB_t, intB_i, intB_b, fold2_i, appendM_1, ixN_len, reduceCtorEq, reduceIte, Bool.and_self, Bool.true_and, Bool.false_and, Bool.and_true, Bool.and_false, Bool.not_true, Bool.not_false, PyData.isTuple, PyData.isInt, PyData.isBool, PyData.isList, PyData.isStr, isBLT, b__law_same, eqD_i, decide_true]
    rw [zip_self]
    refine ⟨by rw [List.length_map]; exact hl, compL_map (fun x => .tuple [x, x]) (fun _ => .bool true) _ _ (fun x hxm K N hk => ?_) ?_⟩
    · simp -implicitDefEqProofs (disch := ((try simp only [List.length_map, List.length_append, List.length_cons, List.length_nil, List.length_take, List.length_drop, List.length_set, List.length_replicate, List.length_range, List.length_zipIdx, List.length_zip]); omega)) only [kVal_s, hold_c, kNx_c, kRt_c, kRtN_c, kAsg_c, kAsgF_c, kPar_c, kParF_c, kParF2_c, kExp_c, kFor_c, kIf_t, kIf_f, kIfV_t, kIfV_f, kOrT_t, kOrT_f, kAndT_t, kAndT_f, kNotT_c, kAnd_t, kAnd_f, kOr_t, kOr_f, kNot_b, kTest_b, kBin_c, kBin2_c, kUn_c, kChain_t, kChain_f, kCh1_c, kCh2_c, kRet_d, kRet_n, kRetN_n, kSome_i, kSlot_d, kDc_c, kDc2_c, kLst_c, kLen_c, kTup_c, kCB_c, kIsa_c, kSl1_c, kSl2_c, kSl3_c, kRtO_c, kOm_c, kOm2_c, kOm3_c, kSo_c, kSo2_c, kSo3_c, kOi_c, kOi2_c, kSeq_c, kEnum_c, kEnum2_c, kZip_c, kZip2_c, kZip3_c, kZip4_c, kRg1_c, kRg2_c, kRg2b_c, kRgD_c, kRgDb_c, kCall_c, kCallN_c, kAc_c, kAc2_c, kBag_b, kComp_c, kRev_c, kGc_c, kFl_c, compT_c, kCt_c, kCt2_t, kCt2_f, fnS_c, ssSeq_c, ssRet_c, ssRetF_c, ssRetOwn_c, ssRetN_c, ssAsg_c, ssAsgF_c, ssPar_c, ssParF_c, ssIf_c, ssExpr_c, ssNil_c, ssPass_c, ssBreak_c, ssCont_c, ssFor_c, ssFreeze_c, ssOwnM_c, sVar_c, sC_c, sBin_c, sUn_c, sTest_c, sNotT_c, sAndT_c, sOrT_c, sBorT_c, sAndV_c, sOrV_c, sNotV_c, sIf_c, sChain_c, stYes_c, sdNil_c, sdCons_c, sLst_c, sLen_c, sTup_c, sCallB_c, sCallL_c, sIsa_c, sSlice_c, soNone_c, soSome_c, sgName_c, sgOwn_c, sOwnIx_c, siSeq_c, siEnum_c, siZip_c, siRange1_c, siRange2_c, siRangeD_c, slR1_c, slR2_c, sCall_c, sCallN_c, saNil_c, saCons_c, saBag_c, sComp_c, sRevL_c, sgTup_t, sgCons_c, sgNil_n, freezeSl, setUn, Slot.inner, List.map_cons, List.map_nil, List.replicate, List.cons_append, List.nil_append, List.append_nil, List.getElem?_cons_zero, List.getElem?_cons_succ, List.set_cons_zero, List.set_cons_succ, List.length_cons, List.length_nil, and_assoc, Option.some.injEq, PyData.list.injEq, PyData.tuple.injEq, toL_n, Nat.sub_self, Nat.zero_add, Nat.reduceAdd, Nat.reduceSub, true_and, and_true, addD_ii, subD_ii, ltD_ii, leD_ii, gtD_ii, geD_ii, negD_i, mulD_i, fdivD_i, modD_i, itemsD_l, itemsD_t, tupleB_l, tupleB_t, listB_l, listB_t, lenB_l, lenB_t, intB_i, intB_b, fold2_i, appendM_1, ixN_len, reduceCtorEq, reduceIte, Bool.and_self, Bool.true_and, Bool.false_and, Bool.and_true, Bool.and_false, Bool.not_true, Bool.not_false, PyData.isTuple, PyData.isInt, PyData.isBool, PyData.isList, PyData.isStr, isBLT, e1__law_same]
      refine sp_same_ n (hx x hxm) ?_
      simp -implicitDefEqProofs (disch := ((try simp only [List.length_map, List.length_append, List.length_cons, List.length_nil, List.length_take, List.length_drop, List.length_set, List.length_replicate, List.length_range, List.length_zipIdx, List.length_zip]); omega)) only [kVal_s, hold_c, kNx_c, kRt_c, kRtN_c, kAsg_c, kAsgF_c, kPar_c, kParF_c, kParF2_c, kExp_c, kFor_c, kIf_t, kIf_f, kIfV_t, kIfV_f, kOrT_t, kOrT_f, kAndT_t, kAndT_f, kNotT_c, kAnd_t, kAnd_f, kOr_t, kOr_f, kNot_b, kTest_b, kBin_c, kBin2_c, kUn_c, kChain_t, kChain_f, kCh1_c, kCh2_c, kRet_d, kRet_n, kRetN_n, kSome_i, kSlot_d, kDc_c, kDc2_c, kLst_c, kLen_c, kTup_c, kCB_c, kIsa_c, kSl1_c, kSl2_c, kSl3_c, kRtO_c, kOm_c, kOm2_c, kOm3_c, kSo_c, kSo2_c, kSo3_c, kOi_c, kOi2_c, kSeq_c, kEnum_c, kEnum2_c, kZip_c, kZip2_c, kZip3_c, kZip4_c, kRg1_c, kRg2_c, kRg2b_c, kRgD_c, kRgDb_c, kCall_c, kCallN_c, kAc_c, kAc2_c, kBag_b, kComp_c, kRev_c, kGc_c, kFl_c, compT_c, kCt_c, kCt2_t, kCt2_f, fnS_c, ssSeq_c, ssRet_c, ssRetF_c, ssRetOwn_c, ssRetN_c, ssAsg_c, ssAsgF_c, ssPar_c, ssParF_c, ssIf_c, ssExpr_c, ssNil_c, ssPass_c, ssBreak_c, ssCont_c, ssFor_c, ssFreeze_c, ssOwnM_c, sVar_c, sC_c, sBin_c, sUn_c, sTest_c, sNotT_c, sAndT_c, sOrT_c, sBorT_c, sAndV_c, sOrV_c, sNotV_c, sIf_c, sChain_c, stYes_c, sdNil_c, sdCons_c, sLst_c, sLen_c, sTup_c, sCallB_c, sCallL_c, sIsa_c, sSlice_c, soNone_c, soSome_c, sgName_c, sgOwn_c, sOwnIx_c, siSeq_c, siEnum_c, siZip_c, siRange1_c, siRange2_c, siRangeD_c, slR1_c, slR2_c, sCall_c, sCallN_c, saNil_c, saCons_c, saBag_c, sComp_c, sRevL_c, sgTup_t, sgCons_c, sgNil_n, freezeSl, setUn, Slot.inner, List.map_cons, List.map_nil, List.replicate, List.cons_append, List.nil_append, List.append_nil, List.getElem?_cons_zero, List.getElem?_cons_succ, List.set_cons_zero, List.set_cons_succ, List.length_cons, List.length_nil, and_assoc, Option.some.injEq, PyData.list.injEq, PyData.tuple.injEq, toL_n, Nat.sub_self, Nat.zero_add, Nat.reduceAdd, Nat.reduceSub, true_and, and_true, addD_ii, subD_ii, ltD_ii, leD_ii, gtD_ii, geD_ii, negD_i, mulD_i, fdivD_i, modD_i, itemsD_l, itemsD_t, tupleB_l, tupleB_t, listB_l, listB_t, lenB_l, lenB_t, intB_i, intB_b, fold2_i, appendM_1, ixN_len, reduceCtorEq, reduceIte, Bool.and_self, Bool.true_and, Bool.false_and, Bool.and_true, Bool.and_false, Bool.not_true, Bool.not_false, PyData.isTuple, PyData.isInt, PyData.isBool, PyData.isList, PyData.isStr, isBLT]
      exact hk
    · simp -implicitDefEqProofs (disch := ((try simp only [List.length_map, List.length_append, List.length_cons, List.length_nil, List.length_take, List.length_drop, List.length_set, List.length_replicate, List.length_range, List.length_zipIdx, List.length_zip]); omega)) only [kVal_s, hold_c, kNx_c, kRt_c, kRtN_c, kAsg_c, kAsgF_c, kPar_c, kParF_c, kParF2_c, kExp_c, kFor_c, kIf_t, kIf_f, kIfV_t, kIfV_f, kOrT_t, kOrT_f, kAndT_t, kAndT_f, kNotT_c, kAnd_t, kAnd_f, kOr_t, kOr_f, kNot_b, kTest_b, kBin_c, kBin2_c, kUn_c, kChain_t, kChain_f, kCh1_c, kCh2_c, kRet_d, kRet_n, kRetN_n, kSome_i, kSlot_d, kDc_c, kDc2_c, kLst_c, kLen_c, kTup_c, kCB_c, kIsa_c, kSl1_c, kSl2_c, kSl3_c, kRtO_c, kOm_c, kOm2_c, kOm3_c, kSo_c, kSo2_c, kSo3_c, kOi_c, kOi2_c, kSeq_c, kEnum_c, kEnum2_c, kZip_c, kZip2_c, kZip3_c, kZip4_c, kRg1_c, kRg2_c, kRg2b_c, kRgD_c, kRgDb_c, kCall_c, kCallN_c, kAc_c, kAc2_c, kBag_b, kComp_c, kRev_c, kGc_c, kFl_c, compT_c, kCt_c, kCt2_t, kCt2_f, fnS_c, ssSeq_c, ssRet_c, ssRetF_c, ssRetOwn_c, ssRetN_c, ssAsg_c, ssAsgF_c, ssPar_c, ssParF_c, ssIf_c, ssExpr_c, ssNil_c, ssPass_c, ssBreak_c, ssCont_c, ssFor_c, ssFreeze_c, ssOwnM_c, sVar_c, sC_c, sBin_c, sUn_c, sTest_c, sNotT_c, sAndT_c, sOrT_c, sBorT_c, sAndV_c, sOrV_c, sNotV_c, sIf_c, sChain_c, stYes_c, sdNil_c, sdCons_c, sLst_c, sLen_c, sTup_c, sCallB_c, sCallL_c, sIsa_c, sSlice_c, soNone_c, soSome_c, sgName_c, sgOwn_c, sOwnIx_c, siSeq_c, siEnum_c, siZip_c, siRange1_c, siRange2_c, siRangeD_c, slR1_c, slR2_c, sCall_c, sCallN_c, saNil_c, saCons_c, saBag_c, sComp_c, sRevL_c, sgTup_t, sgCons_c, sgNil_n, freezeSl, setUn, Slot.inner, List.map_cons, List.map_nil, List.replicate, List.cons_append, List.nil_append, List.append_nil, List.getElem?_cons_zero, List.getElem?_cons_succ, List.set_cons_zero, List.set_cons_succ, List.length_cons, List.length_nil, and_assoc, Option.some.injEq, PyData.list.injEq, PyData.tuple.injEq, toL_n, Nat.sub_self, Nat.zero_add, Nat.reduceAdd, Nat.reduceSub, true_and, and_true, addD_ii, subD_ii, ltD_ii, leD_ii, gtD_ii, geD_ii, negD_i, mulD_i, fdivD_i, modD_i, itemsD_l, itemsD_t, tupleB_l, tupleB_t, listB_l, listB_t, lenB_l, lenB_t, intB_i, intB_b, fold2_i, appendM_1, ixN_len, reduceCtorEq, reduceIte, Bool.and_self, Bool.true_and, Bool.false_and, Bool.and_true, Bool.and_false, Bool.not_true, Bool.not_false, PyData.isTuple, PyData.isInt, PyData.isBool, PyData.isList, PyData.isStr, isBLT, all_true]
      exact h
  | n + 1, _, m, F, R, .tuple (xs := xs) hl hx, h => by
    rw [same_succ]
    simp -implicitDefEqProofs (disch := ((try simp only [List.length_map, List.length_append, List.length_cons, List.length_nil, List.length_take, List.length_drop, List.length_set, List.length_replicate, List.length_range, List.length_zipIdx, List.length_zip]); omega)) only [kVal_s, hold_c, kNx_c, kRt_c, kRtN_c, kAsg_c, kAsgF_c, kPar_c, kParF_c, kParF2_c, kExp_c, kFor_c, kIf_t, kIf_f, kIfV_t, kIfV_f, kOrT_t, kOrT_f, kAndT_t, kAndT_f, kNotT_c, kAnd_t, kAnd_f, kOr_t, kOr_f, kNot_b, kTest_b, kBin_c, kBin2_c, kUn_c, kChain_t, kChain_f, kCh1_c, kCh2_c, kRet_d, kRet_n, kRetN_n, kSome_i, kSlot_d, kDc_c, kDc2_c, kLst_c, kLen_c, kTup_c, kCB_c, kIsa_c, kSl1_c, kSl2_c, kSl3_c, kRtO_c, kOm_c, kOm2_c, kOm3_c, kSo_c, kSo2_c, kSo3_c, kOi_c, kOi2_c, kSeq_c, kEnum_c, kEnum2_c, kZip_c, kZip2_c, kZip3_c, kZip4_c, kRg1_c, kRg2_c, kRg2b_c, kRgD_c, kRgDb_c, kCall_c, kCallN_c, kAc_c, kAc2_c, kBag_b, kComp_c, kRev_c, kGc_c, kFl_c, compT_c, kCt_c, kCt2_t, kCt2_f, fnS_c, ssSeq_c, ssRet_c, ssRetF_c, ssRetOwn_c, ssRetN_c, ssAsg_c, ssAsgF_c, ssPar_c, ssParF_c, ssIf_c, ssExpr_c, ssNil_c, ssPass_c, ssBreak_c, ssCont_c, ssFor_c, ssFreeze_c, ssOwnM_c, sVar_c, sC_c, sBin_c, sUn_c, sTest_c, sNotT_c, sAndT_c, sOrT_c, sBorT_c, sAndV_c, sOrV_c, sNotV_c, sIf_c, sChain_c, stYes_c, sdNil_c, sdCons_c, sLst_c, sLen_c, sTup_c, sCallB_c, sCallL_c, sIsa_c, sSlice_c, soNone_c, soSome_c, sgName_c, sgOwn_c, sOwnIx_c, siSeq_c, siEnum_c, siZip_c, siRange1_c, siRange2_c, siRangeD_c, slR1_c, slR2_c, sCall_c, sCallN_c, saNil_c, saCons_c, saBag_c, sComp_c, sRevL_c, sgTup_t, sgCons_c, sgNil_n, freezeSl, setUn, Slot.inner, List.map_cons, List.map_nil, List.replicate, List.cons_append, List.nil_append, List.append_nil, List.getElem?_cons_zero, List.getElem?_cons_succ, List.set_cons_zero, List.set_cons_succ, List.length_cons, List.length_nil, and_assoc, Option.some.injEq, PyData.list.injEq, PyData.tuple.injEq, toL_n, Nat.sub_self, Nat.zero_add, Nat.reduceAdd, Nat.reduceSub, true_and, and_true, addD_ii, subD_ii, ltD_ii, leD_ii, gtD_ii, geD_ii, negD_i, mulD_i, fdivD_i, modD_i, itemsD_l, itemsD_t, tupleB_l, tupleB_t, listB_l, listB_t, lenB_l, lenB_t, intB_i, intB_b, fold2_i, appendM_1, ixN_len, reduceCtorEq, reduceIte, Bool.and_self, Bool.true_and, Bool.false_and, Bool.and_true, Bool.and_false, Bool.not_true, Bool.not_false, PyData.isTuple, PyData.isInt, PyData.isBool, PyData.isList, PyData.isStr, isBLT, b__law_same, eqD_i, decide_true]
    rw [zip_self]
    refine ⟨by rw [List.length_map]; exact hl, compL_map (fun x => .tuple [x, x]) (fun _ => .bool true) _ _ (fun x hxm K N hk => ?_) ?_⟩
    · simp -implicitDefEqProofs (disch := ((try simp only [List.length_map, List.length_append, List.length_cons, List.length_nil, List.length_take, List.length_drop, List.length_set, List.length_replicate, List.length_range, List.length_zipIdx, List.length_zip]); omega)) only [kVal_s, hold_c, kNx_c, kRt_c, kRtN_c, kAsg_c, kAsgF_c, kPar_c, kParF_c, kParF2_c, kExp_c, kFor_c, kIf_t, kIf_f, kIfV_t, kIfV_f, kOrT_t, kOrT_f, kAndT_t, kAndT_f, kNotT_c, kAnd_t, kAnd_f, kOr_t, kOr_f, kNot_b, kTest_b, kBin_c, kBin2_c, kUn_c, kChain_t, kChain_f, kCh1_c, kCh2_c, kRet_d, kRet_n, kRetN_n, kSome_i, kSlot_d, kDc_c, kDc2_c, kLst_c, kLen_c, kTup_c, kCB_c, kIsa_c, kSl1_c, kSl2_c, kSl3_c, kRtO_c, kOm_c, kOm2_c, kOm3_c, kSo_c, kSo2_c, kSo3_c, kOi_c, kOi2_c, kSeq_c, kEnum_c, kEnum2_c, kZip_c, kZip2_c, kZip3_c, kZip4_c, kRg1_c, kRg2_c, kRg2b_c, kRgD_c, kRgDb_c, kCall_c, kCallN_c, kAc_c, kAc2_c, kBag_b, kComp_c, kRev_c, kGc_c, kFl_c, compT_c, kCt_c, kCt2_t, kCt2_f, fnS_c, ssSeq_c, ssRet_c, ssRetF_c, ssRetOwn_c, ssRetN_c, ssAsg_c, ssAsgF_c, ssPar_c, ssParF_c, ssIf_c, ssExpr_c, ssNil_c, ssPass_c, ssBreak_c, ssCont_c, ssFor_c, ssFreeze_c, ssOwnM_c, sVar_c, sC_c, sBin_c, sUn_c, sTest_c, sNotT_c, sAndT_c, sOrT_c, sBorT_c, sAndV_c, sOrV_c, sNotV_c, sIf_c, sChain_c, stYes_c, sdNil_c, sdCons_c, sLst_c, sLen_c, sTup_c, sCallB_c, sCallL_c, sIsa_c, sSlice_c, soNone_c, soSome_c, sgName_c, sgOwn_c, sOwnIx_c, siSeq_c, siEnum_c, siZip_c, siRange1_c, siRange2_c, siRangeD_c, slR1_c, slR2_c, sCall_c, sCallN_c, saNil_c, saCons_c, saBag_c, sComp_c, sRevL_c, sgTup_t, sgCons_c, sgNil_n, freezeSl, setUn, Slot.inner, List.map_cons, List.map_nil, List.replicate, List.cons_append, List.nil_append, List.append_nil, List.getElem?_cons_zero, List.getElem?_cons_succ, List.set_cons_zero, List.set_cons_succ, List.length_cons, List.length_nil, and_assoc, Option.some.injEq, PyData.list.injEq, PyData.tuple.injEq, toL_n, Nat.sub_self, Nat.zero_add, Nat.reduceAdd, Nat.reduceSub, true_and, and_true, addD_ii, subD_ii, ltD_ii, leD_ii, gtD_ii, geD_ii, negD_i, mulD_i, fdivD_i, modD_i, itemsD_l, itemsD_t, tupleB_l, tupleB_t, listB_l, listB_t, lenB_l, lenB_t, intB_i, intB_b, fold2_i, appendM_1, ixN_len, reduceCtorEq, reduceIte, Bool.and_self, Bool.true_and, Bool.false_and, Bool.and_true, Bool.and_false, Bool.not_true, Bool.not_false, PyData.isTuple, PyData.isInt, PyData.isBool, PyData.isList, PyData.isStr, isBLT, e1__law_same]
      refine sp_same_ n (hx x hxm) ?_
      simp -implicitDefEqProofs (disch := ((try simp only [List.length_map, List.length_append, List.length_cons, List.length_nil, List.length_take, List.length_drop, List.length_set, List.length_replicate, List.length_range, List.length_zipIdx, List.length_zip]); omega)) only [kVal_s, hold_c, kNx_c, kRt_c, kRtN_c, kAsg_c, kAsgF_c, kPar_c, kParF_c, kParF2_c, kExp_c, kFor_c, kIf_t, kIf_f, kIfV_t, kIfV_f, kOrT_t, kOrT_f, kAndT_t, kAndT_f, kNotT_c, kAnd_t, kAnd_f, kOr_t, kOr_f, kNot_b, kTest_b, kBin_c, kBin2_c, kUn_c, kChain_t, kChain_f, kCh1_c, kCh2_c, kRet_d, kRet_n, kRetN_n, kSome_i, kSlot_d, kDc_c, kDc2_c, kLst_c, kLen_c, kTup_c, kCB_c, kIsa_c, kSl1_c, kSl2_c, kSl3_c, kRtO_c, kOm_c, kOm2_c, kOm3_c, kSo_c, kSo2_c, kSo3_c, kOi_c, kOi2_c, kSeq_c, kEnum_c, kEnum2_c, kZip_c, kZip2_c, kZip3_c, kZip4_c, kRg1_c, kRg2_c, kRg2b_c, kRgD_c, kRgDb_c, kCall_c, kCallN_c, kAc_c, kAc2_c, kBag_b, kComp_c, kRev_c, kGc_c, kFl_c, compT_c, kCt_c, kCt2_t, kCt2_f, fnS_c, ssSeq_c, ssRet_c, ssRetF_c, ssRetOwn_c, ssRetN_c, ssAsg_c, ssAsgF_c, ssPar_c, ssParF_c, ssIf_c, ssExpr_c, ssNil_c, ssPass_c, ssBreak_c, ssCont_c, ssFor_c, ssFreeze_c, ssOwnM_c, sVar_c, sC_c, sBin_c, sUn_c, sTest_c, sNotT_c, sAndT_c, sOrT_c, sBorT_c, sAndV_c, sOrV_c, sNotV_c, sIf_c, sChain_c, stYes_c, sdNil_c, sdCons_c, sLst_c, sLen_c, sTup_c, sCallB_c, sCallL_c, sIsa_c, sSlice_c, soNone_c, soSome_c, sgName_c, sgOwn_c, sOwnIx_c, siSeq_c, siEnum_c, siZip_c, siRange1_c, siRange2_c, siRangeD_c, slR1_c, slR2_c, sCall_c, sCallN_c, saNil_c, saCons_c, saBag_c, sComp_c, sRevL_c, sgTup_t, sgCons_c, sgNil_n, freezeSl, setUn, Slot.inner, List.map_cons, List.map_nil, List.replicate, List.cons_append, List.nil_append, List.append_nil, List.getElem?_cons_zero, List.getElem?_cons_succ, List.set_cons_zero, List.set_cons_succ, List.length_cons, List.length_nil, and_assoc, Option.some.injEq, PyData.list.injEq, PyData.tuple.injEq, toL_n, Nat.sub_self, Nat.zero_add, Nat.reduceAdd, Nat.reduceSub, true_and, and_true, addD_ii, subD_ii, ltD_ii, leD_ii, gtD_ii, geD_ii, negD_i, mulD_i, fdivD_i, modD_i, itemsD_l, itemsD_t, tupleB_l, tupleB_t, listB_l, listB_t, lenB_l, lenB_t, intB_i, intB_b, fold2_i, appendM_1, ixN_len, reduceCtorEq, reduceIte, Bool.and_self, Bool.true_and, Bool.false_and, Bool.and_true, Bool.and_false, Bool.not_true, Bool.not_false, PyData.isTuple, PyData.isInt, PyData.isBool, PyData.isList, PyData.isStr, isBLT]
      exact hk
    · simp -implicitDefEqProofs (disch := ((try simp only [List.length_map, List.length_append, List.length_cons, List.length_nil, List.length_take, List.length_drop, List.length_set, List.length_replicate, List.length_range, List.length_zipIdx, List.length_zip]); omega)) only [kVal_s, hold_c, kNx_c, kRt_c, kRtN_c, kAsg_c, kAsgF_c, kPar_c, kParF_c, kParF2_c, kExp_c, kFor_c, kIf_t, kIf_f, kIfV_t, kIfV_f, kOrT_t, kOrT_f, kAndT_t, kAndT_f, kNotT_c, kAnd_t, kAnd_f, kOr_t, kOr_f, kNot_b, kTest_b, kBin_c, kBin2_c, kUn_c, kChain_t, kChain_f, kCh1_c, kCh2_c, kRet_d, kRet_n, kRetN_n, kSome_i, kSlot_d, kDc_c, kDc2_c, kLst_c, kLen_c, kTup_c, kCB_c, kIsa_c, kSl1_c, kSl2_c, kSl3_c, kRtO_c, kOm_c, kOm2_c, kOm3_c, kSo_c, kSo2_c, kSo3_c, kOi_c, kOi2_c, kSeq_c, kEnum_c, kEnum2_c, kZip_c, kZip2_c, kZip3_c, kZip4_c, kRg1_c, kRg2_c, kRg2b_c, kRgD_c, kRgDb_c, kCall_c, kCallN_c, kAc_c, kAc2_c, kBag_b, kComp_c, kRev_c, kGc_c, kFl_c, compT_c, kCt_c, kCt2_t, kCt2_f, fnS_c, ssSeq_c, ssRet_c, ssRetF_c, ssRetOwn_c, ssRetN_c, ssAsg_c, ssAsgF_c, ssPar_c, ssParF_c, ssIf_c, ssExpr_c, ssNil_c, ssPass_c, ssBreak_c, ssCont_c, ssFor_c, ssFreeze_c, ssOwnM_c, sVar_c, sC_c, sBin_c, sUn_c, sTest_c, sNotT_c, sAndT_c, sOrT_c, sBorT_c, sAndV_c, sOrV_c, sNotV_c, sIf_c, sChain_c, stYes_c, sdNil_c, sdCons_c, sLst_c, sLen_c, sTup_c, sCallB_c, sCallL_c, sIsa_c, sSlice_c, soNone_c, soSome_c, sgName_c, sgOwn_c, sOwnIx_c, siSeq_c, siEnum_c, siZip_c, siRange1_c, siRange2_c, siRangeD_c, slR1_c, slR2_c, sCall_c, sCallN_c, saNil_c, saCons_c, saBag_c, sComp_c, sRevL_c, sgTup_t, sgCons_c, sgNil_n, freezeSl, setUn, Slot.inner, List.map_cons, List.map_nil, List.replicate, List.cons_append, List.nil_append, List.append_nil, List.getElem?_cons_zero, List.getElem?_cons_succ, List.set_cons_zero, List.set_cons_succ, List.length_cons, List.length_nil, and_assoc, Option.some.injEq, PyData.list.injEq, PyData.tuple.injEq, toL_n, Nat.sub_self, Nat.zero_add, Nat.reduceAdd, Nat.reduceSub, true_and, and_true, addD_ii, subD_ii, ltD_ii, leD_ii, gtD_ii, geD_ii, negD_i, mulD_i, fdivD_i, modD_i, itemsD_l, itemsD_t, tupleB_l, tupleB_t, listB_l, listB_t, lenB_l, lenB_t, intB_i, intB_b, fold2_i, appendM_1, ixN_len, reduceCtorEq, reduceIte, Bool.and_self, Bool.true_and, Bool.false_and, Bool.and_true, Bool.and_false, Bool.not_true, Bool.not_false, PyData.isTuple, PyData.isInt, PyData.isBool, PyData.isList, PyData.isStr, isBLT, all_true]
      exact h
theorem OkD.up {n k : Nat} {d : D} (h : OkD n d) (l : n ≤ k) : OkD k d := by
  induction h generalizing k with
  | none => exact .none
  | bool b => exact .bool b
  | int i => exact .int i
  | str s => exact .str s
  | list h hx ih =>
    obtain ⟨k, rfl⟩ : ∃ j, k = j + 1 := ⟨k - 1, by omega⟩
    exact .list h fun x hxm => ih x hxm (by omega)
  | tuple h hx ih =>
    obtain ⟨k, rfl⟩ : ∃ j, k = j + 1 := ⟨k - 1, by omega⟩
    exact .tuple h fun x hxm => ih x hxm (by omega)
theorem sp_same {d : D} {m F R} (hd : OkD 5 d) (h : R (.dat (.bool true)) m) : m__law_same [.dat d, .dat d] m F R := sp_same_ 5 hd h
theorem ok_tI {xs : List Int} (h : xs.length ≤ 16000000) : OkD 1 (tI xs) := .tuple (by rw [List.length_map]; exact h) fun x hx => by obtain ⟨i, _, rfl⟩ := List.mem_map.mp hx; exact .int i
theorem ok_lI {xs : List Int} (h : xs.length ≤ 16000000) : OkD 1 (lI xs) := .list (by rw [List.length_map]; exact h) fun x hx => by obtain ⟨i, _, rfl⟩ := List.mem_map.mp hx; exact .int i
theorem ok_lP {ps : List (Int × Int)} (h : ps.length ≤ 16000000) : OkD 2 (.list (ps.map pI)) := .list (by rw [List.length_map]; exact h) fun x hx => by
  obtain ⟨p, _, rfl⟩ := List.mem_map.mp hx
  exact .tuple (Nat.le_of_ble_eq_true rfl) fun y hy => by
    rcases List.mem_cons.mp hy with e | e
    · rw [e]; exact .int _
    · rw [List.mem_singleton.mp e]; exact .int _
/-! pairs -/
theorem eqv_pI {p q : Int × Int} : PyData.eqv (pI p) (pI q) = decide (p = q) := by
  show ((p.1 == q.1) && ((p.2 == q.2) && true)) = _
  rw [Bool.and_true, show (p.1 == q.1) = decide (p.1 = q.1) from rfl, show (p.2 == q.2) = decide (p.2 = q.2) from rfl, ← Bool.decide_and]
  congr 1
  exact propext ⟨fun ⟨h1, h2⟩ => Prod.ext h1 h2, fun h => by rw [h]; exact ⟨rfl, rfl⟩⟩
theorem eqvAll_P : ∀ (xs ys : List (Int × Int)), PyData.eqvAll (xs.map pI) (ys.map pI) = decide (xs = ys)
  | [], [] => rfl
  | [], _ :: _ => rfl
  | _ :: _, [] => rfl
  | x :: xs, y :: ys => by
    show (PyData.eqv (pI x) (pI y) && PyData.eqvAll (xs.map pI) (ys.map pI)) = _
    rw [eqvAll_P xs ys, eqv_pI, ← Bool.decide_and]
    congr 1
    rw [List.cons.injEq]
theorem depth_lP (xs : List (Int × Int)) : (PyData.list (xs.map pI)).depth ≤ 2 := by
  show PyData.depthAll (xs.map pI) + 1 ≤ 2
  have := depthAll_le (k := 1) (xs := xs.map pI) fun x hx => by
    obtain ⟨p, _, rfl⟩ := List.mem_map.mp hx
    exact Nat.le_refl 1
  omega
theorem neD_lP {xs ys : List (Int × Int)} : neD (.list (xs.map pI)) (.list (ys.map pI)) = some (.bool (!decide (xs = ys))) := by
  unfold neD
  rw [if_pos (show shal _ _ from Nat.le_trans (Nat.min_le_left _ _) (Nat.le_trans (depth_lP xs) (by decide)))]
  show some (PyData.bool (!PyData.eqvAll (xs.map pI) (ys.map pI))) = _
  rw [eqvAll_P]
theorem eqD_lP {xs ys : List (Int × Int)} : eqD (.list (xs.map pI)) (.list (ys.map pI)) = some (.bool (decide (xs = ys))) := by
  unfold eqD
  rw [if_pos (show shal _ _ from Nat.le_trans (Nat.min_le_left _ _) (Nat.le_trans (depth_lP xs) (by decide)))]
  show some (PyData.bool (PyData.eqvAll (xs.map pI) (ys.map pI))) = _
  rw [eqvAll_P]
theorem inB_P {x : Int × Int} {xs : List (Int × Int)} : inB (pI x) (xs.map pI) = decide (x ∈ xs) := by
  unfold inB
  rw [List.any_map]
  induction xs with
  | nil => simp
  | cons y ys ih =>
    rw [List.any_cons, ih]
    show (PyData.eqv (pI y) (pI x) || _) = _
    rw [eqv_pI, ← Bool.decide_or]
    congr 1
    rw [List.mem_cons, @eq_comm _ y x]
theorem inD_P {x : Int × Int} {xs : List (Int × Int)} : inD true (pI x) (.list (xs.map pI)) = some (.bool (!decide (x ∈ xs))) := by
  unfold inD
  simp only []
  rw [if_pos (show (pI x).depth ≤ 100 from (by decide : 1 ≤ 100)), inB_P]
  rfl
theorem sorted_uniq {α : Type} {le : α → α → Prop} (anti : ∀ a b, le a b → le b a → a = b) : ∀ {a b : List α}, a.Perm b → a.Pairwise le → b.Pairwise le → a = b
  | [], b, h, _, _ => (List.nil_perm.mp h).symm
  | x :: a, [], h, _, _ => by simp at h
  | x :: a, y :: b, h, ha, hb => by
    have h1 := List.pairwise_cons.mp ha
    have h2 := List.pairwise_cons.mp hb
    have e : x = y := by
      have hx : x ∈ y :: b := h.mem_iff.mp (List.mem_cons_self ..)
      have hy : y ∈ x :: a := h.mem_iff.mpr (List.mem_cons_self ..)
      rcases List.mem_cons.mp hx with z | z
      · exact z
      · rcases List.mem_cons.mp hy with w | w
        · exact w.symm
        · exact anti _ _ (h1.1 y w) (h2.1 x z)
    subst e
    rw [sorted_uniq anti (List.perm_cons x |>.mp h) h1.2 h2.2]
theorem sortP_eq {xs ys : List (Int × Int)} (h : xs.Perm ys) (hs : ys.Pairwise fun p q => p.1 < q.1 ∨ p.1 = q.1 ∧ p.2 ≤ q.2) : sortP xs = ys :=
  sorted_uniq (fun a b h1 h2 => Prod.ext (by omega) (by omega)) ((sortP_perm xs).trans h) (sortP_sorted xs) hs
end PT
set_option maxHeartbeats 1000000
namespace PT
open PySem PySem.Spec PyProof.Rows L2 DL
def gAt (rs : List Int) (k : Nat) (i : Int) : Int := if (k : Int) ≤ i ∧ i < k + rs.length then rs.getD (i - (k : Int)).toNat 0 else 0
theorem gAt_cons (x : Int) (rs : List Int) (k : Nat) (i : Int) : gAt (x :: rs) k i = if i = k then x else gAt rs (k + 1) i := by
  unfold gAt
  rw [List.length_cons]
  by_cases e : i = k
  · subst e
    rw [if_pos ⟨Int.le_refl _, by omega⟩, if_pos rfl, show ((k : Int) - k).toNat = 0 by omega]
    rfl
  · rw [if_neg e]
    by_cases h : (k : Int) ≤ i ∧ i < k + ((rs.length + 1 : Nat) : Int)
    · rw [if_pos h, if_pos (by omega), show (i - (k : Int)).toNat = (i - ((k + 1 : Nat) : Int)).toNat + 1 by omega, List.getD_cons_succ]
    · rw [if_neg h, if_neg (by omega)]
theorem known_go : ∀ (rs : List Int) (k : Nat) (one other : Int), one ≠ other → rs.sum = (((rs.zipIdx k).filter (other2 one other)).map (·.1)).sum + gAt rs k one + gAt rs k other
  | [], k, one, other, _ => by
    have : ∀ i : Int, gAt [] k i = 0 := fun i => by unfold gAt; split <;> simp
    simp [this]
  | x :: rs, k, one, other, h => by
    rw [List.zipIdx_cons, gAt_cons, gAt_cons, List.sum_cons, known_go rs (k + 1) one other h]
    by_cases e1 : one = k
    · have e2 : other ≠ k := fun z => h (e1.trans z.symm)
      have hg : gAt rs (k + 1) one = 0 := by unfold gAt; rw [if_neg (by omega)]
      rw [if_pos e1, if_neg e2, List.filter_cons_of_neg (by simp [other2, e1]), hg]
      omega
    · by_cases e2 : other = k
      · have hg : gAt rs (k + 1) other = 0 := by unfold gAt; rw [if_neg (by omega)]
        rw [if_neg e1, if_pos e2, List.filter_cons_of_neg (by simp [other2, e2]), hg]
        omega
      · rw [if_neg e1, if_neg e2, List.filter_cons_of_pos (by simp [other2]; exact ⟨e1, e2⟩), List.map_cons, List.sum_cons]
        omega
theorem gAt_0 {rs : List Int} {i : Int} (h : 0 ≤ i ∧ i < rs.length) : gAt rs 0 i = rs.getD i.toNat 0 := by
  unfold gAt
  rw [if_pos (by omega), show (i - ((0 : Nat) : Int)).toNat = i.toNat by omega]
theorem known_split {rs : List Int} {one other : Int} (h1 : 0 ≤ one ∧ one < rs.length) (h2 : 0 ≤ other ∧ other < rs.length) (hne : one ≠ other) : rs.sum = knownOf rs one other + rs.getD one.toNat 0 + rs.getD other.toNat 0 := by
  have := known_go rs 0 one other hne
  rw [gAt_0 h1, gAt_0 h2] at this
  exact this
theorem both_of {rs : List Int} {r one other : Int} (hb : Bal rs r) (h1 : 0 ≤ one ∧ one < rs.length) (h2 : 0 ≤ other ∧ other < rs.length) (hne : one ≠ other) : bothOf rs r one other = rs.getD one.toNat 0 + rs.getD other.toNat 0 := by
  have := known_split h1 h2 hne
  have h3 := hb.1
  unfold due at h3
  unfold bothOf
  omega
theorem set_getD : ∀ (rs : List Int) (i : Nat), rs.set i (rs.getD i 0) = rs
  | [], _ => rfl
  | _ :: _, 0 => rfl
  | x :: rs, i + 1 => by rw [List.getD_cons_succ, List.set_cons_succ, set_getD rs i]
theorem set_get_ne {rs : List Int} {i j : Nat} {v : Int} (h : i ≠ j) : (rs.set i v).getD j 0 = rs.getD j 0 := by
  rw [List.getD_eq_getElem?_getD, List.getD_eq_getElem?_getD, List.getElem?_set_ne h]
/-- the true pair is told -/
theorem true_told {rs : List Int} {r one other : Int} (hok : ∀ x ∈ rs, 0 ≤ x) (hb : Bal rs r) (h1 : 0 ≤ one ∧ one < rs.length) (h2 : 0 ≤ other ∧ other < rs.length) (hne : one ≠ other) : (rs.getD one.toNat 0, rs.getD other.toNat 0) ∈ unreadL rs r one other := by
  have e := both_of hb h1 h2 hne
  have n1 : 0 ≤ rs.getD one.toNat 0 := by
    rw [List.getD_eq_getElem?_getD, List.getElem?_eq_getElem (show one.toNat < rs.length by omega)]
    exact hok _ (List.getElem_mem _)
  have n2 : 0 ≤ rs.getD other.toNat 0 := by
    rw [List.getD_eq_getElem?_getD, List.getElem?_eq_getElem (show other.toNat < rs.length by omega)]
    exact hok _ (List.getElem_mem _)
  unfold unreadL
  refine List.mem_map.mpr ⟨rs.getD one.toNat 0, List.mem_filter.mpr ⟨List.mem_map.mpr ⟨(rs.getD one.toNat 0).toNat, List.mem_range.mpr (by rw [e]; omega), by omega⟩, ?_⟩, ?_⟩
  · unfold goodF changedL
    rw [e, show rs.getD one.toNat 0 + rs.getD other.toNat 0 - rs.getD one.toNat 0 = rs.getD other.toNat 0 by omega, set_getD, set_getD]
    exact (bal_iff rs r).mpr hb
  · rw [e]
    exact Prod.ext rfl (by show _ + _ - _ = _; omega)
theorem set_get_eq {rs : List Int} {i : Nat} {v : Int} (h : i < rs.length) : (rs.set i v).getD i 0 = v := by
  rw [List.getD_eq_getElem?_getD, List.getElem?_set_self h]
  rfl
theorem sum_set : ∀ {rs : List Int} {i : Nat} {v : Int}, i < rs.length → (rs.set i v).sum = rs.sum - rs.getD i 0 + v
  | [], _, _, h => by simp at h
  | x :: rs, 0, v, _ => by rw [List.set_cons_zero, List.sum_cons, List.sum_cons, List.getD_cons_zero]; omega
  | x :: rs, i + 1, v, h => by
    have := sum_set (rs := rs) (i := i) (v := v) (by simpa using h)
    rw [List.set_cons_succ, List.sum_cons, List.sum_cons, List.getD_cons_succ, this]
    omega
theorem set_set_self : ∀ (rs : List Int) (i : Nat) (v w : Int), (rs.set i v).set i w = rs.set i w
  | [], _, _, _ => rfl
  | _ :: _, 0, _, _ => rfl
  | x :: rs, i + 1, v, w => by rw [List.set_cons_succ, List.set_cons_succ, List.set_cons_succ, set_set_self rs i]
/-- what stands at the two unread places does not matter -/
theorem unread_same {rs : List Int} {r one other a b : Int} (h1 : 0 ≤ one ∧ one < rs.length) (h2 : 0 ≤ other ∧ other < rs.length) (hne : one ≠ other) : unreadL ((rs.set one.toNat a).set other.toNat b) r one other = unreadL rs r one other := by
  have hn : one.toNat ≠ other.toNat := by omega
  have hl : ((rs.set one.toNat a).set other.toNat b).length = rs.length := by rw [List.length_set, List.length_set]
  have hk : knownOf ((rs.set one.toNat a).set other.toNat b) one other = knownOf rs one other := by
    have s1 := known_split (rs := (rs.set one.toNat a).set other.toNat b) (by rw [hl]; exact h1) (by rw [hl]; exact h2) hne
    have s2 := known_split h1 h2 hne
    have g1 : ((rs.set one.toNat a).set other.toNat b).getD one.toNat 0 = a := by
      rw [set_get_ne hn.symm, set_get_eq (by omega)]
    have g2 : ((rs.set one.toNat a).set other.toNat b).getD other.toNat 0 = b := set_get_eq (by rw [List.length_set]; omega)
    have u1 := sum_set (rs := rs) (i := one.toNat) (v := a) (by omega)
    have u2 := sum_set (rs := rs.set one.toNat a) (i := other.toNat) (v := b) (by rw [List.length_set]; omega)
    rw [set_get_ne hn] at u2
    omega
  have hc : ∀ f both, changedL ((rs.set one.toNat a).set other.toNat b) one other f both = changedL rs one other f both := fun f both => by
    unfold changedL
    rw [List.set_comm _ _ hn.symm, set_set_self, set_set_self]
  unfold unreadL goodF
  have hb : bothOf ((rs.set one.toNat a).set other.toNat b) r one other = bothOf rs r one other := by
    unfold bothOf
    rw [hk, hl]
  rw [hb]
  congr 1
  congr 1
  funext f
  rw [hc]
end PT
set_option maxHeartbeats 1000000
namespace PT
open PySem PySem.Spec PyProof.Rows L2 DL
def upTo (B : Int) : List Int := (List.range (max 0 (B + 1)).toNat).map fun (i : Nat) => (0 : Int) + (i : Int)
theorem upTo_rev (B : Int) : (upTo B).reverse = (upTo B).map fun f => B - f := by
  unfold upTo
  refine List.ext_getElem (by simp) fun i h1 h2 => ?_
  rw [List.getElem_reverse]
  simp only [List.length_map, List.length_range, List.length_reverse] at h1 h2
  simp only [List.getElem_map, List.getElem_range, List.length_map, List.length_range]
  omega
theorem upTo_inc (B : Int) : (upTo B).Pairwise (· < ·) := by
  unfold upTo
  rw [List.pairwise_map]
  exact List.pairwise_lt_range.imp fun h => by omega
theorem known_symm (rs : List Int) (one other : Int) : knownOf rs other one = knownOf rs one other := by
  unfold knownOf
  congr 2
  congr 1
  funext p
  unfold other2
  rw [Bool.or_comm]
theorem unread_turn {rs : List Int} {r one other : Int} (h1 : 0 ≤ one ∧ one < rs.length) (h2 : 0 ≤ other ∧ other < rs.length) (hne : one ≠ other) : sortP ((unreadL rs r other one).map fun p => (p.2, p.1)) = unreadL rs r one other := by
  have hb : bothOf rs r other one = bothOf rs r one other := by
    unfold bothOf
    rw [known_symm]
  have hg : ∀ f, goodF rs r other one (bothOf rs r one other) f = goodF rs r one other (bothOf rs r one other) (bothOf rs r one other - f) := fun f => by
    unfold goodF changedL
    rw [List.set_comm _ _ (show other.toNat ≠ one.toNat by omega), show bothOf rs r one other - (bothOf rs r one other - f) = f by omega]
  have e2 : (unreadL rs r other one).map (fun p => (p.2, p.1)) = (unreadL rs r one other).reverse := by
    show (((upTo (bothOf rs r other one)).filter (goodF rs r other one (bothOf rs r other one))).map fun f => (f, bothOf rs r other one - f)).map _ = (((upTo (bothOf rs r one other)).filter (goodF rs r one other (bothOf rs r one other))).map fun f => (f, bothOf rs r one other - f)).reverse
    rw [hb, ← List.map_reverse, ← List.filter_reverse, upTo_rev, List.filter_map, List.map_map, List.map_map]
    rw [show goodF rs r other one (bothOf rs r one other) = goodF rs r one other (bothOf rs r one other) ∘ fun f => bothOf rs r one other - f from funext hg]
    refine List.map_congr_left fun f _ => ?_
    show (bothOf rs r one other - f, f) = (bothOf rs r one other - f, bothOf rs r one other - (bothOf rs r one other - f))
    rw [show bothOf rs r one other - (bothOf rs r one other - f) = f by omega]
  rw [e2]
  refine sortP_eq (List.reverse_perm _) ?_
  show (((upTo (bothOf rs r one other)).filter (goodF rs r one other (bothOf rs r one other))).map fun f => (f, bothOf rs r one other - f)).Pairwise _
  rw [List.pairwise_map]
  exact ((upTo_inc _).filter _).imp fun h => .inl h
end PT
set_option maxHeartbeats 1000000
namespace PT
open PySem PySem.Spec PyProof.Rows L2 DL
theorem st12_law {De : DEnds} {F : Exc → Prop} {m : Nat} {rs : List Int} {r one other both f : Int} {s0 s1 s2 s3 s12 s13 s14 : Slot} (ps : List (Int × Int)) (x11 : Slot) (hl : rs.length ≤ 100) (h1 : 0 ≤ one ∧ one < rs.length) (h2 : 0 ≤ other ∧ other < rs.length) (hp : ps.length ≤ 1000)
    (h : ∀ x11, De.nx ⟨[s0, s1, s2, s3, .dat (.int r), .dat (tI rs), .dat (.int one), .dat (.int other), .own ((if goodF rs r one other both f then ps ++ [(f, both - f)] else ps).map pI), .dat (.int both), .dat (.int f), x11, s12, s13, s14], m, F⟩) :
    L1_lawN De ⟨[s0, s1, s2, s3, .dat (.int r), .dat (tI rs), .dat (.int one), .dat (.int other), .own (ps.map pI), .dat (.int both), .dat (.int f), x11, s12, s13, s14], m, F⟩ := by
  simp -implicitDefEqProofs (disch := ((try simp only [List.length_map, List.length_append, List.length_cons, List.length_nil, List.length_take, List.length_drop, List.length_set, List.length_replicate, List.length_range, List.length_zipIdx, List.length_zip]); omega)) only [kVal_s, hold_c, kNx_c, kRt_c, kRtN_c, kAsg_c, kAsgF_c, kPar_c, kParF_c, kParF2_c, kExp_c, kFor_c, kIf_t, kIf_f, kIfV_t, kIfV_f, kOrT_t, kOrT_f, kAndT_t, kAndT_f, kNotT_c, kAnd_t, kAnd_f, kOr_t, kOr_f, kNot_b, kTest_b, kBin_c, kBin2_c, kUn_c, kChain_t, kChain_f, kCh1_c, kCh2_c, kRet_d, kRet_n, kRetN_n, kSome_i, kSlot_d, kDc_c, kDc2_c, kLst_c, kLen_c, kTup_c, kCB_c, kIsa_c, kSl1_c, kSl2_c, kSl3_c, kRtO_c, kOm_c, kOm2_c, kOm3_c, kSo_c, kSo2_c, kSo3_c, kOi_c, kOi2_c, kSeq_c, kEnum_c, kEnum2_c, kZip_c, kZip2_c, kZip3_c, kZip4_c, kRg1_c, kRg2_c, kRg2b_c, kRgD_c, kRgDb_c, kCall_c, kCallN_c, kAc_c, kAc2_c, kBag_b, kComp_c, kRev_c, kGc_c, kFl_c, compT_c, kCt_c, kCt2_t, kCt2_f, fnS_c, ssSeq_c, ssRet_c, ssRetF_c, ssRetOwn_c, ssRetN_c, ssAsg_c, ssAsgF_c, ssPar_c, ssParF_c, ssIf_c, ssExpr_c, ssNil_c, ssPass_c, ssBreak_c, ssCont_c, ssFor_c, ssFreeze_c, ssOwnM_c, sVar_c, sC_c, sBin_c, sUn_c, sTest_c, sNotT_c, sAndT_c, sOrT_c, sBorT_c, sAndV_c, sOrV_c, sNotV_c, sIf_c, sChain_c, stYes_c, sdNil_c, sdCons_c, sLst_c, sLen_c, sTup_c, sCallB_c, sCallL_c, sIsa_c, sSlice_c, soNone_c, soSome_c, sgName_c, sgOwn_c, sOwnIx_c, siSeq_c, siEnum_c, siZip_c, siRange1_c, siRange2_c, siRangeD_c, slR1_c, slR2_c, sCall_c, sCallN_c, saNil_c, saCons_c, saBag_c, sComp_c, sRevL_c, sgTup_t, sgCons_c, sgNil_n, freezeSl, setUn, Slot.inner, List.map_cons, List.map_nil, List.replicate, List.cons_append, List.nil_append, List.append_nil, List.getElem?_cons_zero, List.getElem?_cons_succ, List.set_cons_zero, List.set_cons_succ, List.length_cons, List.length_nil, and_assoc, Option.some.injEq, PyData.list.injEq, PyData.tuple.injEq, toL_n, Nat.sub_self, Nat.zero_add, Nat.reduceAdd, Nat.reduceSub, true_and, and_true, addD_ii, subD_ii, ltD_ii, leD_ii, gtD_ii, geD_ii, negD_i, mulD_i, fdivD_i, modD_i, itemsD_l, itemsD_t, tupleB_l, tupleB_t, listB_l, listB_t, lenB_l, lenB_t, intB_i, intB_b, fold2_i, appendM_1, ixN_len, reduceCtorEq, reduceIte, Bool.and_self, Bool.true_and, Bool.false_and, Bool.and_true, Bool.and_false, Bool.not_true, Bool.not_false, PyData.isTuple, PyData.isInt, PyData.isBool, PyData.isList, PyData.isStr, isBLT, L1_lawN, tI]
  refine ⟨by decide, ?_⟩
  rw [← List.map_set, ← List.map_set]
  refine sp_fits (rs := changedL rs one other f both) (.inr rfl) (by rw [changed_len]; exact hl) ?_
  rw [fits_bal, show balB (changedL rs one other f both) r = goodF rs r one other both f from rfl]
  cases e : goodF rs r one other both f with
  | true =>
    rw [e] at h
    simp -implicitDefEqProofs (disch := ((try simp only [List.length_map, List.length_append, List.length_cons, List.length_nil, List.length_take, List.length_drop, List.length_set, List.length_replicate, List.length_range, List.length_zipIdx, List.length_zip]); omega)) only [kVal_s, hold_c, kNx_c, kRt_c, kRtN_c, kAsg_c, kAsgF_c, kPar_c, kParF_c, kParF2_c, kExp_c, kFor_c, kIf_t, kIf_f, kIfV_t, kIfV_f, kOrT_t, kOrT_f, kAndT_t, kAndT_f, kNotT_c, kAnd_t, kAnd_f, kOr_t, kOr_f, kNot_b, kTest_b, kBin_c, kBin2_c, kUn_c, kChain_t, kChain_f, kCh1_c, kCh2_c, kRet_d, kRet_n, kRetN_n, kSome_i, kSlot_d, kDc_c, kDc2_c, kLst_c, kLen_c, kTup_c, kCB_c, kIsa_c, kSl1_c, kSl2_c, kSl3_c, kRtO_c, kOm_c, kOm2_c, kOm3_c, kSo_c, kSo2_c, kSo3_c, kOi_c, kOi2_c, kSeq_c, kEnum_c, kEnum2_c, kZip_c, kZip2_c, kZip3_c, kZip4_c, kRg1_c, kRg2_c, kRg2b_c, kRgD_c, kRgDb_c, kCall_c, kCallN_c, kAc_c, kAc2_c, kBag_b, kComp_c, kRev_c, kGc_c, kFl_c, compT_c, kCt_c, kCt2_t, kCt2_f, fnS_c, ssSeq_c, ssRet_c, ssRetF_c, ssRetOwn_c, ssRetN_c, ssAsg_c, ssAsgF_c, ssPar_c, ssParF_c, ssIf_c, ssExpr_c, ssNil_c, ssPass_c, ssBreak_c, ssCont_c, ssFor_c, ssFreeze_c, ssOwnM_c, sVar_c, sC_c, sBin_c, sUn_c, sTest_c, sNotT_c, sAndT_c, sOrT_c, sBorT_c, sAndV_c, sOrV_c, sNotV_c, sIf_c, sChain_c, stYes_c, sdNil_c, sdCons_c, sLst_c, sLen_c, sTup_c, sCallB_c, sCallL_c, sIsa_c, sSlice_c, soNone_c, soSome_c, sgName_c, sgOwn_c, sOwnIx_c, siSeq_c, siEnum_c, siZip_c, siRange1_c, siRange2_c, siRangeD_c, slR1_c, slR2_c, sCall_c, sCallN_c, saNil_c, saCons_c, saBag_c, sComp_c, sRevL_c, sgTup_t, sgCons_c, sgNil_n, freezeSl, setUn, Slot.inner, List.map_cons, List.map_nil, List.replicate, List.cons_append, List.nil_append, List.append_nil, List.getElem?_cons_zero, List.getElem?_cons_succ, List.set_cons_zero, List.set_cons_succ, List.length_cons, List.length_nil, and_assoc, Option.some.injEq, PyData.list.injEq, PyData.tuple.injEq, toL_n, Nat.sub_self, Nat.zero_add, Nat.reduceAdd, Nat.reduceSub, true_and, and_true, addD_ii, subD_ii, ltD_ii, leD_ii, gtD_ii, geD_ii, negD_i, mulD_i, fdivD_i, modD_i, itemsD_l, itemsD_t, tupleB_l, tupleB_t, listB_l, listB_t, lenB_l, lenB_t, intB_i, intB_b, fold2_i, appendM_1, ixN_len, reduceCtorEq, reduceIte, Bool.and_self, Bool.true_and, Bool.false_and, Bool.and_true, Bool.and_false, Bool.not_true, Bool.not_false, PyData.isTuple, PyData.isInt, PyData.isBool, PyData.isList, PyData.isStr, isBLT]
    refine ⟨by decide, ?_⟩
    rw [if_pos rfl, List.map_append] at h
    exact h _
  | false =>
    rw [e] at h
    simp -implicitDefEqProofs (disch := ((try simp only [List.length_map, List.length_append, List.length_cons, List.length_nil, List.length_take, List.length_drop, List.length_set, List.length_replicate, List.length_range, List.length_zipIdx, List.length_zip]); omega)) only [kVal_s, hold_c, kNx_c, kRt_c, kRtN_c, kAsg_c, kAsgF_c, kPar_c, kParF_c, kParF2_c, kExp_c, kFor_c, kIf_t, kIf_f, kIfV_t, kIfV_f, kOrT_t, kOrT_f, kAndT_t, kAndT_f, kNotT_c, kAnd_t, kAnd_f, kOr_t, kOr_f, kNot_b, kTest_b, kBin_c, kBin2_c, kUn_c, kChain_t, kChain_f, kCh1_c, kCh2_c, kRet_d, kRet_n, kRetN_n, kSome_i, kSlot_d, kDc_c, kDc2_c, kLst_c, kLen_c, kTup_c, kCB_c, kIsa_c, kSl1_c, kSl2_c, kSl3_c, kRtO_c, kOm_c, kOm2_c, kOm3_c, kSo_c, kSo2_c, kSo3_c, kOi_c, kOi2_c, kSeq_c, kEnum_c, kEnum2_c, kZip_c, kZip2_c, kZip3_c, kZip4_c, kRg1_c, kRg2_c, kRg2b_c, kRgD_c, kRgDb_c, kCall_c, kCallN_c, kAc_c, kAc2_c, kBag_b, kComp_c, kRev_c, kGc_c, kFl_c, compT_c, kCt_c, kCt2_t, kCt2_f, fnS_c, ssSeq_c, ssRet_c, ssRetF_c, ssRetOwn_c, ssRetN_c, ssAsg_c, ssAsgF_c, ssPar_c, ssParF_c, ssIf_c, ssExpr_c, ssNil_c, ssPass_c, ssBreak_c, ssCont_c, ssFor_c, ssFreeze_c, ssOwnM_c, sVar_c, sC_c, sBin_c, sUn_c, sTest_c, sNotT_c, sAndT_c, sOrT_c, sBorT_c, sAndV_c, sOrV_c, sNotV_c, sIf_c, sChain_c, stYes_c, sdNil_c, sdCons_c, sLst_c, sLen_c, sTup_c, sCallB_c, sCallL_c, sIsa_c, sSlice_c, soNone_c, soSome_c, sgName_c, sgOwn_c, sOwnIx_c, siSeq_c, siEnum_c, siZip_c, siRange1_c, siRange2_c, siRangeD_c, slR1_c, slR2_c, sCall_c, sCallN_c, saNil_c, saCons_c, saBag_c, sComp_c, sRevL_c, sgTup_t, sgCons_c, sgNil_n, freezeSl, setUn, Slot.inner, List.map_cons, List.map_nil, List.replicate, List.cons_append, List.nil_append, List.append_nil, List.getElem?_cons_zero, List.getElem?_cons_succ, List.set_cons_zero, List.set_cons_succ, List.length_cons, List.length_nil, and_assoc, Option.some.injEq, PyData.list.injEq, PyData.tuple.injEq, toL_n, Nat.sub_self, Nat.zero_add, Nat.reduceAdd, Nat.reduceSub, true_and, and_true, addD_ii, subD_ii, ltD_ii, leD_ii, gtD_ii, geD_ii, negD_i, mulD_i, fdivD_i, modD_i, itemsD_l, itemsD_t, tupleB_l, tupleB_t, listB_l, listB_t, lenB_l, lenB_t, intB_i, intB_b, fold2_i, appendM_1, ixN_len, reduceCtorEq, reduceIte, Bool.and_self, Bool.true_and, Bool.false_and, Bool.and_true, Bool.and_false, Bool.not_true, Bool.not_false, PyData.isTuple, PyData.isInt, PyData.isBool, PyData.isList, PyData.isStr, isBLT]
    exact h _
theorem lp12_law {De : DEnds} {F : Exc → Prop} {m : Nat} {rs : List Int} {r one other both : Int} {s0 s1 s2 s3 s12 s13 s14 : Slot} (hl : rs.length ≤ 100) (h1 : 0 ≤ one ∧ one < rs.length) (h2 : 0 ≤ other ∧ other < rs.length) : ∀ (fs : List Int) (ps : List (Int × Int)) (x10 x11 : Slot), fs.length + ps.length ≤ 1000 →
    (∀ x10 x11, De.nx ⟨[s0, s1, s2, s3, .dat (.int r), .dat (tI rs), .dat (.int one), .dat (.int other), .own ((ps ++ (fs.filter (goodF rs r one other both)).map fun f => (f, both - f)).map pI), .dat (.int both), x10, x11, s12, s13, s14], m, F⟩) →
    forL (sgName 10) L1_lawN De (fs.map .int) ⟨[s0, s1, s2, s3, .dat (.int r), .dat (tI rs), .dat (.int one), .dat (.int other), .own (ps.map pI), .dat (.int both), x10, x11, s12, s13, s14], m, F⟩
  | [], ps, x10, x11, hp, h => by
    have := h x10 x11
    rw [List.filter_nil, List.map_nil, List.append_nil] at this
    exact this
  | f :: fs, ps, x10, x11, hp, h => by
    rw [List.length_cons] at hp
    rw [List.map_cons, forL_c, sgName_c, kFl_c]
    refine st12_law ps x11 hl h1 h2 (by omega) fun x11 => ?_
    refine lp12_law hl h1 h2 fs _ _ x11 (by split <;> (try simp only [List.length_append, List.length_cons, List.length_nil]) <;> omega) fun x10 x11 => ?_
    cases e : goodF rs r one other both f with
    | true =>
      rw [List.filter_cons_of_pos (by rw [e])] at h
      rw [if_pos rfl, List.append_assoc]
      exact h x10 x11
    | false =>
      rw [List.filter_cons_of_neg (by rw [e]; decide)] at h
      rw [if_neg Bool.false_ne_true]
      exact h x10 x11
theorem pick_other {n : Nat} {one y : Int} (hn : 2 ≤ n ∧ n ≤ 6) (h1 : 0 ≤ one ∧ one < n) (hy : 0 ≤ y ∧ y < (n : Int) - 1) : (0 ≤ (one + 1 + y) % (n : Int) ∧ (one + 1 + y) % (n : Int) < n) ∧ one ≠ (one + 1 + y) % (n : Int) := by
  have : n = 2 ∨ n = 3 ∨ n = 4 ∨ n = 5 ∨ n = 6 := by omega
  rcases this with rfl | rfl | rfl | rfl | rfl <;> omega
theorem turn12 {De : DEnds} {F : Exc → Prop} {m : Nat} {s0 s2 x3 x4 x5 x6 x7 x8 x9 x10 x11 x12 x13 x14 : Slot} (hm : m < 1000000) (hrt : De.rt = rtTrue)
    (h : ∀ (m' : Nat) (x3 x4 x5 x6 x7 x8 x9 x10 x11 x12 x13 x14 : Slot), m ≤ m' → m' ≤ m + 100 → De.nx ⟨[s0, .bag, s2, x3, x4, x5, x6, x7, x8, x9, x10, x11, x12, x13, x14], m', F⟩) :
    L3_lawN De ⟨[s0, .bag, s2, x3, x4, x5, x6, x7, x8, x9, x10, x11, x12, x13, x14], m, F⟩ := by
  simp -implicitDefEqProofs (disch := ((try simp only [List.length_map, List.length_append, List.length_cons, List.length_nil, List.length_take, List.length_drop, List.length_set, List.length_replicate, List.length_range, List.length_zipIdx, List.length_zip]); omega)) only [kVal_s, hold_c, kNx_c, kRt_c, kRtN_c, kAsg_c, kAsgF_c, kPar_c, kParF_c, kParF2_c, kExp_c, kFor_c, kIf_t, kIf_f, kIfV_t, kIfV_f, kOrT_t, kOrT_f, kAndT_t, kAndT_f, kNotT_c, kAnd_t, kAnd_f, kOr_t, kOr_f, kNot_b, kTest_b, kBin_c, kBin2_c, kUn_c, kChain_t, kChain_f, kCh1_c, kCh2_c, kRet_d, kRet_n, kRetN_n, kSome_i, kSlot_d, kDc_c, kDc2_c, kLst_c, kLen_c, kTup_c, kCB_c, kIsa_c, kSl1_c, kSl2_c, kSl3_c, kRtO_c, kOm_c, kOm2_c, kOm3_c, kSo_c, kSo2_c, kSo3_c, kOi_c, kOi2_c, kSeq_c, kEnum_c, kEnum2_c, kZip_c, kZip2_c, kZip3_c, kZip4_c, kRg1_c, kRg2_c, kRg2b_c, kRgD_c, kRgDb_c, kCall_c, kCallN_c, kAc_c, kAc2_c, kBag_b, kComp_c, kRev_c, kGc_c, kFl_c, compT_c, kCt_c, kCt2_t, kCt2_f, fnS_c, ssSeq_c, ssRet_c, ssRetF_c, ssRetOwn_c, ssRetN_c, ssAsg_c, ssAsgF_c, ssPar_c, ssParF_c, ssIf_c, ssExpr_c, ssNil_c, ssPass_c, ssBreak_c, ssCont_c, ssFor_c, ssFreeze_c, ssOwnM_c, sVar_c, sC_c, sBin_c, sUn_c, sTest_c, sNotT_c, sAndT_c, sOrT_c, sBorT_c, sAndV_c, sOrV_c, sNotV_c, sIf_c, sChain_c, stYes_c, sdNil_c, sdCons_c, sLst_c, sLen_c, sTup_c, sCallB_c, sCallL_c, sIsa_c, sSlice_c, soNone_c, soSome_c, sgName_c, sgOwn_c, sOwnIx_c, siSeq_c, siEnum_c, siZip_c, siRange1_c, siRange2_c, siRangeD_c, slR1_c, slR2_c, sCall_c, sCallN_c, saNil_c, saCons_c, saBag_c, sComp_c, sRevL_c, sgTup_t, sgCons_c, sgNil_n, freezeSl, setUn, Slot.inner, List.map_cons, List.map_nil, List.replicate, List.cons_append, List.nil_append, List.append_nil, List.getElem?_cons_zero, List.getElem?_cons_succ, List.set_cons_zero, List.set_cons_succ, List.length_cons, List.length_nil, and_assoc, Option.some.injEq, PyData.list.injEq, PyData.tuple.injEq, toL_n, Nat.sub_self, Nat.zero_add, Nat.reduceAdd, Nat.reduceSub, true_and, and_true, addD_ii, subD_ii, ltD_ii, leD_ii, gtD_ii, geD_ii, negD_i, mulD_i, fdivD_i, modD_i, itemsD_l, itemsD_t, tupleB_l, tupleB_t, listB_l, listB_t, lenB_l, lenB_t, intB_i, intB_b, fold2_i, appendM_1, ixN_len, reduceCtorEq, reduceIte, Bool.and_self, Bool.true_and, Bool.false_and, Bool.and_true, Bool.and_false, Bool.not_true, Bool.not_false, PyData.isTuple, PyData.isInt, PyData.isBool, PyData.isList, PyData.isStr, isBLT, L3_lawN]
  refine sp_take (by decide) (by omega) fun a ha0 ha1 => ?_
  simp -implicitDefEqProofs (disch := ((try simp only [List.length_map, List.length_append, List.length_cons, List.length_nil, List.length_take, List.length_drop, List.length_set, List.length_replicate, List.length_range, List.length_zipIdx, List.length_zip]); omega)) only [kVal_s, hold_c, kNx_c, kRt_c, kRtN_c, kAsg_c, kAsgF_c, kPar_c, kParF_c, kParF2_c, kExp_c, kFor_c, kIf_t, kIf_f, kIfV_t, kIfV_f, kOrT_t, kOrT_f, kAndT_t, kAndT_f, kNotT_c, kAnd_t, kAnd_f, kOr_t, kOr_f, kNot_b, kTest_b, kBin_c, kBin2_c, kUn_c, kChain_t, kChain_f, kCh1_c, kCh2_c, kRet_d, kRet_n, kRetN_n, kSome_i, kSlot_d, kDc_c, kDc2_c, kLst_c, kLen_c, kTup_c, kCB_c, kIsa_c, kSl1_c, kSl2_c, kSl3_c, kRtO_c, kOm_c, kOm2_c, kOm3_c, kSo_c, kSo2_c, kSo3_c, kOi_c, kOi2_c, kSeq_c, kEnum_c, kEnum2_c, kZip_c, kZip2_c, kZip3_c, kZip4_c, kRg1_c, kRg2_c, kRg2b_c, kRgD_c, kRgDb_c, kCall_c, kCallN_c, kAc_c, kAc2_c, kBag_b, kComp_c, kRev_c, kGc_c, kFl_c, compT_c, kCt_c, kCt2_t, kCt2_f, fnS_c, ssSeq_c, ssRet_c, ssRetF_c, ssRetOwn_c, ssRetN_c, ssAsg_c, ssAsgF_c, ssPar_c, ssParF_c, ssIf_c, ssExpr_c, ssNil_c, ssPass_c, ssBreak_c, ssCont_c, ssFor_c, ssFreeze_c, ssOwnM_c, sVar_c, sC_c, sBin_c, sUn_c, sTest_c, sNotT_c, sAndT_c, sOrT_c, sBorT_c, sAndV_c, sOrV_c, sNotV_c, sIf_c, sChain_c, stYes_c, sdNil_c, sdCons_c, sLst_c, sLen_c, sTup_c, sCallB_c, sCallL_c, sIsa_c, sSlice_c, soNone_c, soSome_c, sgName_c, sgOwn_c, sOwnIx_c, siSeq_c, siEnum_c, siZip_c, siRange1_c, siRange2_c, siRangeD_c, slR1_c, slR2_c, sCall_c, sCallN_c, saNil_c, saCons_c, saBag_c, sComp_c, sRevL_c, sgTup_t, sgCons_c, sgNil_n, freezeSl, setUn, Slot.inner, List.map_cons, List.map_nil, List.replicate, List.cons_append, List.nil_append, List.append_nil, List.getElem?_cons_zero, List.getElem?_cons_succ, List.set_cons_zero, List.set_cons_succ, List.length_cons, List.length_nil, and_assoc, Option.some.injEq, PyData.list.injEq, PyData.tuple.injEq, toL_n, Nat.sub_self, Nat.zero_add, Nat.reduceAdd, Nat.reduceSub, true_and, and_true, addD_ii, subD_ii, ltD_ii, leD_ii, gtD_ii, geD_ii, negD_i, mulD_i, fdivD_i, modD_i, itemsD_l, itemsD_t, tupleB_l, tupleB_t, listB_l, listB_t, lenB_l, lenB_t, intB_i, intB_b, fold2_i, appendM_1, ixN_len, reduceCtorEq, reduceIte, Bool.and_self, Bool.true_and, Bool.false_and, Bool.and_true, Bool.and_false, Bool.not_true, Bool.not_false, PyData.isTuple, PyData.isInt, PyData.isBool, PyData.isList, PyData.isStr, isBLT]
  refine sp_take (by omega) (by omega) fun b hb0 hb1 => ?_
  obtain ⟨n, hn, rfl⟩ : ∃ n : Nat, (2 ≤ n ∧ n ≤ 6) ∧ a = (n : Int) - 2 := ⟨(a + 2).toNat, by omega, by omega⟩
  obtain ⟨s, hs, rfl⟩ : ∃ s : Nat, (n - 1 ≤ s ∧ s ≤ 8) ∧ b = (s : Int) - (n : Int) + 1 := ⟨(b + (n : Int) - 1).toNat, by omega, by omega⟩
  have hns : n * s ≤ 6 * 8 := Nat.mul_le_mul hn.2 hs.2
  simp -implicitDefEqProofs (disch := ((try simp only [List.length_map, List.length_append, List.length_cons, List.length_nil, List.length_take, List.length_drop, List.length_set, List.length_replicate, List.length_range, List.length_zipIdx, List.length_zip]); omega)) only [kVal_s, hold_c, kNx_c, kRt_c, kRtN_c, kAsg_c, kAsgF_c, kPar_c, kParF_c, kParF2_c, kExp_c, kFor_c, kIf_t, kIf_f, kIfV_t, kIfV_f, kOrT_t, kOrT_f, kAndT_t, kAndT_f, kNotT_c, kAnd_t, kAnd_f, kOr_t, kOr_f, kNot_b, kTest_b, kBin_c, kBin2_c, kUn_c, kChain_t, kChain_f, kCh1_c, kCh2_c, kRet_d, kRet_n, kRetN_n, kSome_i, kSlot_d, kDc_c, kDc2_c, kLst_c, kLen_c, kTup_c, kCB_c, kIsa_c, kSl1_c, kSl2_c, kSl3_c, kRtO_c, kOm_c, kOm2_c, kOm3_c, kSo_c, kSo2_c, kSo3_c, kOi_c, kOi2_c, kSeq_c, kEnum_c, kEnum2_c, kZip_c, kZip2_c, kZip3_c, kZip4_c, kRg1_c, kRg2_c, kRg2b_c, kRgD_c, kRgDb_c, kCall_c, kCallN_c, kAc_c, kAc2_c, kBag_b, kComp_c, kRev_c, kGc_c, kFl_c, compT_c, kCt_c, kCt2_t, kCt2_f, fnS_c, ssSeq_c, ssRet_c, ssRetF_c, ssRetOwn_c, ssRetN_c, ssAsg_c, ssAsgF_c, ssPar_c, ssParF_c, ssIf_c, ssExpr_c, ssNil_c, ssPass_c, ssBreak_c, ssCont_c, ssFor_c, ssFreeze_c, ssOwnM_c, sVar_c, sC_c, sBin_c, sUn_c, sTest_c, sNotT_c, sAndT_c, sOrT_c, sBorT_c, sAndV_c, sOrV_c, sNotV_c, sIf_c, sChain_c, stYes_c, sdNil_c, sdCons_c, sLst_c, sLen_c, sTup_c, sCallB_c, sCallL_c, sIsa_c, sSlice_c, soNone_c, soSome_c, sgName_c, sgOwn_c, sOwnIx_c, siSeq_c, siEnum_c, siZip_c, siRange1_c, siRange2_c, siRangeD_c, slR1_c, slR2_c, sCall_c, sCallN_c, saNil_c, saCons_c, saBag_c, sComp_c, sRevL_c, sgTup_t, sgCons_c, sgNil_n, freezeSl, setUn, Slot.inner, List.map_cons, List.map_nil, List.replicate, List.cons_append, List.nil_append, List.append_nil, List.getElem?_cons_zero, List.getElem?_cons_succ, List.set_cons_zero, List.set_cons_succ, List.length_cons, List.length_nil, and_assoc, Option.some.injEq, PyData.list.injEq, PyData.tuple.injEq, toL_n, Nat.sub_self, Nat.zero_add, Nat.reduceAdd, Nat.reduceSub, true_and, and_true, addD_ii, subD_ii, ltD_ii, leD_ii, gtD_ii, geD_ii, negD_i, mulD_i, fdivD_i, modD_i, itemsD_l, itemsD_t, tupleB_l, tupleB_t, listB_l, listB_t, lenB_l, lenB_t, intB_i, intB_b, fold2_i, appendM_1, ixN_len, reduceCtorEq, reduceIte, Bool.and_self, Bool.true_and, Bool.false_and, Bool.and_true, Bool.and_false, Bool.not_true, Bool.not_false, PyData.isTuple, PyData.isInt, PyData.isBool, PyData.isList, PyData.isStr, isBLT]
  rw [show (2 : Int) + ((n : Int) - 2) = n by omega, show (n : Int) - 1 + ((s : Int) - (n : Int) + 1) = s by omega]
  refine sp_list (by omega) (by omega) (by omega) fun rows m1 hlen hrow hm1 hm2 => ?_
  simp -implicitDefEqProofs (disch := ((try simp only [List.length_map, List.length_append, List.length_cons, List.length_nil, List.length_take, List.length_drop, List.length_set, List.length_replicate, List.length_range, List.length_zipIdx, List.length_zip]); omega)) only [kVal_s, hold_c, kNx_c, kRt_c, kRtN_c, kAsg_c, kAsgF_c, kPar_c, kParF_c, kParF2_c, kExp_c, kFor_c, kIf_t, kIf_f, kIfV_t, kIfV_f, kOrT_t, kOrT_f, kAndT_t, kAndT_f, kNotT_c, kAnd_t, kAnd_f, kOr_t, kOr_f, kNot_b, kTest_b, kBin_c, kBin2_c, kUn_c, kChain_t, kChain_f, kCh1_c, kCh2_c, kRet_d, kRet_n, kRetN_n, kSome_i, kSlot_d, kDc_c, kDc2_c, kLst_c, kLen_c, kTup_c, kCB_c, kIsa_c, kSl1_c, kSl2_c, kSl3_c, kRtO_c, kOm_c, kOm2_c, kOm3_c, kSo_c, kSo2_c, kSo3_c, kOi_c, kOi2_c, kSeq_c, kEnum_c, kEnum2_c, kZip_c, kZip2_c, kZip3_c, kZip4_c, kRg1_c, kRg2_c, kRg2b_c, kRgD_c, kRgDb_c, kCall_c, kCallN_c, kAc_c, kAc2_c, kBag_b, kComp_c, kRev_c, kGc_c, kFl_c, compT_c, kCt_c, kCt2_t, kCt2_f, fnS_c, ssSeq_c, ssRet_c, ssRetF_c, ssRetOwn_c, ssRetN_c, ssAsg_c, ssAsgF_c, ssPar_c, ssParF_c, ssIf_c, ssExpr_c, ssNil_c, ssPass_c, ssBreak_c, ssCont_c, ssFor_c, ssFreeze_c, ssOwnM_c, sVar_c, sC_c, sBin_c, sUn_c, sTest_c, sNotT_c, sAndT_c, sOrT_c, sBorT_c, sAndV_c, sOrV_c, sNotV_c, sIf_c, sChain_c, stYes_c, sdNil_c, sdCons_c, sLst_c, sLen_c, sTup_c, sCallB_c, sCallL_c, sIsa_c, sSlice_c, soNone_c, soSome_c, sgName_c, sgOwn_c, sOwnIx_c, siSeq_c, siEnum_c, siZip_c, siRange1_c, siRange2_c, siRangeD_c, slR1_c, slR2_c, sCall_c, sCallN_c, saNil_c, saCons_c, saBag_c, sComp_c, sRevL_c, sgTup_t, sgCons_c, sgNil_n, freezeSl, setUn, Slot.inner, List.map_cons, List.map_nil, List.replicate, List.cons_append, List.nil_append, List.append_nil, List.getElem?_cons_zero, List.getElem?_cons_succ, List.set_cons_zero, List.set_cons_succ, List.length_cons, List.length_nil, and_assoc, Option.some.injEq, PyData.list.injEq, PyData.tuple.injEq, toL_n, Nat.sub_self, Nat.zero_add, Nat.reduceAdd, Nat.reduceSub, true_and, and_true, addD_ii, subD_ii, ltD_ii, leD_ii, gtD_ii, geD_ii, negD_i, mulD_i, fdivD_i, modD_i, itemsD_l, itemsD_t, tupleB_l, tupleB_t, listB_l, listB_t, lenB_l, lenB_t, intB_i, intB_b, fold2_i, appendM_1, ixN_len, reduceCtorEq, reduceIte, Bool.and_self, Bool.true_and, Bool.false_and, Bool.and_true, Bool.and_false, Bool.not_true, Bool.not_false, PyData.isTuple, PyData.isInt, PyData.isBool, PyData.isList, PyData.isStr, isBLT]
  refine sp_sums (n := n) (by omega) (fun e => by rw [e] at hlen; simp at hlen; omega) (fun r hr2 => (race_bnd (hrow r hr2)).1) ?_
  have hbal := col_bal hrow
  have hbnd : Bnd n 48 (colSum n rows) := (col_bnd rows _ 0 (rep_bnd n) hrow).mono (by
    rw [hlen]
    have : ((n * s : Nat) : Int) ≤ 48 := by omega
    rw [Int.natCast_mul] at this
    omega)
  rw [hlen] at hbal
  generalize colSum n rows = rs at hbal hbnd ⊢
  obtain ⟨rfl, hb2⟩ := hbnd
  have hok : okTot rs := ⟨by omega, fun x hx => by have := hb2 x hx; omega⟩
  have hpos : ∀ x ∈ rs, 0 ≤ x := fun x hx => (hb2 x hx).1
  simp -implicitDefEqProofs (disch := ((try simp only [List.length_map, List.length_append, List.length_cons, List.length_nil, List.length_take, List.length_drop, List.length_set, List.length_replicate, List.length_range, List.length_zipIdx, List.length_zip]); omega)) only [kVal_s, hold_c, kNx_c, kRt_c, kRtN_c, kAsg_c, kAsgF_c, kPar_c, kParF_c, kParF2_c, kExp_c, kFor_c, kIf_t, kIf_f, kIfV_t, kIfV_f, kOrT_t, kOrT_f, kAndT_t, kAndT_f, kNotT_c, kAnd_t, kAnd_f, kOr_t, kOr_f, kNot_b, kTest_b, kBin_c, kBin2_c, kUn_c, kChain_t, kChain_f, kCh1_c, kCh2_c, kRet_d, kRet_n, kRetN_n, kSome_i, kSlot_d, kDc_c, kDc2_c, kLst_c, kLen_c, kTup_c, kCB_c, kIsa_c, kSl1_c, kSl2_c, kSl3_c, kRtO_c, kOm_c, kOm2_c, kOm3_c, kSo_c, kSo2_c, kSo3_c, kOi_c, kOi2_c, kSeq_c, kEnum_c, kEnum2_c, kZip_c, kZip2_c, kZip3_c, kZip4_c, kRg1_c, kRg2_c, kRg2b_c, kRgD_c, kRgDb_c, kCall_c, kCallN_c, kAc_c, kAc2_c, kBag_b, kComp_c, kRev_c, kGc_c, kFl_c, compT_c, kCt_c, kCt2_t, kCt2_f, fnS_c, ssSeq_c, ssRet_c, ssRetF_c, ssRetOwn_c, ssRetN_c, ssAsg_c, ssAsgF_c, ssPar_c, ssParF_c, ssIf_c, ssExpr_c, ssNil_c, ssPass_c, ssBreak_c, ssCont_c, ssFor_c, ssFreeze_c, ssOwnM_c, sVar_c, sC_c, sBin_c, sUn_c, sTest_c, sNotT_c, sAndT_c, sOrT_c, sBorT_c, sAndV_c, sOrV_c, sNotV_c, sIf_c, sChain_c, stYes_c, sdNil_c, sdCons_c, sLst_c, sLen_c, sTup_c, sCallB_c, sCallL_c, sIsa_c, sSlice_c, soNone_c, soSome_c, sgName_c, sgOwn_c, sOwnIx_c, siSeq_c, siEnum_c, siZip_c, siRange1_c, siRange2_c, siRangeD_c, slR1_c, slR2_c, sCall_c, sCallN_c, saNil_c, saCons_c, saBag_c, sComp_c, sRevL_c, sgTup_t, sgCons_c, sgNil_n, freezeSl, setUn, Slot.inner, List.map_cons, List.map_nil, List.replicate, List.cons_append, List.nil_append, List.append_nil, List.getElem?_cons_zero, List.getElem?_cons_succ, List.set_cons_zero, List.set_cons_succ, List.length_cons, List.length_nil, and_assoc, Option.some.injEq, PyData.list.injEq, PyData.tuple.injEq, toL_n, Nat.sub_self, Nat.zero_add, Nat.reduceAdd, Nat.reduceSub, true_and, and_true, addD_ii, subD_ii, ltD_ii, leD_ii, gtD_ii, geD_ii, negD_i, mulD_i, fdivD_i, modD_i, itemsD_l, itemsD_t, tupleB_l, tupleB_t, listB_l, listB_t, lenB_l, lenB_t, intB_i, intB_b, fold2_i, appendM_1, ixN_len, reduceCtorEq, reduceIte, Bool.and_self, Bool.true_and, Bool.false_and, Bool.and_true, Bool.and_false, Bool.not_true, Bool.not_false, PyData.isTuple, PyData.isInt, PyData.isBool, PyData.isList, PyData.isStr, isBLT]
  refine sp_take (by omega) (by omega) fun one h10 h11 => ?_
  simp -implicitDefEqProofs (disch := ((try simp only [List.length_map, List.length_append, List.length_cons, List.length_nil, List.length_take, List.length_drop, List.length_set, List.length_replicate, List.length_range, List.length_zipIdx, List.length_zip]); omega)) only [kVal_s, hold_c, kNx_c, kRt_c, kRtN_c, kAsg_c, kAsgF_c, kPar_c, kParF_c, kParF2_c, kExp_c, kFor_c, kIf_t, kIf_f, kIfV_t, kIfV_f, kOrT_t, kOrT_f, kAndT_t, kAndT_f, kNotT_c, kAnd_t, kAnd_f, kOr_t, kOr_f, kNot_b, kTest_b, kBin_c, kBin2_c, kUn_c, kChain_t, kChain_f, kCh1_c, kCh2_c, kRet_d, kRet_n, kRetN_n, kSome_i, kSlot_d, kDc_c, kDc2_c, kLst_c, kLen_c, kTup_c, kCB_c, kIsa_c, kSl1_c, kSl2_c, kSl3_c, kRtO_c, kOm_c, kOm2_c, kOm3_c, kSo_c, kSo2_c, kSo3_c, kOi_c, kOi2_c, kSeq_c, kEnum_c, kEnum2_c, kZip_c, kZip2_c, kZip3_c, kZip4_c, kRg1_c, kRg2_c, kRg2b_c, kRgD_c, kRgDb_c, kCall_c, kCallN_c, kAc_c, kAc2_c, kBag_b, kComp_c, kRev_c, kGc_c, kFl_c, compT_c, kCt_c, kCt2_t, kCt2_f, fnS_c, ssSeq_c, ssRet_c, ssRetF_c, ssRetOwn_c, ssRetN_c, ssAsg_c, ssAsgF_c, ssPar_c, ssParF_c, ssIf_c, ssExpr_c, ssNil_c, ssPass_c, ssBreak_c, ssCont_c, ssFor_c, ssFreeze_c, ssOwnM_c, sVar_c, sC_c, sBin_c, sUn_c, sTest_c, sNotT_c, sAndT_c, sOrT_c, sBorT_c, sAndV_c, sOrV_c, sNotV_c, sIf_c, sChain_c, stYes_c, sdNil_c, sdCons_c, sLst_c, sLen_c, sTup_c, sCallB_c, sCallL_c, sIsa_c, sSlice_c, soNone_c, soSome_c, sgName_c, sgOwn_c, sOwnIx_c, siSeq_c, siEnum_c, siZip_c, siRange1_c, siRange2_c, siRangeD_c, slR1_c, slR2_c, sCall_c, sCallN_c, saNil_c, saCons_c, saBag_c, sComp_c, sRevL_c, sgTup_t, sgCons_c, sgNil_n, freezeSl, setUn, Slot.inner, List.map_cons, List.map_nil, List.replicate, List.cons_append, List.nil_append, List.append_nil, List.getElem?_cons_zero, List.getElem?_cons_succ, List.set_cons_zero, List.set_cons_succ, List.length_cons, List.length_nil, and_assoc, Option.some.injEq, PyData.list.injEq, PyData.tuple.injEq, toL_n, Nat.sub_self, Nat.zero_add, Nat.reduceAdd, Nat.reduceSub, true_and, and_true, addD_ii, subD_ii, ltD_ii, leD_ii, gtD_ii, geD_ii, negD_i, mulD_i, fdivD_i, modD_i, itemsD_l, itemsD_t, tupleB_l, tupleB_t, listB_l, listB_t, lenB_l, lenB_t, intB_i, intB_b, fold2_i, appendM_1, ixN_len, reduceCtorEq, reduceIte, Bool.and_self, Bool.true_and, Bool.false_and, Bool.and_true, Bool.and_false, Bool.not_true, Bool.not_false, PyData.isTuple, PyData.isInt, PyData.isBool, PyData.isList, PyData.isStr, isBLT]
  refine sp_take (by omega) (by omega) fun y hy0 hy1 => ?_
  obtain ⟨h2, hne⟩ := pick_other hn ⟨h10, h11⟩ ⟨hy0, hy1⟩
  simp -implicitDefEqProofs (disch := ((try simp only [List.length_map, List.length_append, List.length_cons, List.length_nil, List.length_take, List.length_drop, List.length_set, List.length_replicate, List.length_range, List.length_zipIdx, List.length_zip]); omega)) only [kVal_s, hold_c, kNx_c, kRt_c, kRtN_c, kAsg_c, kAsgF_c, kPar_c, kParF_c, kParF2_c, kExp_c, kFor_c, kIf_t, kIf_f, kIfV_t, kIfV_f, kOrT_t, kOrT_f, kAndT_t, kAndT_f, kNotT_c, kAnd_t, kAnd_f, kOr_t, kOr_f, kNot_b, kTest_b, kBin_c, kBin2_c, kUn_c, kChain_t, kChain_f, kCh1_c, kCh2_c, kRet_d, kRet_n, kRetN_n, kSome_i, kSlot_d, kDc_c, kDc2_c, kLst_c, kLen_c, kTup_c, kCB_c, kIsa_c, kSl1_c, kSl2_c, kSl3_c, kRtO_c, kOm_c, kOm2_c, kOm3_c, kSo_c, kSo2_c, kSo3_c, kOi_c, kOi2_c, kSeq_c, kEnum_c, kEnum2_c, kZip_c, kZip2_c, kZip3_c, kZip4_c, kRg1_c, kRg2_c, kRg2b_c, kRgD_c, kRgDb_c, kCall_c, kCallN_c, kAc_c, kAc2_c, kBag_b, kComp_c, kRev_c, kGc_c, kFl_c, compT_c, kCt_c, kCt2_t, kCt2_f, fnS_c, ssSeq_c, ssRet_c, ssRetF_c, ssRetOwn_c, ssRetN_c, ssAsg_c, ssAsgF_c, ssPar_c, ssParF_c, ssIf_c, ssExpr_c, ssNil_c, ssPass_c, ssBreak_c, ssCont_c, ssFor_c, ssFreeze_c, ssOwnM_c, sVar_c, sC_c, sBin_c, sUn_c, sTest_c, sNotT_c, sAndT_c, sOrT_c, sBorT_c, sAndV_c, sOrV_c, sNotV_c, sIf_c, sChain_c, stYes_c, sdNil_c, sdCons_c, sLst_c, sLen_c, sTup_c, sCallB_c, sCallL_c, sIsa_c, sSlice_c, soNone_c, soSome_c, sgName_c, sgOwn_c, sOwnIx_c, siSeq_c, siEnum_c, siZip_c, siRange1_c, siRange2_c, siRangeD_c, slR1_c, slR2_c, sCall_c, sCallN_c, saNil_c, saCons_c, saBag_c, sComp_c, sRevL_c, sgTup_t, sgCons_c, sgNil_n, freezeSl, setUn, Slot.inner, List.map_cons, List.map_nil, List.replicate, List.cons_append, List.nil_append, List.append_nil, List.getElem?_cons_zero, List.getElem?_cons_succ, List.set_cons_zero, List.set_cons_succ, List.length_cons, List.length_nil, and_assoc, Option.some.injEq, PyData.list.injEq, PyData.tuple.injEq, toL_n, Nat.sub_self, Nat.zero_add, Nat.reduceAdd, Nat.reduceSub, true_and, and_true, addD_ii, subD_ii, ltD_ii, leD_ii, gtD_ii, geD_ii, negD_i, mulD_i, fdivD_i, modD_i, itemsD_l, itemsD_t, tupleB_l, tupleB_t, listB_l, listB_t, lenB_l, lenB_t, intB_i, intB_b, fold2_i, appendM_1, ixN_len, reduceCtorEq, reduceIte, Bool.and_self, Bool.true_and, Bool.false_and, Bool.and_true, Bool.and_false, Bool.not_true, Bool.not_false, PyData.isTuple, PyData.isInt, PyData.isBool, PyData.isList, PyData.isStr, isBLT]
  generalize (one + 1 + y) % (rs.length : Int) = other at h2 hne ⊢
  have h1 : 0 ≤ one ∧ one < rs.length := ⟨h10, h11⟩
  have hboth := both_of hbal h1 h2 hne
  have hg1 : 0 ≤ rs.getD one.toNat 0 ∧ rs.getD one.toNat 0 ≤ 48 := Bnd.getD (n := rs.length) (B := 48) ⟨rfl, hb2⟩ (by omega)
  have hg2 : 0 ≤ rs.getD other.toNat 0 ∧ rs.getD other.toNat 0 ≤ 48 := Bnd.getD (n := rs.length) (B := 48) ⟨rfl, hb2⟩ (by omega)
  simp -implicitDefEqProofs (disch := ((try simp only [List.length_map, List.length_append, List.length_cons, List.length_nil, List.length_take, List.length_drop, List.length_set, List.length_replicate, List.length_range, List.length_zipIdx, List.length_zip]); omega)) only [kVal_s, hold_c, kNx_c, kRt_c, kRtN_c, kAsg_c, kAsgF_c, kPar_c, kParF_c, kParF2_c, kExp_c, kFor_c, kIf_t, kIf_f, kIfV_t, kIfV_f, kOrT_t, kOrT_f, kAndT_t, kAndT_f, kNotT_c, kAnd_t, kAnd_f, kOr_t, kOr_f, kNot_b, kTest_b, kBin_c, kBin2_c, kUn_c, kChain_t, kChain_f, kCh1_c, kCh2_c, kRet_d, kRet_n, kRetN_n, kSome_i, kSlot_d, kDc_c, kDc2_c, kLst_c, kLen_c, kTup_c, kCB_c, kIsa_c, kSl1_c, kSl2_c, kSl3_c, kRtO_c, kOm_c, kOm2_c, kOm3_c, kSo_c, kSo2_c, kSo3_c, kOi_c, kOi2_c, kSeq_c, kEnum_c, kEnum2_c, kZip_c, kZip2_c, kZip3_c, kZip4_c, kRg1_c, kRg2_c, kRg2b_c, kRgD_c, kRgDb_c, kCall_c, kCallN_c, kAc_c, kAc2_c, kBag_b, kComp_c, kRev_c, kGc_c, kFl_c, compT_c, kCt_c, kCt2_t, kCt2_f, fnS_c, ssSeq_c, ssRet_c, ssRetF_c, ssRetOwn_c, ssRetN_c, ssAsg_c, ssAsgF_c, ssPar_c, ssParF_c, ssIf_c, ssExpr_c, ssNil_c, ssPass_c, ssBreak_c, ssCont_c, ssFor_c, ssFreeze_c, ssOwnM_c, sVar_c, sC_c, sBin_c, sUn_c, sTest_c, sNotT_c, sAndT_c, sOrT_c, sBorT_c, sAndV_c, sOrV_c, sNotV_c, sIf_c, sChain_c, stYes_c, sdNil_c, sdCons_c, sLst_c, sLen_c, sTup_c, sCallB_c, sCallL_c, sIsa_c, sSlice_c, soNone_c, soSome_c, sgName_c, sgOwn_c, sOwnIx_c, siSeq_c, siEnum_c, siZip_c, siRange1_c, siRange2_c, siRangeD_c, slR1_c, slR2_c, sCall_c, sCallN_c, saNil_c, saCons_c, saBag_c, sComp_c, sRevL_c, sgTup_t, sgCons_c, sgNil_n, freezeSl, setUn, Slot.inner, List.map_cons, List.map_nil, List.replicate, List.cons_append, List.nil_append, List.append_nil, List.getElem?_cons_zero, List.getElem?_cons_succ, List.set_cons_zero, List.set_cons_succ, List.length_cons, List.length_nil, and_assoc, Option.some.injEq, PyData.list.injEq, PyData.tuple.injEq, toL_n, Nat.sub_self, Nat.zero_add, Nat.reduceAdd, Nat.reduceSub, true_and, and_true, addD_ii, subD_ii, ltD_ii, leD_ii, gtD_ii, geD_ii, negD_i, mulD_i, fdivD_i, modD_i, itemsD_l, itemsD_t, tupleB_l, tupleB_t, listB_l, listB_t, lenB_l, lenB_t, intB_i, intB_b, fold2_i, appendM_1, ixN_len, reduceCtorEq, reduceIte, Bool.and_self, Bool.true_and, Bool.false_and, Bool.and_true, Bool.and_false, Bool.not_true, Bool.not_false, PyData.isTuple, PyData.isInt, PyData.isBool, PyData.isList, PyData.isStr, isBLT, tI, ixD_t]
  refine ⟨by decide, ?_⟩
  rw [← hboth]
  have hB : 0 ≤ bothOf rs (s : Int) one other ∧ bothOf rs (s : Int) one other ≤ 96 := by omega
  refine ⟨by omega, by omega, ?_⟩
  rw [range_enc, show (bothOf rs (s : Int) one other + 1).toNat = (max 0 (bothOf rs (s : Int) one other + 1)).toNat by omega]
  refine lp12_law (rs := rs) (by omega) h1 h2 (upTo (bothOf rs (s : Int) one other)) [] _ _ (by rw [upTo, List.length_map, List.length_range]; show _ + 0 ≤ 1000; omega) fun x10 x11 => ?_
  rw [List.nil_append, show ((upTo (bothOf rs (s : Int) one other)).filter (goodF rs (s : Int) one other (bothOf rs (s : Int) one other))).map (fun f => (f, bothOf rs (s : Int) one other - f)) = unreadL rs (s : Int) one other from rfl]
  have h8 : 1 ≤ (s : Int) ∧ (s : Int) ≤ 8 := by omega
  have hns1 : (rs.length : Int) - 1 ≤ (s : Int) := by omega
  have hul : (unreadL rs (s : Int) one other).length ≤ 1000 := by
    show (((upTo _).filter _).map _).length ≤ 1000
    rw [List.length_map]
    refine Nat.le_trans (List.length_filter_le _ _) ?_
    rw [upTo, List.length_map, List.length_range]
    omega
  simp -implicitDefEqProofs (disch := ((try simp only [List.length_map, List.length_append, List.length_cons, List.length_nil, List.length_take, List.length_drop, List.length_set, List.length_replicate, List.length_range, List.length_zipIdx, List.length_zip]); omega)) only [kVal_s, hold_c, kNx_c, kRt_c, kRtN_c, kAsg_c, kAsgF_c, kPar_c, kParF_c, kParF2_c, kExp_c, kFor_c, kIf_t, kIf_f, kIfV_t, kIfV_f, kOrT_t, kOrT_f, kAndT_t, kAndT_f, kNotT_c, kAnd_t, kAnd_f, kOr_t, kOr_f, kNot_b, kTest_b, kBin_c, kBin2_c, kUn_c, kChain_t, kChain_f, kCh1_c, kCh2_c, kRet_d, kRet_n, kRetN_n, kSome_i, kSlot_d, kDc_c, kDc2_c, kLst_c, kLen_c, kTup_c, kCB_c, kIsa_c, kSl1_c, kSl2_c, kSl3_c, kRtO_c, kOm_c, kOm2_c, kOm3_c, kSo_c, kSo2_c, kSo3_c, kOi_c, kOi2_c, kSeq_c, kEnum_c, kEnum2_c, kZip_c, kZip2_c, kZip3_c, kZip4_c, kRg1_c, kRg2_c, kRg2b_c, kRgD_c, kRgDb_c, kCall_c, kCallN_c, kAc_c, kAc2_c, kBag_b, kComp_c, kRev_c, kGc_c, kFl_c, compT_c, kCt_c, kCt2_t, kCt2_f, fnS_c, ssSeq_c, ssRet_c, ssRetF_c, ssRetOwn_c, ssRetN_c, ssAsg_c, ssAsgF_c, ssPar_c, ssParF_c, ssIf_c, ssExpr_c, ssNil_c, ssPass_c, ssBreak_c, ssCont_c, ssFor_c, ssFreeze_c, ssOwnM_c, sVar_c, sC_c, sBin_c, sUn_c, sTest_c, sNotT_c, sAndT_c, sOrT_c, sBorT_c, sAndV_c, sOrV_c, sNotV_c, sIf_c, sChain_c, stYes_c, sdNil_c, sdCons_c, sLst_c, sLen_c, sTup_c, sCallB_c, sCallL_c, sIsa_c, sSlice_c, soNone_c, soSome_c, sgName_c, sgOwn_c, sOwnIx_c, siSeq_c, siEnum_c, siZip_c, siRange1_c, siRange2_c, siRangeD_c, slR1_c, slR2_c, sCall_c, sCallN_c, saNil_c, saCons_c, saBag_c, sComp_c, sRevL_c, sgTup_t, sgCons_c, sgNil_n, freezeSl, setUn, Slot.inner, List.map_cons, List.map_nil, List.replicate, List.cons_append, List.nil_append, List.append_nil, List.getElem?_cons_zero, List.getElem?_cons_succ, List.set_cons_zero, List.set_cons_succ, List.length_cons, List.length_nil, and_assoc, Option.some.injEq, PyData.list.injEq, PyData.tuple.injEq, toL_n, Nat.sub_self, Nat.zero_add, Nat.reduceAdd, Nat.reduceSub, true_and, and_true, addD_ii, subD_ii, ltD_ii, leD_ii, gtD_ii, geD_ii, negD_i, mulD_i, fdivD_i, modD_i, itemsD_l, itemsD_t, tupleB_l, tupleB_t, listB_l, listB_t, lenB_l, lenB_t, intB_i, intB_b, fold2_i, appendM_1, ixN_len, reduceCtorEq, reduceIte, Bool.and_self, Bool.true_and, Bool.false_and, Bool.and_true, Bool.and_false, Bool.not_true, Bool.not_false, PyData.isTuple, PyData.isInt, PyData.isBool, PyData.isList, PyData.isStr, isBLT]
  refine sp_unreadN hok h8 hns1 h1 h2 hne ?_
  simp -implicitDefEqProofs (disch := ((try simp only [List.length_map, List.length_append, List.length_cons, List.length_nil, List.length_take, List.length_drop, List.length_set, List.length_replicate, List.length_range, List.length_zipIdx, List.length_zip]); omega)) only [kVal_s, hold_c, kNx_c, kRt_c, kRtN_c, kAsg_c, kAsgF_c, kPar_c, kParF_c, kParF2_c, kExp_c, kFor_c, kIf_t, kIf_f, kIfV_t, kIfV_f, kOrT_t, kOrT_f, kAndT_t, kAndT_f, kNotT_c, kAnd_t, kAnd_f, kOr_t, kOr_f, kNot_b, kTest_b, kBin_c, kBin2_c, kUn_c, kChain_t, kChain_f, kCh1_c, kCh2_c, kRet_d, kRet_n, kRetN_n, kSome_i, kSlot_d, kDc_c, kDc2_c, kLst_c, kLen_c, kTup_c, kCB_c, kIsa_c, kSl1_c, kSl2_c, kSl3_c, kRtO_c, kOm_c, kOm2_c, kOm3_c, kSo_c, kSo2_c, kSo3_c, kOi_c, kOi2_c, kSeq_c, kEnum_c, kEnum2_c, kZip_c, kZip2_c, kZip3_c, kZip4_c, kRg1_c, kRg2_c, kRg2b_c, kRgD_c, kRgDb_c, kCall_c, kCallN_c, kAc_c, kAc2_c, kBag_b, kComp_c, kRev_c, kGc_c, kFl_c, compT_c, kCt_c, kCt2_t, kCt2_f, fnS_c, ssSeq_c, ssRet_c, ssRetF_c, ssRetOwn_c, ssRetN_c, ssAsg_c, ssAsgF_c, ssPar_c, ssParF_c, ssIf_c, ssExpr_c, ssNil_c, ssPass_c, ssBreak_c, ssCont_c, ssFor_c, ssFreeze_c, ssOwnM_c, sVar_c, sC_c, sBin_c, sUn_c, sTest_c, sNotT_c, sAndT_c, sOrT_c, sBorT_c, sAndV_c, sOrV_c, sNotV_c, sIf_c, sChain_c, stYes_c, sdNil_c, sdCons_c, sLst_c, sLen_c, sTup_c, sCallB_c, sCallL_c, sIsa_c, sSlice_c, soNone_c, soSome_c, sgName_c, sgOwn_c, sOwnIx_c, siSeq_c, siEnum_c, siZip_c, siRange1_c, siRange2_c, siRangeD_c, slR1_c, slR2_c, sCall_c, sCallN_c, saNil_c, saCons_c, saBag_c, sComp_c, sRevL_c, sgTup_t, sgCons_c, sgNil_n, freezeSl, setUn, Slot.inner, List.map_cons, List.map_nil, List.replicate, List.cons_append, List.nil_append, List.append_nil, List.getElem?_cons_zero, List.getElem?_cons_succ, List.set_cons_zero, List.set_cons_succ, List.length_cons, List.length_nil, and_assoc, Option.some.injEq, PyData.list.injEq, PyData.tuple.injEq, toL_n, Nat.sub_self, Nat.zero_add, Nat.reduceAdd, Nat.reduceSub, true_and, and_true, addD_ii, subD_ii, ltD_ii, leD_ii, gtD_ii, geD_ii, negD_i, mulD_i, fdivD_i, modD_i, itemsD_l, itemsD_t, tupleB_l, tupleB_t, listB_l, listB_t, lenB_l, lenB_t, intB_i, intB_b, fold2_i, appendM_1, ixN_len, reduceCtorEq, reduceIte, Bool.and_self, Bool.true_and, Bool.false_and, Bool.and_true, Bool.and_false, Bool.not_true, Bool.not_false, PyData.isTuple, PyData.isInt, PyData.isBool, PyData.isList, PyData.isStr, isBLT]
  refine sp_same ((ok_lP (Nat.le_trans hul (by decide))).up (by decide)) ?_
  simp -implicitDefEqProofs (disch := ((try simp only [List.length_map, List.length_append, List.length_cons, List.length_nil, List.length_take, List.length_drop, List.length_set, List.length_replicate, List.length_range, List.length_zipIdx, List.length_zip]); omega)) only [kVal_s, hold_c, kNx_c, kRt_c, kRtN_c, kAsg_c, kAsgF_c, kPar_c, kParF_c, kParF2_c, kExp_c, kFor_c, kIf_t, kIf_f, kIfV_t, kIfV_f, kOrT_t, kOrT_f, kAndT_t, kAndT_f, kNotT_c, kAnd_t, kAnd_f, kOr_t, kOr_f, kNot_b, kTest_b, kBin_c, kBin2_c, kUn_c, kChain_t, kChain_f, kCh1_c, kCh2_c, kRet_d, kRet_n, kRetN_n, kSome_i, kSlot_d, kDc_c, kDc2_c, kLst_c, kLen_c, kTup_c, kCB_c, kIsa_c, kSl1_c, kSl2_c, kSl3_c, kRtO_c, kOm_c, kOm2_c, kOm3_c, kSo_c, kSo2_c, kSo3_c, kOi_c, kOi2_c, kSeq_c, kEnum_c, kEnum2_c, kZip_c, kZip2_c, kZip3_c, kZip4_c, kRg1_c, kRg2_c, kRg2b_c, kRgD_c, kRgDb_c, kCall_c, kCallN_c, kAc_c, kAc2_c, kBag_b, kComp_c, kRev_c, kGc_c, kFl_c, compT_c, kCt_c, kCt2_t, kCt2_f, fnS_c, ssSeq_c, ssRet_c, ssRetF_c, ssRetOwn_c, ssRetN_c, ssAsg_c, ssAsgF_c, ssPar_c, ssParF_c, ssIf_c, ssExpr_c, ssNil_c, ssPass_c, ssBreak_c, ssCont_c, ssFor_c, ssFreeze_c, ssOwnM_c, sVar_c, sC_c, sBin_c, sUn_c, sTest_c, sNotT_c, sAndT_c, sOrT_c, sBorT_c, sAndV_c, sOrV_c, sNotV_c, sIf_c, sChain_c, stYes_c, sdNil_c, sdCons_c, sLst_c, sLen_c, sTup_c, sCallB_c, sCallL_c, sIsa_c, sSlice_c, soNone_c, soSome_c, sgName_c, sgOwn_c, sOwnIx_c, siSeq_c, siEnum_c, siZip_c, siRange1_c, siRange2_c, siRangeD_c, slR1_c, slR2_c, sCall_c, sCallN_c, saNil_c, saCons_c, saBag_c, sComp_c, sRevL_c, sgTup_t, sgCons_c, sgNil_n, freezeSl, setUn, Slot.inner, List.map_cons, List.map_nil, List.replicate, List.cons_append, List.nil_append, List.append_nil, List.getElem?_cons_zero, List.getElem?_cons_succ, List.set_cons_zero, List.set_cons_succ, List.length_cons, List.length_nil, and_assoc, Option.some.injEq, PyData.list.injEq, PyData.tuple.injEq, toL_n, Nat.sub_self, Nat.zero_add, Nat.reduceAdd, Nat.reduceSub, true_and, and_true, addD_ii, subD_ii, ltD_ii, leD_ii, gtD_ii, geD_ii, negD_i, mulD_i, fdivD_i, modD_i, itemsD_l, itemsD_t, tupleB_l, tupleB_t, listB_l, listB_t, lenB_l, lenB_t, intB_i, intB_b, fold2_i, appendM_1, ixN_len, reduceCtorEq, reduceIte, Bool.and_self, Bool.true_and, Bool.false_and, Bool.and_true, Bool.and_false, Bool.not_true, Bool.not_false, PyData.isTuple, PyData.isInt, PyData.isBool, PyData.isList, PyData.isStr, isBLT, tI, ixD_t]
  refine ⟨by decide, ?_⟩
  rw [show PyData.tuple [.int (rs.getD one.toNat 0), .int (rs.getD other.toNat 0)] = pI (rs.getD one.toNat 0, rs.getD other.toNat 0) from rfl, inD_P, decide_eq_true (true_told hpos hbal h1 h2 hne)]
  simp -implicitDefEqProofs (disch := ((try simp only [List.length_map, List.length_append, List.length_cons, List.length_nil, List.length_take, List.length_drop, List.length_set, List.length_replicate, List.length_range, List.length_zipIdx, List.length_zip]); omega)) only [kVal_s, hold_c, kNx_c, kRt_c, kRtN_c, kAsg_c, kAsgF_c, kPar_c, kParF_c, kParF2_c, kExp_c, kFor_c, kIf_t, kIf_f, kIfV_t, kIfV_f, kOrT_t, kOrT_f, kAndT_t, kAndT_f, kNotT_c, kAnd_t, kAnd_f, kOr_t, kOr_f, kNot_b, kTest_b, kBin_c, kBin2_c, kUn_c, kChain_t, kChain_f, kCh1_c, kCh2_c, kRet_d, kRet_n, kRetN_n, kSome_i, kSlot_d, kDc_c, kDc2_c, kLst_c, kLen_c, kTup_c, kCB_c, kIsa_c, kSl1_c, kSl2_c, kSl3_c, kRtO_c, kOm_c, kOm2_c, kOm3_c, kSo_c, kSo2_c, kSo3_c, kOi_c, kOi2_c, kSeq_c, kEnum_c, kEnum2_c, kZip_c, kZip2_c, kZip3_c, kZip4_c, kRg1_c, kRg2_c, kRg2b_c, kRgD_c, kRgDb_c, kCall_c, kCallN_c, kAc_c, kAc2_c, kBag_b, kComp_c, kRev_c, kGc_c, kFl_c, compT_c, kCt_c, kCt2_t, kCt2_f, fnS_c, ssSeq_c, ssRet_c, ssRetF_c, ssRetOwn_c, ssRetN_c, ssAsg_c, ssAsgF_c, ssPar_c, ssParF_c, ssIf_c, ssExpr_c, ssNil_c, ssPass_c, ssBreak_c, ssCont_c, ssFor_c, ssFreeze_c, ssOwnM_c, sVar_c, sC_c, sBin_c, sUn_c, sTest_c, sNotT_c, sAndT_c, sOrT_c, sBorT_c, sAndV_c, sOrV_c, sNotV_c, sIf_c, sChain_c, stYes_c, sdNil_c, sdCons_c, sLst_c, sLen_c, sTup_c, sCallB_c, sCallL_c, sIsa_c, sSlice_c, soNone_c, soSome_c, sgName_c, sgOwn_c, sOwnIx_c, siSeq_c, siEnum_c, siZip_c, siRange1_c, siRange2_c, siRangeD_c, slR1_c, slR2_c, sCall_c, sCallN_c, saNil_c, saCons_c, saBag_c, sComp_c, sRevL_c, sgTup_t, sgCons_c, sgNil_n, freezeSl, setUn, Slot.inner, List.map_cons, List.map_nil, List.replicate, List.cons_append, List.nil_append, List.append_nil, List.getElem?_cons_zero, List.getElem?_cons_succ, List.set_cons_zero, List.set_cons_succ, List.length_cons, List.length_nil, and_assoc, Option.some.injEq, PyData.list.injEq, PyData.tuple.injEq, toL_n, Nat.sub_self, Nat.zero_add, Nat.reduceAdd, Nat.reduceSub, true_and, and_true, addD_ii, subD_ii, ltD_ii, leD_ii, gtD_ii, geD_ii, negD_i, mulD_i, fdivD_i, modD_i, itemsD_l, itemsD_t, tupleB_l, tupleB_t, listB_l, listB_t, lenB_l, lenB_t, intB_i, intB_b, fold2_i, appendM_1, ixN_len, reduceCtorEq, reduceIte, Bool.and_self, Bool.true_and, Bool.false_and, Bool.and_true, Bool.and_false, Bool.not_true, Bool.not_false, PyData.isTuple, PyData.isInt, PyData.isBool, PyData.isList, PyData.isStr, isBLT]
  refine sp_take (by decide) (by omega) fun c hc0 hc1 => ?_
  simp -implicitDefEqProofs (disch := ((try simp only [List.length_map, List.length_append, List.length_cons, List.length_nil, List.length_take, List.length_drop, List.length_set, List.length_replicate, List.length_range, List.length_zipIdx, List.length_zip]); omega)) only [kVal_s, hold_c, kNx_c, kRt_c, kRtN_c, kAsg_c, kAsgF_c, kPar_c, kParF_c, kParF2_c, kExp_c, kFor_c, kIf_t, kIf_f, kIfV_t, kIfV_f, kOrT_t, kOrT_f, kAndT_t, kAndT_f, kNotT_c, kAnd_t, kAnd_f, kOr_t, kOr_f, kNot_b, kTest_b, kBin_c, kBin2_c, kUn_c, kChain_t, kChain_f, kCh1_c, kCh2_c, kRet_d, kRet_n, kRetN_n, kSome_i, kSlot_d, kDc_c, kDc2_c, kLst_c, kLen_c, kTup_c, kCB_c, kIsa_c, kSl1_c, kSl2_c, kSl3_c, kRtO_c, kOm_c, kOm2_c, kOm3_c, kSo_c, kSo2_c, kSo3_c, kOi_c, kOi2_c, kSeq_c, kEnum_c, kEnum2_c, kZip_c, kZip2_c, kZip3_c, kZip4_c, kRg1_c, kRg2_c, kRg2b_c, kRgD_c, kRgDb_c, kCall_c, kCallN_c, kAc_c, kAc2_c, kBag_b, kComp_c, kRev_c, kGc_c, kFl_c, compT_c, kCt_c, kCt2_t, kCt2_f, fnS_c, ssSeq_c, ssRet_c, ssRetF_c, ssRetOwn_c, ssRetN_c, ssAsg_c, ssAsgF_c, ssPar_c, ssParF_c, ssIf_c, ssExpr_c, ssNil_c, ssPass_c, ssBreak_c, ssCont_c, ssFor_c, ssFreeze_c, ssOwnM_c, sVar_c, sC_c, sBin_c, sUn_c, sTest_c, sNotT_c, sAndT_c, sOrT_c, sBorT_c, sAndV_c, sOrV_c, sNotV_c, sIf_c, sChain_c, stYes_c, sdNil_c, sdCons_c, sLst_c, sLen_c, sTup_c, sCallB_c, sCallL_c, sIsa_c, sSlice_c, soNone_c, soSome_c, sgName_c, sgOwn_c, sOwnIx_c, siSeq_c, siEnum_c, siZip_c, siRange1_c, siRange2_c, siRangeD_c, slR1_c, slR2_c, sCall_c, sCallN_c, saNil_c, saCons_c, saBag_c, sComp_c, sRevL_c, sgTup_t, sgCons_c, sgNil_n, freezeSl, setUn, Slot.inner, List.map_cons, List.map_nil, List.replicate, List.cons_append, List.nil_append, List.append_nil, List.getElem?_cons_zero, List.getElem?_cons_succ, List.set_cons_zero, List.set_cons_succ, List.length_cons, List.length_nil, and_assoc, Option.some.injEq, PyData.list.injEq, PyData.tuple.injEq, toL_n, Nat.sub_self, Nat.zero_add, Nat.reduceAdd, Nat.reduceSub, true_and, and_true, addD_ii, subD_ii, ltD_ii, leD_ii, gtD_ii, geD_ii, negD_i, mulD_i, fdivD_i, modD_i, itemsD_l, itemsD_t, tupleB_l, tupleB_t, listB_l, listB_t, lenB_l, lenB_t, intB_i, intB_b, fold2_i, appendM_1, ixN_len, reduceCtorEq, reduceIte, Bool.and_self, Bool.true_and, Bool.false_and, Bool.and_true, Bool.and_false, Bool.not_true, Bool.not_false, PyData.isTuple, PyData.isInt, PyData.isBool, PyData.isList, PyData.isStr, isBLT]
  refine ⟨by decide, ?_⟩
  rw [← List.map_set, ← List.map_set]
  have hl' : ((rs.set one.toNat c).set other.toNat 100).length = rs.length := by rw [List.length_set, List.length_set]
  have hok' : okTot ((rs.set one.toNat c).set other.toNat 100) := by
    refine ⟨by rw [hl']; omega, fun x hx => ?_⟩
    rcases List.mem_or_eq_of_mem_set hx with e | e
    · rcases List.mem_or_eq_of_mem_set e with e | e
      · have := hb2 x e; omega
      · omega
    · omega
  refine sp_unreadN (rs := (rs.set one.toNat c).set other.toNat 100) hok' h8 (by rw [hl']; exact hns1) (by rw [hl']; exact h1) (by rw [hl']; exact h2) hne ?_
  rw [unread_same h1 h2 hne]
  simp -implicitDefEqProofs (disch := ((try simp only [List.length_map, List.length_append, List.length_cons, List.length_nil, List.length_take, List.length_drop, List.length_set, List.length_replicate, List.length_range, List.length_zipIdx, List.length_zip]); omega)) only [kVal_s, hold_c, kNx_c, kRt_c, kRtN_c, kAsg_c, kAsgF_c, kPar_c, kParF_c, kParF2_c, kExp_c, kFor_c, kIf_t, kIf_f, kIfV_t, kIfV_f, kOrT_t, kOrT_f, kAndT_t, kAndT_f, kNotT_c, kAnd_t, kAnd_f, kOr_t, kOr_f, kNot_b, kTest_b, kBin_c, kBin2_c, kUn_c, kChain_t, kChain_f, kCh1_c, kCh2_c, kRet_d, kRet_n, kRetN_n, kSome_i, kSlot_d, kDc_c, kDc2_c, kLst_c, kLen_c, kTup_c, kCB_c, kIsa_c, kSl1_c, kSl2_c, kSl3_c, kRtO_c, kOm_c, kOm2_c, kOm3_c, kSo_c, kSo2_c, kSo3_c, kOi_c, kOi2_c, kSeq_c, kEnum_c, kEnum2_c, kZip_c, kZip2_c, kZip3_c, kZip4_c, kRg1_c, kRg2_c, kRg2b_c, kRgD_c, kRgDb_c, kCall_c, kCallN_c, kAc_c, kAc2_c, kBag_b, kComp_c, kRev_c, kGc_c, kFl_c, compT_c, kCt_c, kCt2_t, kCt2_f, fnS_c, ssSeq_c, ssRet_c, ssRetF_c, ssRetOwn_c, ssRetN_c, ssAsg_c, ssAsgF_c, ssPar_c, ssParF_c, ssIf_c, ssExpr_c, ssNil_c, ssPass_c, ssBreak_c, ssCont_c, ssFor_c, ssFreeze_c, ssOwnM_c, sVar_c, sC_c, sBin_c, sUn_c, sTest_c, sNotT_c, sAndT_c, sOrT_c, sBorT_c, sAndV_c, sOrV_c, sNotV_c, sIf_c, sChain_c, stYes_c, sdNil_c, sdCons_c, sLst_c, sLen_c, sTup_c, sCallB_c, sCallL_c, sIsa_c, sSlice_c, soNone_c, soSome_c, sgName_c, sgOwn_c, sOwnIx_c, siSeq_c, siEnum_c, siZip_c, siRange1_c, siRange2_c, siRangeD_c, slR1_c, slR2_c, sCall_c, sCallN_c, saNil_c, saCons_c, saBag_c, sComp_c, sRevL_c, sgTup_t, sgCons_c, sgNil_n, freezeSl, setUn, Slot.inner, List.map_cons, List.map_nil, List.replicate, List.cons_append, List.nil_append, List.append_nil, List.getElem?_cons_zero, List.getElem?_cons_succ, List.set_cons_zero, List.set_cons_succ, List.length_cons, List.length_nil, and_assoc, Option.some.injEq, PyData.list.injEq, PyData.tuple.injEq, toL_n, Nat.sub_self, Nat.zero_add, Nat.reduceAdd, Nat.reduceSub, true_and, and_true, addD_ii, subD_ii, ltD_ii, leD_ii, gtD_ii, geD_ii, negD_i, mulD_i, fdivD_i, modD_i, itemsD_l, itemsD_t, tupleB_l, tupleB_t, listB_l, listB_t, lenB_l, lenB_t, intB_i, intB_b, fold2_i, appendM_1, ixN_len, reduceCtorEq, reduceIte, Bool.and_self, Bool.true_and, Bool.false_and, Bool.and_true, Bool.and_false, Bool.not_true, Bool.not_false, PyData.isTuple, PyData.isInt, PyData.isBool, PyData.isList, PyData.isStr, isBLT, neD_lP, decide_true]
  refine sp_unreadN hok h8 hns1 h2 h1 hne.symm ?_
  simp -implicitDefEqProofs (disch := ((try simp only [List.length_map, List.length_append, List.length_cons, List.length_nil, List.length_take, List.length_drop, List.length_set, List.length_replicate, List.length_range, List.length_zipIdx, List.length_zip]); omega)) only [kVal_s, hold_c, kNx_c, kRt_c, kRtN_c, kAsg_c, kAsgF_c, kPar_c, kParF_c, kParF2_c, kExp_c, kFor_c, kIf_t, kIf_f, kIfV_t, kIfV_f, kOrT_t, kOrT_f, kAndT_t, kAndT_f, kNotT_c, kAnd_t, kAnd_f, kOr_t, kOr_f, kNot_b, kTest_b, kBin_c, kBin2_c, kUn_c, kChain_t, kChain_f, kCh1_c, kCh2_c, kRet_d, kRet_n, kRetN_n, kSome_i, kSlot_d, kDc_c, kDc2_c, kLst_c, kLen_c, kTup_c, kCB_c, kIsa_c, kSl1_c, kSl2_c, kSl3_c, kRtO_c, kOm_c, kOm2_c, kOm3_c, kSo_c, kSo2_c, kSo3_c, kOi_c, kOi2_c, kSeq_c, kEnum_c, kEnum2_c, kZip_c, kZip2_c, kZip3_c, kZip4_c, kRg1_c, kRg2_c, kRg2b_c, kRgD_c, kRgDb_c, kCall_c, kCallN_c, kAc_c, kAc2_c, kBag_b, kComp_c, kRev_c, kGc_c, kFl_c, compT_c, kCt_c, kCt2_t, kCt2_f, fnS_c, ssSeq_c, ssRet_c, ssRetF_c, ssRetOwn_c, ssRetN_c, ssAsg_c, ssAsgF_c, ssPar_c, ssParF_c, ssIf_c, ssExpr_c, ssNil_c, ssPass_c, ssBreak_c, ssCont_c, ssFor_c, ssFreeze_c, ssOwnM_c, sVar_c, sC_c, sBin_c, sUn_c, sTest_c, sNotT_c, sAndT_c, sOrT_c, sBorT_c, sAndV_c, sOrV_c, sNotV_c, sIf_c, sChain_c, stYes_c, sdNil_c, sdCons_c, sLst_c, sLen_c, sTup_c, sCallB_c, sCallL_c, sIsa_c, sSlice_c, soNone_c, soSome_c, sgName_c, sgOwn_c, sOwnIx_c, siSeq_c, siEnum_c, siZip_c, siRange1_c, siRange2_c, siRangeD_c, slR1_c, slR2_c, sCall_c, sCallN_c, saNil_c, saCons_c, saBag_c, sComp_c, sRevL_c, sgTup_t, sgCons_c, sgNil_n, freezeSl, setUn, Slot.inner, List.map_cons, List.map_nil, List.replicate, List.cons_append, List.nil_append, List.append_nil, List.getElem?_cons_zero, List.getElem?_cons_succ, List.set_cons_zero, List.set_cons_succ, List.length_cons, List.length_nil, and_assoc, Option.some.injEq, PyData.list.injEq, PyData.tuple.injEq, toL_n, Nat.sub_self, Nat.zero_add, Nat.reduceAdd, Nat.reduceSub, true_and, and_true, addD_ii, subD_ii, ltD_ii, leD_ii, gtD_ii, geD_ii, negD_i, mulD_i, fdivD_i, modD_i, itemsD_l, itemsD_t, tupleB_l, tupleB_t, listB_l, listB_t, lenB_l, lenB_t, intB_i, intB_b, fold2_i, appendM_1, ixN_len, reduceCtorEq, reduceIte, Bool.and_self, Bool.true_and, Bool.false_and, Bool.and_true, Bool.and_false, Bool.not_true, Bool.not_false, PyData.isTuple, PyData.isInt, PyData.isBool, PyData.isList, PyData.isStr, isBLT]
  have hul2 : (unreadL rs (s : Int) other one).length ≤ 1000 := by
    show (((upTo _).filter _).map _).length ≤ 1000
    rw [List.length_map]
    refine Nat.le_trans (List.length_filter_le _ _) ?_
    rw [upTo, List.length_map, List.length_range, show bothOf rs (s : Int) other one = bothOf rs (s : Int) one other by unfold bothOf; rw [known_symm]]
    omega
  refine ⟨Nat.le_trans (by rw [List.length_map]; exact hul2) (by decide : 1000 ≤ 16000000), ?_⟩
  refine compL_map pI (fun p => pI (p.2, p.1)) _ _ (fun q hq K N hk => ?_) ?_
  · simp -implicitDefEqProofs (disch := ((try simp only [List.length_map, List.length_append, List.length_cons, List.length_nil, List.length_take, List.length_drop, List.length_set, List.length_replicate, List.length_range, List.length_zipIdx, List.length_zip]); omega)) only [kVal_s, hold_c, kNx_c, kRt_c, kRtN_c, kAsg_c, kAsgF_c, kPar_c, kParF_c, kParF2_c, kExp_c, kFor_c, kIf_t, kIf_f, kIfV_t, kIfV_f, kOrT_t, kOrT_f, kAndT_t, kAndT_f, kNotT_c, kAnd_t, kAnd_f, kOr_t, kOr_f, kNot_b, kTest_b, kBin_c, kBin2_c, kUn_c, kChain_t, kChain_f, kCh1_c, kCh2_c, kRet_d, kRet_n, kRetN_n, kSome_i, kSlot_d, kDc_c, kDc2_c, kLst_c, kLen_c, kTup_c, kCB_c, kIsa_c, kSl1_c, kSl2_c, kSl3_c, kRtO_c, kOm_c, kOm2_c, kOm3_c, kSo_c, kSo2_c, kSo3_c, kOi_c, kOi2_c, kSeq_c, kEnum_c, kEnum2_c, kZip_c, kZip2_c, kZip3_c, kZip4_c, kRg1_c, kRg2_c, kRg2b_c, kRgD_c, kRgDb_c, kCall_c, kCallN_c, kAc_c, kAc2_c, kBag_b, kComp_c, kRev_c, kGc_c, kFl_c, compT_c, kCt_c, kCt2_t, kCt2_f, fnS_c, ssSeq_c, ssRet_c, ssRetF_c, ssRetOwn_c, ssRetN_c, ssAsg_c, ssAsgF_c, ssPar_c, ssParF_c, ssIf_c, ssExpr_c, ssNil_c, ssPass_c, ssBreak_c, ssCont_c, ssFor_c, ssFreeze_c, ssOwnM_c, sVar_c, sC_c, sBin_c, sUn_c, sTest_c, sNotT_c, sAndT_c, sOrT_c, sBorT_c, sAndV_c, sOrV_c, sNotV_c, sIf_c, sChain_c, stYes_c, sdNil_c, sdCons_c, sLst_c, sLen_c, sTup_c, sCallB_c, sCallL_c, sIsa_c, sSlice_c, soNone_c, soSome_c, sgName_c, sgOwn_c, sOwnIx_c, siSeq_c, siEnum_c, siZip_c, siRange1_c, siRange2_c, siRangeD_c, slR1_c, slR2_c, sCall_c, sCallN_c, saNil_c, saCons_c, saBag_c, sComp_c, sRevL_c, sgTup_t, sgCons_c, sgNil_n, freezeSl, setUn, Slot.inner, List.map_cons, List.map_nil, List.replicate, List.cons_append, List.nil_append, List.append_nil, List.getElem?_cons_zero, List.getElem?_cons_succ, List.set_cons_zero, List.set_cons_succ, List.length_cons, List.length_nil, and_assoc, Option.some.injEq, PyData.list.injEq, PyData.tuple.injEq, toL_n, Nat.sub_self, Nat.zero_add, Nat.reduceAdd, Nat.reduceSub, true_and, and_true, addD_ii, subD_ii, ltD_ii, leD_ii, gtD_ii, geD_ii, negD_i, mulD_i, fdivD_i, modD_i, itemsD_l, itemsD_t, tupleB_l, tupleB_t, listB_l, listB_t, lenB_l, lenB_t, intB_i, intB_b, fold2_i, appendM_1, ixN_len, reduceCtorEq, reduceIte, Bool.and_self, Bool.true_and, Bool.false_and, Bool.and_true, Bool.and_false, Bool.not_true, Bool.not_false, PyData.isTuple, PyData.isInt, PyData.isBool, PyData.isList, PyData.isStr, isBLT, e2_lawN, pI]
    exact ⟨by decide, hk⟩
  · rw [show ((unreadL rs (s : Int) other one).map fun p => pI (p.2, p.1)) = ((unreadL rs (s : Int) other one).map fun p => (p.2, p.1)).map pI by rw [List.map_map]; rfl]
    simp -implicitDefEqProofs (disch := ((try simp only [List.length_map, List.length_append, List.length_cons, List.length_nil, List.length_take, List.length_drop, List.length_set, List.length_replicate, List.length_range, List.length_zipIdx, List.length_zip]); omega)) only [kVal_s, hold_c, kNx_c, kRt_c, kRtN_c, kAsg_c, kAsgF_c, kPar_c, kParF_c, kParF2_c, kExp_c, kFor_c, kIf_t, kIf_f, kIfV_t, kIfV_f, kOrT_t, kOrT_f, kAndT_t, kAndT_f, kNotT_c, kAnd_t, kAnd_f, kOr_t, kOr_f, kNot_b, kTest_b, kBin_c, kBin2_c, kUn_c, kChain_t, kChain_f, kCh1_c, kCh2_c, kRet_d, kRet_n, kRetN_n, kSome_i, kSlot_d, kDc_c, kDc2_c, kLst_c, kLen_c, kTup_c, kCB_c, kIsa_c, kSl1_c, kSl2_c, kSl3_c, kRtO_c, kOm_c, kOm2_c, kOm3_c, kSo_c, kSo2_c, kSo3_c, kOi_c, kOi2_c, kSeq_c, kEnum_c, kEnum2_c, kZip_c, kZip2_c, kZip3_c, kZip4_c, kRg1_c, kRg2_c, kRg2b_c, kRgD_c, kRgDb_c, kCall_c, kCallN_c, kAc_c, kAc2_c, kBag_b, kComp_c, kRev_c, kGc_c, kFl_c, compT_c, kCt_c, kCt2_t, kCt2_f, fnS_c, ssSeq_c, ssRet_c, ssRetF_c, ssRetOwn_c, ssRetN_c, ssAsg_c, ssAsgF_c, ssPar_c, ssParF_c, ssIf_c, ssExpr_c, ssNil_c, ssPass_c, ssBreak_c, ssCont_c, ssFor_c, ssFreeze_c, ssOwnM_c, sVar_c, sC_c, sBin_c, sUn_c, sTest_c, sNotT_c, sAndT_c, sOrT_c, sBorT_c, sAndV_c, sOrV_c, sNotV_c, sIf_c, sChain_c, stYes_c, sdNil_c, sdCons_c, sLst_c, sLen_c, sTup_c, sCallB_c, sCallL_c, sIsa_c, sSlice_c, soNone_c, soSome_c, sgName_c, sgOwn_c, sOwnIx_c, siSeq_c, siEnum_c, siZip_c, siRange1_c, siRange2_c, siRangeD_c, slR1_c, slR2_c, sCall_c, sCallN_c, saNil_c, saCons_c, saBag_c, sComp_c, sRevL_c, sgTup_t, sgCons_c, sgNil_n, freezeSl, setUn, Slot.inner, List.map_cons, List.map_nil, List.replicate, List.cons_append, List.nil_append, List.append_nil, List.getElem?_cons_zero, List.getElem?_cons_succ, List.set_cons_zero, List.set_cons_succ, List.length_cons, List.length_nil, and_assoc, Option.some.injEq, PyData.list.injEq, PyData.tuple.injEq, toL_n, Nat.sub_self, Nat.zero_add, Nat.reduceAdd, Nat.reduceSub, true_and, and_true, addD_ii, subD_ii, ltD_ii, leD_ii, gtD_ii, geD_ii, negD_i, mulD_i, fdivD_i, modD_i, itemsD_l, itemsD_t, tupleB_l, tupleB_t, listB_l, listB_t, lenB_l, lenB_t, intB_i, intB_b, fold2_i, appendM_1, ixN_len, reduceCtorEq, reduceIte, Bool.and_self, Bool.true_and, Bool.false_and, Bool.and_true, Bool.and_false, Bool.not_true, Bool.not_false, PyData.isTuple, PyData.isInt, PyData.isBool, PyData.isList, PyData.isStr, isBLT, sortB_lP]
    rw [unread_turn h1 h2 hne]
    simp -implicitDefEqProofs (disch := ((try simp only [List.length_map, List.length_append, List.length_cons, List.length_nil, List.length_take, List.length_drop, List.length_set, List.length_replicate, List.length_range, List.length_zipIdx, List.length_zip]); omega)) only [kVal_s, hold_c, kNx_c, kRt_c, kRtN_c, kAsg_c, kAsgF_c, kPar_c, kParF_c, kParF2_c, kExp_c, kFor_c, kIf_t, kIf_f, kIfV_t, kIfV_f, kOrT_t, kOrT_f, kAndT_t, kAndT_f, kNotT_c, kAnd_t, kAnd_f, kOr_t, kOr_f, kNot_b, kTest_b, kBin_c, kBin2_c, kUn_c, kChain_t, kChain_f, kCh1_c, kCh2_c, kRet_d, kRet_n, kRetN_n, kSome_i, kSlot_d, kDc_c, kDc2_c, kLst_c, kLen_c, kTup_c, kCB_c, kIsa_c, kSl1_c, kSl2_c, kSl3_c, kRtO_c, kOm_c, kOm2_c, kOm3_c, kSo_c, kSo2_c, kSo3_c, kOi_c, kOi2_c, kSeq_c, kEnum_c, kEnum2_c, kZip_c, kZip2_c, kZip3_c, kZip4_c, kRg1_c, kRg2_c, kRg2b_c, kRgD_c, kRgDb_c, kCall_c, kCallN_c, kAc_c, kAc2_c, kBag_b, kComp_c, kRev_c, kGc_c, kFl_c, compT_c, kCt_c, kCt2_t, kCt2_f, fnS_c, ssSeq_c, ssRet_c, ssRetF_c, ssRetOwn_c, ssRetN_c, ssAsg_c, ssAsgF_c, ssPar_c, ssParF_c, ssIf_c, ssExpr_c, ssNil_c, ssPass_c, ssBreak_c, ssCont_c, ssFor_c, ssFreeze_c, ssOwnM_c, sVar_c, sC_c, sBin_c, sUn_c, sTest_c, sNotT_c, sAndT_c, sOrT_c, sBorT_c, sAndV_c, sOrV_c, sNotV_c, sIf_c, sChain_c, stYes_c, sdNil_c, sdCons_c, sLst_c, sLen_c, sTup_c, sCallB_c, sCallL_c, sIsa_c, sSlice_c, soNone_c, soSome_c, sgName_c, sgOwn_c, sOwnIx_c, siSeq_c, siEnum_c, siZip_c, siRange1_c, siRange2_c, siRangeD_c, slR1_c, slR2_c, sCall_c, sCallN_c, saNil_c, saCons_c, saBag_c, sComp_c, sRevL_c, sgTup_t, sgCons_c, sgNil_n, freezeSl, setUn, Slot.inner, List.map_cons, List.map_nil, List.replicate, List.cons_append, List.nil_append, List.append_nil, List.getElem?_cons_zero, List.getElem?_cons_succ, List.set_cons_zero, List.set_cons_succ, List.length_cons, List.length_nil, and_assoc, Option.some.injEq, PyData.list.injEq, PyData.tuple.injEq, toL_n, Nat.sub_self, Nat.zero_add, Nat.reduceAdd, Nat.reduceSub, true_and, and_true, addD_ii, subD_ii, ltD_ii, leD_ii, gtD_ii, geD_ii, negD_i, mulD_i, fdivD_i, modD_i, itemsD_l, itemsD_t, tupleB_l, tupleB_t, listB_l, listB_t, lenB_l, lenB_t, intB_i, intB_b, fold2_i, appendM_1, ixN_len, reduceCtorEq, reduceIte, Bool.and_self, Bool.true_and, Bool.false_and, Bool.and_true, Bool.and_false, Bool.not_true, Bool.not_false, PyData.isTuple, PyData.isInt, PyData.isBool, PyData.isList, PyData.isStr, isBLT, neD_lP, decide_true]
    exact h _ _ _ _ _ _ _ _ _ _ _ _ _ (by omega) (by omega)
theorem law_turn : lawTurn 15 1 b_law_turn := by
  show b_law_turn _ ⟨[.un, .bag, .un, .un, .un, .un, .un, .un, .un, .un, .un, .un, .un, .un, .un], 100000, noF⟩
  simp -implicitDefEqProofs (disch := ((try simp only [List.length_map, List.length_append, List.length_cons, List.length_nil, List.length_take, List.length_drop, List.length_set, List.length_replicate, List.length_range, List.length_zipIdx, List.length_zip]); omega)) only [kVal_s, hold_c, kNx_c, kRt_c, kRtN_c, kAsg_c, kAsgF_c, kPar_c, kParF_c, kParF2_c, kExp_c, kFor_c, kIf_t, kIf_f, kIfV_t, kIfV_f, kOrT_t, kOrT_f, kAndT_t, kAndT_f, kNotT_c, kAnd_t, kAnd_f, kOr_t, kOr_f, kNot_b, kTest_b, kBin_c, kBin2_c, kUn_c, kChain_t, kChain_f, kCh1_c, kCh2_c, kRet_d, kRet_n, kRetN_n, kSome_i, kSlot_d, kDc_c, kDc2_c, kLst_c, kLen_c, kTup_c, kCB_c, kIsa_c, kSl1_c, kSl2_c, kSl3_c, kRtO_c, kOm_c, kOm2_c, kOm3_c, kSo_c, kSo2_c, kSo3_c, kOi_c, kOi2_c, kSeq_c, kEnum_c, kEnum2_c, kZip_c, kZip2_c, kZip3_c, kZip4_c, kRg1_c, kRg2_c, kRg2b_c, kRgD_c, kRgDb_c, kCall_c, kCallN_c, kAc_c, kAc2_c, kBag_b, kComp_c, kRev_c, kGc_c, kFl_c, compT_c, kCt_c, kCt2_t, kCt2_f, fnS_c, ssSeq_c, ssRet_c, ssRetF_c, ssRetOwn_c, ssRetN_c, ssAsg_c, ssAsgF_c, ssPar_c, ssParF_c, ssIf_c, ssExpr_c, ssNil_c, ssPass_c, ssBreak_c, ssCont_c, ssFor_c, ssFreeze_c, ssOwnM_c, sVar_c, sC_c, sBin_c, sUn_c, sTest_c, sNotT_c, sAndT_c, sOrT_c, sBorT_c, sAndV_c, sOrV_c, sNotV_c, sIf_c, sChain_c, stYes_c, sdNil_c, sdCons_c, sLst_c, sLen_c, sTup_c, sCallB_c, sCallL_c, sIsa_c, sSlice_c, soNone_c, soSome_c, sgName_c, sgOwn_c, sOwnIx_c, siSeq_c, siEnum_c, siZip_c, siRange1_c, siRange2_c, siRangeD_c, slR1_c, slR2_c, sCall_c, sCallN_c, saNil_c, saCons_c, saBag_c, sComp_c, sRevL_c, sgTup_t, sgCons_c, sgNil_n, freezeSl, setUn, Slot.inner, List.map_cons, List.map_nil, List.replicate, List.cons_append, List.nil_append, List.append_nil, List.getElem?_cons_zero, List.getElem?_cons_succ, List.set_cons_zero, List.set_cons_succ, List.length_cons, List.length_nil, and_assoc, Option.some.injEq, PyData.list.injEq, PyData.tuple.injEq, toL_n, Nat.sub_self, Nat.zero_add, Nat.reduceAdd, Nat.reduceSub, true_and, and_true, addD_ii, subD_ii, ltD_ii, leD_ii, gtD_ii, geD_ii, negD_i, mulD_i, fdivD_i, modD_i, itemsD_l, itemsD_t, tupleB_l, tupleB_t, listB_l, listB_t, lenB_l, lenB_t, intB_i, intB_b, fold2_i, appendM_1, ixN_len, reduceCtorEq, reduceIte, Bool.and_self, Bool.true_and, Bool.false_and, Bool.and_true, Bool.and_false, Bool.not_true, Bool.not_false, PyData.isTuple, PyData.isInt, PyData.isBool, PyData.isList, PyData.isStr, isBLT, b_law_turn]
  refine ⟨by decide, by decide, ?_⟩
  rw [show rangeD 0 (Int.toNat 3) = [.int 0, .int 1, .int 2] from rfl, forL_c, sgName_c, kFl_c]
  refine turn12 (by decide) rfl fun m1 _ _ _ _ _ _ _ _ _ _ _ _ h1 h2 => ?_
  dsimp only
  rw [forL_c, sgName_c, kFl_c]
  refine turn12 (by omega) rfl fun m2 _ _ _ _ _ _ _ _ _ _ _ _ h3 h4 => ?_
  dsimp only
  rw [forL_c, sgName_c, kFl_c]
  refine turn12 (by omega) rfl fun m3 _ _ _ _ _ _ _ _ _ _ _ _ h5 h6 => ?_
  exact rfl
/-- a sort that computes -/
def insI (x : Int) : List Int → List Int
  | [] => [x]
  | y :: ys => if x ≤ y then x :: y :: ys else y :: insI x ys
def isort : List Int → List Int
  | [] => []
  | x :: xs => insI x (isort xs)
theorem insI_perm (x : Int) : ∀ ys : List Int, (insI x ys).Perm (x :: ys)
  | [] => List.Perm.refl _
  | y :: ys => by
    unfold insI
    split
    · exact List.Perm.refl _
    · exact ((insI_perm x ys).cons y).trans (List.Perm.swap x y ys)
theorem insI_sorted (x : Int) : ∀ ys : List Int, ys.Pairwise (· ≤ ·) → (insI x ys).Pairwise (· ≤ ·)
  | [], _ => List.pairwise_singleton _ _
  | y :: ys, h => by
    have h2 := List.pairwise_cons.mp h
    unfold insI
    split
    · rename_i hxy
      exact List.pairwise_cons.mpr ⟨fun z hz => by
        rcases List.mem_cons.mp hz with e | e
        · omega
        · have := h2.1 z e; omega, h⟩
    · rename_i hxy
      refine List.pairwise_cons.mpr ⟨fun z hz => ?_, insI_sorted x ys h2.2⟩
      rcases List.mem_cons.mp ((insI_perm x ys).mem_iff.mp hz) with e | e
      · omega
      · exact h2.1 z e
theorem isort_perm : ∀ xs : List Int, (isort xs).Perm xs
  | [] => List.Perm.refl _
  | x :: xs => (insI_perm x _).trans ((isort_perm xs).cons x)
theorem isort_sorted : ∀ xs : List Int, (isort xs).Pairwise (· ≤ ·)
  | [] => .nil
  | x :: xs => insI_sorted x _ (isort_sorted xs)
theorem sortI_is (xs : List Int) : sortI xs = isort xs := sorted_eq ((sortI_perm xs).trans (isort_perm xs).symm) (sortI_sorted xs) (isort_sorted xs)
def balC (rs : List Int) (r : Int) : Bool := match fitsGo r (isort rs) 0 0 with
  | none => false
  | some f => decide (f = r * (rs.length : Int) * ((rs.length : Int) + 1) / 2)
theorem balB_is (rs : List Int) (r : Int) : balB rs r = balC rs r := by
  rw [← fits_bal]
  unfold fitsB balC
  rw [sortI_is]
theorem law_rest : lawRest 15 b_law_rest := by
  show b_law_rest _ ⟨[.un, .un, .un, .un, .un, .un, .un, .un, .un, .un, .un, .un, .un, .un, .un], 100000, noF⟩
  simp -implicitDefEqProofs (disch := ((try simp only [List.length_map, List.length_append, List.length_cons, List.length_nil, List.length_take, List.length_drop, List.length_set, List.length_replicate, List.length_range, List.length_zipIdx, List.length_zip]); omega)) only [kVal_s, hold_c, kNx_c, kRt_c, kRtN_c, kAsg_c, kAsgF_c, kPar_c, kParF_c, kParF2_c, kExp_c, kFor_c, kIf_t, kIf_f, kIfV_t, kIfV_f, kOrT_t, kOrT_f, kAndT_t, kAndT_f, kNotT_c, kAnd_t, kAnd_f, kOr_t, kOr_f, kNot_b, kTest_b, kBin_c, kBin2_c, kUn_c, kChain_t, kChain_f, kCh1_c, kCh2_c, kRet_d, kRet_n, kRetN_n, kSome_i, kSlot_d, kDc_c, kDc2_c, kLst_c, kLen_c, kTup_c, kCB_c, kIsa_c, kSl1_c, kSl2_c, kSl3_c, kRtO_c, kOm_c, kOm2_c, kOm3_c, kSo_c, kSo2_c, kSo3_c, kOi_c, kOi2_c, kSeq_c, kEnum_c, kEnum2_c, kZip_c, kZip2_c, kZip3_c, kZip4_c, kRg1_c, kRg2_c, kRg2b_c, kRgD_c, kRgDb_c, kCall_c, kCallN_c, kAc_c, kAc2_c, kBag_b, kComp_c, kRev_c, kGc_c, kFl_c, compT_c, kCt_c, kCt2_t, kCt2_f, fnS_c, ssSeq_c, ssRet_c, ssRetF_c, ssRetOwn_c, ssRetN_c, ssAsg_c, ssAsgF_c, ssPar_c, ssParF_c, ssIf_c, ssExpr_c, ssNil_c, ssPass_c, ssBreak_c, ssCont_c, ssFor_c, ssFreeze_c, ssOwnM_c, sVar_c, sC_c, sBin_c, sUn_c, sTest_c, sNotT_c, sAndT_c, sOrT_c, sBorT_c, sAndV_c, sOrV_c, sNotV_c, sIf_c, sChain_c, stYes_c, sdNil_c, sdCons_c, sLst_c, sLen_c, sTup_c, sCallB_c, sCallL_c, sIsa_c, sSlice_c, soNone_c, soSome_c, sgName_c, sgOwn_c, sOwnIx_c, siSeq_c, siEnum_c, siZip_c, siRange1_c, siRange2_c, siRangeD_c, slR1_c, slR2_c, sCall_c, sCallN_c, saNil_c, saCons_c, saBag_c, sComp_c, sRevL_c, sgTup_t, sgCons_c, sgNil_n, freezeSl, setUn, Slot.inner, List.map_cons, List.map_nil, List.replicate, List.cons_append, List.nil_append, List.append_nil, List.getElem?_cons_zero, List.getElem?_cons_succ, List.set_cons_zero, List.set_cons_succ, List.length_cons, List.length_nil, and_assoc, Option.some.injEq, PyData.list.injEq, PyData.tuple.injEq, toL_n, Nat.sub_self, Nat.zero_add, Nat.reduceAdd, Nat.reduceSub, true_and, and_true, addD_ii, subD_ii, ltD_ii, leD_ii, gtD_ii, geD_ii, negD_i, mulD_i, fdivD_i, modD_i, itemsD_l, itemsD_t, tupleB_l, tupleB_t, listB_l, listB_t, lenB_l, lenB_t, intB_i, intB_b, fold2_i, appendM_1, ixN_len, reduceCtorEq, reduceIte, Bool.and_self, Bool.true_and, Bool.false_and, Bool.and_true, Bool.and_false, Bool.not_true, Bool.not_false, PyData.isTuple, PyData.isInt, PyData.isBool, PyData.isList, PyData.isStr, isBLT, b_law_rest]
  refine ⟨by decide, ?_⟩
  refine sp_unreadN (rs := [4, 0, 0]) ⟨by decide, by decide⟩ (by decide) (by decide) (by decide) (by decide) (by decide) ?_
  rw [show unreadL [4, 0, 0] 3 1 2 = [(5, 9), (6, 8), (7, 7), (8, 6), (9, 5)] by
    unfold unreadL
    rw [show goodF [4, 0, 0] 3 1 2 (bothOf [4, 0, 0] 3 1 2) = fun f => balC (changedL [4, 0, 0] 1 2 f (bothOf [4, 0, 0] 3 1 2)) 3 from funext fun f => balB_is _ _]
    decide +kernel]
  simp -implicitDefEqProofs (disch := ((try simp only [List.length_map, List.length_append, List.length_cons, List.length_nil, List.length_take, List.length_drop, List.length_set, List.length_replicate, List.length_range, List.length_zipIdx, List.length_zip]); omega)) only [kVal_s, hold_c, kNx_c, kRt_c, kRtN_c, kAsg_c, kAsgF_c, kPar_c, kParF_c, kParF2_c, kExp_c, kFor_c, kIf_t, kIf_f, kIfV_t, kIfV_f, kOrT_t, kOrT_f, kAndT_t, kAndT_f, kNotT_c, kAnd_t, kAnd_f, kOr_t, kOr_f, kNot_b, kTest_b, kBin_c, kBin2_c, kUn_c, kChain_t, kChain_f, kCh1_c, kCh2_c, kRet_d, kRet_n, kRetN_n, kSome_i, kSlot_d, kDc_c, kDc2_c, kLst_c, kLen_c, kTup_c, kCB_c, kIsa_c, kSl1_c, kSl2_c, kSl3_c, kRtO_c, kOm_c, kOm2_c, kOm3_c, kSo_c, kSo2_c, kSo3_c, kOi_c, kOi2_c, kSeq_c, kEnum_c, kEnum2_c, kZip_c, kZip2_c, kZip3_c, kZip4_c, kRg1_c, kRg2_c, kRg2b_c, kRgD_c, kRgDb_c, kCall_c, kCallN_c, kAc_c, kAc2_c, kBag_b, kComp_c, kRev_c, kGc_c, kFl_c, compT_c, kCt_c, kCt2_t, kCt2_f, fnS_c, ssSeq_c, ssRet_c, ssRetF_c, ssRetOwn_c, ssRetN_c, ssAsg_c, ssAsgF_c, ssPar_c, ssParF_c, ssIf_c, ssExpr_c, ssNil_c, ssPass_c, ssBreak_c, ssCont_c, ssFor_c, ssFreeze_c, ssOwnM_c, sVar_c, sC_c, sBin_c, sUn_c, sTest_c, sNotT_c, sAndT_c, sOrT_c, sBorT_c, sAndV_c, sOrV_c, sNotV_c, sIf_c, sChain_c, stYes_c, sdNil_c, sdCons_c, sLst_c, sLen_c, sTup_c, sCallB_c, sCallL_c, sIsa_c, sSlice_c, soNone_c, soSome_c, sgName_c, sgOwn_c, sOwnIx_c, siSeq_c, siEnum_c, siZip_c, siRange1_c, siRange2_c, siRangeD_c, slR1_c, slR2_c, sCall_c, sCallN_c, saNil_c, saCons_c, saBag_c, sComp_c, sRevL_c, sgTup_t, sgCons_c, sgNil_n, freezeSl, setUn, Slot.inner, List.map_cons, List.map_nil, List.replicate, List.cons_append, List.nil_append, List.append_nil, List.getElem?_cons_zero, List.getElem?_cons_succ, List.set_cons_zero, List.set_cons_succ, List.length_cons, List.length_nil, and_assoc, Option.some.injEq, PyData.list.injEq, PyData.tuple.injEq, toL_n, Nat.sub_self, Nat.zero_add, Nat.reduceAdd, Nat.reduceSub, true_and, and_true, addD_ii, subD_ii, ltD_ii, leD_ii, gtD_ii, geD_ii, negD_i, mulD_i, fdivD_i, modD_i, itemsD_l, itemsD_t, tupleB_l, tupleB_t, listB_l, listB_t, lenB_l, lenB_t, intB_i, intB_b, fold2_i, appendM_1, ixN_len, reduceCtorEq, reduceIte, Bool.and_self, Bool.true_and, Bool.false_and, Bool.and_true, Bool.and_false, Bool.not_true, Bool.not_false, PyData.isTuple, PyData.isInt, PyData.isBool, PyData.isList, PyData.isStr, isBLT]
  refine ⟨by decide, by decide, by decide, by decide, by decide, by decide, ?_⟩
  rw [show PyData.list [.tuple [.int 5, .int 9], .tuple [.int 6, .int 8], .tuple [.int 7, .int 7], .tuple [.int 8, .int 6], .tuple [.int 9, .int 5]] = .list ([(5, 9), (6, 8), (7, 7), (8, 6), (9, 5)].map pI) from rfl]
  rw [show eqD (PyData.list [pI (5, 9), pI (6, 8), pI (7, 7), pI (8, 6), pI (9, 5)]) (.list ([(5, 9), (6, 8), (7, 7), (8, 6), (9, 5)].map pI)) = some (.bool (decide ([(5, 9), (6, 8), (7, 7), (8, 6), (9, 5)] = [((5 : Int), (9 : Int)), (6, 8), (7, 7), (8, 6), (9, 5)]))) from eqD_lP (xs := [(5, 9), (6, 8), (7, 7), (8, 6), (9, 5)]), decide_eq_true rfl]
  simp -implicitDefEqProofs (disch := ((try simp only [List.length_map, List.length_append, List.length_cons, List.length_nil, List.length_take, List.length_drop, List.length_set, List.length_replicate, List.length_range, List.length_zipIdx, List.length_zip]); omega)) only [kVal_s, hold_c, kNx_c, kRt_c, kRtN_c, kAsg_c, kAsgF_c, kPar_c, kParF_c, kParF2_c, kExp_c, kFor_c, kIf_t, kIf_f, kIfV_t, kIfV_f, kOrT_t, kOrT_f, kAndT_t, kAndT_f, kNotT_c, kAnd_t, kAnd_f, kOr_t, kOr_f, kNot_b, kTest_b, kBin_c, kBin2_c, kUn_c, kChain_t, kChain_f, kCh1_c, kCh2_c, kRet_d, kRet_n, kRetN_n, kSome_i, kSlot_d, kDc_c, kDc2_c, kLst_c, kLen_c, kTup_c, kCB_c, kIsa_c, kSl1_c, kSl2_c, kSl3_c, kRtO_c, kOm_c, kOm2_c, kOm3_c, kSo_c, kSo2_c, kSo3_c, kOi_c, kOi2_c, kSeq_c, kEnum_c, kEnum2_c, kZip_c, kZip2_c, kZip3_c, kZip4_c, kRg1_c, kRg2_c, kRg2b_c, kRgD_c, kRgDb_c, kCall_c, kCallN_c, kAc_c, kAc2_c, kBag_b, kComp_c, kRev_c, kGc_c, kFl_c, compT_c, kCt_c, kCt2_t, kCt2_f, fnS_c, ssSeq_c, ssRet_c, ssRetF_c, ssRetOwn_c, ssRetN_c, ssAsg_c, ssAsgF_c, ssPar_c, ssParF_c, ssIf_c, ssExpr_c, ssNil_c, ssPass_c, ssBreak_c, ssCont_c, ssFor_c, ssFreeze_c, ssOwnM_c, sVar_c, sC_c, sBin_c, sUn_c, sTest_c, sNotT_c, sAndT_c, sOrT_c, sBorT_c, sAndV_c, sOrV_c, sNotV_c, sIf_c, sChain_c, stYes_c, sdNil_c, sdCons_c, sLst_c, sLen_c, sTup_c, sCallB_c, sCallL_c, sIsa_c, sSlice_c, soNone_c, soSome_c, sgName_c, sgOwn_c, sOwnIx_c, siSeq_c, siEnum_c, siZip_c, siRange1_c, siRange2_c, siRangeD_c, slR1_c, slR2_c, sCall_c, sCallN_c, saNil_c, saCons_c, saBag_c, sComp_c, sRevL_c, sgTup_t, sgCons_c, sgNil_n, freezeSl, setUn, Slot.inner, List.map_cons, List.map_nil, List.replicate, List.cons_append, List.nil_append, List.append_nil, List.getElem?_cons_zero, List.getElem?_cons_succ, List.set_cons_zero, List.set_cons_succ, List.length_cons, List.length_nil, and_assoc, Option.some.injEq, PyData.list.injEq, PyData.tuple.injEq, toL_n, Nat.sub_self, Nat.zero_add, Nat.reduceAdd, Nat.reduceSub, true_and, and_true, addD_ii, subD_ii, ltD_ii, leD_ii, gtD_ii, geD_ii, negD_i, mulD_i, fdivD_i, modD_i, itemsD_l, itemsD_t, tupleB_l, tupleB_t, listB_l, listB_t, lenB_l, lenB_t, intB_i, intB_b, fold2_i, appendM_1, ixN_len, reduceCtorEq, reduceIte, Bool.and_self, Bool.true_and, Bool.false_and, Bool.and_true, Bool.and_false, Bool.not_true, Bool.not_false, PyData.isTuple, PyData.isInt, PyData.isBool, PyData.isList, PyData.isStr, isBLT]
  rfl
end PT
set_option maxHeartbeats 4000000
namespace PT
open PySem PySem.Spec PyProof.Rows L2 DL
def topS (i : Nat) : Stmt := PySem.Challenge.pw_placetotals_k12_whole_unread_totals.main.body.getD i (.Pass ⟨0, 0, 0, 0⟩)
abbrev s__law_well : Stmt := topS 35
abbrev s__law_bags : Stmt := topS 37
abbrev s_is_integer : Stmt := topS 13
abbrev s_in_range : Stmt := topS 14
abbrev s_is_totals : Stmt := topS 15
abbrev s_check_totals : Stmt := topS 16
abbrev s_check_number : Stmt := topS 17
abbrev s_check_boat : Stmt := topS 18
abbrev s_least : Stmt := topS 20
abbrev s_short_set : Stmt := topS 21
abbrev s_balanced : Stmt := topS 22
abbrev s_occurs : Stmt := topS 31
abbrev s_unread : Stmt := topS 33
abbrev s__law_sums : Stmt := topS 41
abbrev s__law_take : Stmt := topS 36
abbrev s__law_race : Stmt := topS 39
abbrev s__law_list : Stmt := topS 40
abbrev s__law_fits : Stmt := topS 42
abbrev s__law_same : Stmt := topS 38
abbrev s_law : Stmt := topS 43
structure Facts (K : PySem.W.Frag) (mg : Str → Option Value) where
  a__law_well : Addr
  d__law_well : FuncData
  F__law_well : Fun K "_law_well" "_law_well" s__law_well a__law_well d__law_well
  g__law_well : mg "_law_well" = some (.ref a__law_well)
  b__law_well : Binds K d__law_well ["cell", "turn"] []
  a__law_bags : Addr
  d__law_bags : FuncData
  F__law_bags : Fun K "_law_bags" "_law_bags" s__law_bags a__law_bags d__law_bags
  g__law_bags : mg "_law_bags" = some (.ref a__law_bags)
  b__law_bags : Binds K d__law_bags ["script", "most"] []
  a_is_integer : Addr
  d_is_integer : FuncData
  F_is_integer : Fun K "is_integer" "is_integer" s_is_integer a_is_integer d_is_integer
  g_is_integer : mg "is_integer" = some (.ref a_is_integer)
  b_is_integer : Binds K d_is_integer ["value"] []
  a_in_range : Addr
  d_in_range : FuncData
  F_in_range : Fun K "in_range" "in_range" s_in_range a_in_range d_in_range
  g_in_range : mg "in_range" = some (.ref a_in_range)
  b_in_range : Binds K d_in_range ["value", "low", "high"] []
  a_is_totals : Addr
  d_is_totals : FuncData
  F_is_totals : Fun K "is_totals" "is_totals" s_is_totals a_is_totals d_is_totals
  g_is_totals : mg "is_totals" = some (.ref a_is_totals)
  b_is_totals : Binds K d_is_totals ["value"] []
  a_check_totals : Addr
  d_check_totals : FuncData
  F_check_totals : Fun K "check_totals" "check_totals" s_check_totals a_check_totals d_check_totals
  g_check_totals : mg "check_totals" = some (.ref a_check_totals)
  b_check_totals : Binds K d_check_totals ["value"] []
  a_check_number : Addr
  d_check_number : FuncData
  F_check_number : Fun K "check_number" "check_number" s_check_number a_check_number d_check_number
  g_check_number : mg "check_number" = some (.ref a_check_number)
  b_check_number : Binds K d_check_number ["value", "low", "high"] []
  a_check_boat : Addr
  d_check_boat : FuncData
  F_check_boat : Fun K "check_boat" "check_boat" s_check_boat a_check_boat d_check_boat
  g_check_boat : mg "check_boat" = some (.ref a_check_boat)
  b_check_boat : Binds K d_check_boat ["totals", "boat"] []
  a_least : Addr
  d_least : FuncData
  F_least : Fun K "least" "least" s_least a_least d_least
  g_least : mg "least" = some (.ref a_least)
  b_least : Binds K d_least ["count", "races"] []
  a_short_set : Addr
  d_short_set : FuncData
  F_short_set : Fun K "short_set" "short_set" s_short_set a_short_set d_short_set
  g_short_set : mg "short_set" = some (.ref a_short_set)
  b_short_set : Binds K d_short_set ["results", "races"] []
  a_balanced : Addr
  d_balanced : FuncData
  F_balanced : Fun K "balanced" "balanced" s_balanced a_balanced d_balanced
  g_balanced : mg "balanced" = some (.ref a_balanced)
  b_balanced : Binds K d_balanced ["results", "races"] []
  a_occurs : Addr
  d_occurs : FuncData
  F_occurs : Fun K "occurs" "occurs" s_occurs a_occurs d_occurs
  g_occurs : mg "occurs" = some (.ref a_occurs)
  b_occurs : Binds K d_occurs ["results", "races"] []
  a_unread : Addr
  d_unread : FuncData
  F_unread : Fun K "unread" "unread" s_unread a_unread d_unread
  g_unread : mg "unread" = some (.ref a_unread)
  b_unread : Binds K d_unread ["results", "races", "one", "other"] []
  a__law_sums : Addr
  d__law_sums : FuncData
  F__law_sums : Fun K "_law_sums" "_law_sums" s__law_sums a__law_sums d__law_sums
  g__law_sums : mg "_law_sums" = some (.ref a__law_sums)
  b__law_sums : Binds K d__law_sums ["races_so"] []
  a__law_take : Addr
  d__law_take : FuncData
  F__law_take : Fun K "_law_take" "_law_take" s__law_take a__law_take d__law_take
  g__law_take : mg "_law_take" = some (.ref a__law_take)
  b__law_take : Binds K d__law_take ["bag", "many"] []
  a__law_race : Addr
  d__law_race : FuncData
  F__law_race : Fun K "_law_race" "_law_race" s__law_race a__law_race d__law_race
  g__law_race : mg "_law_race" = some (.ref a__law_race)
  b__law_race : Binds K d__law_race ["bag", "many"] []
  a__law_list : Addr
  d__law_list : FuncData
  F__law_list : Fun K "_law_list" "_law_list" s__law_list a__law_list d__law_list
  g__law_list : mg "_law_list" = some (.ref a__law_list)
  b__law_list : Binds K d__law_list ["bag", "many", "size"] []
  a__law_fits : Addr
  d__law_fits : FuncData
  F__law_fits : Fun K "_law_fits" "_law_fits" s__law_fits a__law_fits d__law_fits
  g__law_fits : mg "_law_fits" = some (.ref a__law_fits)
  b__law_fits : Binds K d__law_fits ["results", "size"] []
  a__law_same : Addr
  d__law_same : FuncData
  F__law_same : Fun K "_law_same" "_law_same" s__law_same a__law_same d__law_same
  g__law_same : mg "_law_same" = some (.ref a__law_same)
  b__law_same : Binds K d__law_same ["a", "b"] []
  a_law : Addr
  d_law : FuncData
  F_law : Fun K "law" "law" s_law a_law d_law
  g_law : mg "law" = some (.ref a_law)
  b_law : Binds K d_law ["script"] []
  z_all : mg "all" = none
  z_bool : mg "bool" = none
  z_enumerate : mg "enumerate" = none
  z_int : mg "int" = none
  z_isinstance : mg "isinstance" = none
  z_len : mg "len" = none
  z_list : mg "list" = none
  z_max : mg "max" = none
  z_range : mg "range" = none
  z_sorted : mg "sorted" = none
  z_str : mg "str" = none
  z_sum : mg "sum" = none
  z_tuple : mg "tuple" = none
  z_zip : mg "zip" = none
  u_MOST_BOATS : Value
  v_MOST_BOATS : mg "MOST_BOATS" = some u_MOST_BOATS
  r_MOST_BOATS : L2.RelV (.int 6) u_MOST_BOATS
  u_MOST_RACES : Value
  v_MOST_RACES : mg "MOST_RACES" = some u_MOST_RACES
  r_MOST_RACES : L2.RelV (.int 8) u_MOST_RACES
  u_MOST_TOTAL : Value
  v_MOST_TOTAL : mg "MOST_TOTAL" = some u_MOST_TOTAL
  r_MOST_TOTAL : L2.RelV (.int 100) u_MOST_TOTAL
section
variable {P : Program} {w : World} {K : PySem.W.Frag} {mg : Str → Option Value} {base : Heap}
theorem sc__law_well : FnScope ["cell", "turn"] ["cell", "turn"] (defScope s__law_well) := ⟨rfl, rfl, rfl, by decide +kernel, rfl, by decide +kernel, by decide +kernel⟩
theorem ok__law_well (T : Facts K mg) {k : Nat} : FnOk P w K mg base CX0 (k + 1) T.a__law_well T.d__law_well ["cell", "turn"] spWell := by
  refine T.F__law_well.ok sc__law_well (fun vs H Q E ⟨_, _, e, _⟩ => by rw [e]; rfl) (fun cdv A outer s H vs Q E hr h => ?_)
  obtain ⟨cell, turn, rfl, q⟩ := h
  have hb := Int.emod_nonneg cell (b := 2305843009213693951) (by decide)
  have hb2 := Int.emod_lt_of_pos cell (b := 2305843009213693951) (by decide)
  refine ⟨_, pss_cons (ps_if (pt_cmpR op_ge (pv 0) (pe_op op_pow pe_int pe_int) (nomark _))
      (pss_one (ps_ret (pe_lst (pa_cons (pe_op op_sub (pv 0) (pe_op op_pow pe_int pe_int)) (pa_cons (pe_op op_mod (pv 0) pe_int) (pa_cons (pv 1) pa_nil)))))) pss_nil)
    (pss_one (ps_ret (pe_lst (pa_cons pe_int (pa_cons (pe_op op_mod (pv 0) pe_int) (pa_cons (pv 1) pa_nil)))))), ?_⟩
  refine ⟨.int cell, rfl, 10, 18, rfl, rfl, ⟨by decide, by decide, by decide⟩, _, _, rfl, rfl, _, rfl, ite2 (fun _ => ?_) (fun _ => ?_)⟩
  · exact ⟨.int cell, rfl, 10, 18, rfl, rfl, ⟨by decide, by decide, by decide⟩, _, _, rfl, rfl, .int cell, rfl, cell, _, rfl, rfl, (by decide : (0 : Int) < 2305843009213693951), .int turn, rfl, by show 3 ≤ sizeLine; decide, fun p n => q p _ _ n hb hb2⟩
  · exact ⟨.int cell, rfl, cell, _, rfl, rfl, (by decide : (0 : Int) < 2305843009213693951), .int turn, rfl, by show 3 ≤ sizeLine; decide, fun p n => q p _ _ n hb hb2⟩
theorem sc__law_bags : FnScope ["script", "most", "k", "cell"] ["script", "most"] (defScope s__law_bags) := ⟨rfl, rfl, rfl, by decide +kernel, rfl, by decide +kernel, by decide +kernel⟩
theorem ok__law_bags (T : Facts K mg) {k : Nat} : FnOk P w K mg base CX0 (k + 2) T.a__law_bags T.d__law_bags ["script", "most"] (spBags K) := by
  have me := T.z_enumerate
  have GW := ok__law_well T (P := P) (w := w) (base := base) (k := k)
  refine T.F__law_bags.ok (k := k + 1) sc__law_bags (fun vs H Q E ⟨_, _, _, e, _⟩ => by rw [e]; rfl) (fun cdv A outer s H vs Q E hr h => ?_)
  obtain ⟨a, ns, most, rfl, hS, hlen, q⟩ := h
  refine ⟨_, pss_one (ps_ret (pe_lc (own := [("k", 2), ("cell", 3)]) (g := gTup K 2 (gCons (gName 2) (gCons (gName 3) gNil))) (tt := tYes) rfl sc__law_bags.nd
    (pi_enum (by rfl) me (pa_cons (pe_op op_cat (pe_slice sl_list (pv 0) po_none (po_some (pv 1))) (pe_lst (pa_cons pe_int pa_nil))) pa_nil))
    (blkOk_by (N := ["script", "most", "k", "cell"]) (sc := defScope s__law_bags) (by decide +kernel))
    (fun _ _ _ _ _ => pg_tup rfl (pgs_cons (pg_name (i := 2) sc__law_bags.nd rfl (Or.inl rfl)) (pgs_cons (pg_name (i := 3) sc__law_bags.nd rfl (Or.inl rfl)) pgs_nil)))
    (fun _ _ _ _ _ => pts_nil)
    (fun _ _ _ _ _ => pe_call GW hr (by rfl) T.g__law_well T.F__law_well.kp T.b__law_well .nil pass0 (pa_cons (pv 3) (pa_cons (pe_op op_mul pe_int (pv 2)) pa_nil))))), ?_⟩
  refine ⟨.ref a, rfl, .int most, rfl, most, rfl, a, _, rfl, hS, fun p1 n1 => ?_⟩
  refine ⟨by show 1 ≤ sizeLine; decide, fun p2 n2 => ?_⟩
  have e1 : (upd (upd H p1 (.lst (cutV (ns.map V.int) none (some most)))) p2 (.lst [.int 0])) p1 = some (.lst (cutV (ns.map V.int) none (some most))) := by
    rw [upd_ne (ne_of_none upd_same n2), upd_same]
  obtain ⟨ks, hks, hkl⟩ : ∃ ks : List Int, cutV (ns.map V.int) none (some most) = ks.map V.int ∧ ks.length ≤ 63 := by
    refine ⟨(ns.drop (HT.sIx (ns.map V.int).length 0 none)).take (HT.sIx (ns.map V.int).length (ns.map V.int).length (some most) - HT.sIx (ns.map V.int).length 0 none), ?_, ?_⟩
    · unfold cutV
      rw [List.map_take, List.map_drop]
    · rw [List.length_take, List.length_drop]
      omega
  have s1 : Same H (upd (upd H p1 (.lst (cutV (ns.map V.int) none (some most)))) p2 (.lst [.int 0])) := (same_new n1).trans (same_new n2)
  refine ⟨p1, p2, _, _, rfl, rfl, e1, upd_same, ?_, fun p3 n3 => ?_⟩
  · rw [hks, List.length_map]
    exact Nat.le_trans (show ks.length + 1 ≤ 64 by omega) (by decide)
  have s2 := s1.trans (same_new (o := .lst (cutV (ns.map V.int) none (some most) ++ [.int 0])) n3)
  have e3 : cutV (ns.map V.int) none (some most) ++ [V.int 0] = (ks ++ [0]).map V.int := by rw [hks]; simp
  have hl : (cutV (ns.map V.int) none (some most) ++ [V.int 0]).length ≤ 64 := by rw [e3, List.length_map, List.length_append]; show ks.length + 1 ≤ 64; omega
  refine ⟨p3, _, rfl, .inl (.inl upd_same), fun Dn nD => ?_⟩
  have ne3 : Dn ≠ p3 := fun z => by
    rw [z, upd_same] at nD
    cases nD
  refine lc_it walk_enum (fun i H1 => Same H H1 ∧ H1 p3 = some (.lst (cutV (ns.map V.int) none (some most) ++ [.int 0])) ∧ ∃ bs : List Addr, H1 Dn = some (.lst (bs.map V.ref)) ∧ bs.length = i ∧ bs.Nodup ∧ ∀ b ∈ bs, H b = none ∧ b ≠ Dn ∧ BagAt H1 b 100000)
    ⟨s2.trans (same_new nD), ?_, [], upd_same, rfl, .nil, fun b hb => nomatch hb⟩ (fun i H1 _ p => .inl (.inl p.2.1)) (fun i x H1 H2 hi p y => ?_) (fun H1 p => ?_)
  · rw [upd_ne (Ne.symm ne3), upd_same]
  · obtain ⟨sm, ep3, bs, eD, hbl, hnd, hbs⟩ := p
    obtain ⟨T, x1, x2, rfl, nT, rfl, hx1, hx2⟩ := y
    have ex1 : x1 = .int (i : Nat) := by simpa using hx1.symm
    subst ex1
    obtain ⟨cell, rfl⟩ : ∃ c : Int, x2 = .int c := by
      have hx2 : (cutV (ns.map V.int) none (some most) ++ [V.int 0])[i]? = some x2 := hx2
      rw [e3, List.getElem?_map] at hx2
      cases z : (ks ++ [0])[i]? with
      | none =>
        rw [z] at hx2
        cases hx2
      | some c =>
        rw [z] at hx2
        cases hx2
        exact ⟨c, rfl⟩
    have smT : Same H1 (upd H1 T (.tup [.int (i : Nat), .int cell])) := same_new nT
    refine ⟨T, _, rfl, .inl (.inl upd_same), rfl, _, _, rfl, _, _, rfl, rfl, rfl, ?_⟩
    unfold tYes
    show ite (true = true) _ _
    rw [if_pos rfl]
    refine ⟨.int cell, rfl, .int (i : Nat), rfl, 977, (i : Int), rfl, rfl, .inl ⟨by decide, by decide⟩, cell, _, rfl, fun p a' b' np hb0 hb1 => ?_⟩
    have eDp : Dn ≠ p := ne_of_none (smT _ _ eD) np
    refine ⟨bs.map V.ref, ?_, ?_, ?_, ?_, bs ++ [p], ?_, by rw [List.length_append, hbl]; rfl, ?_, fun b hb => ?_⟩
    · rw [upd_ne eDp]
      exact smT _ _ eD
    · rw [List.length_map, hbl]
      exact Nat.lt_of_lt_of_le (Nat.lt_of_lt_of_le hi hl) (by decide)
    · intro b o eb
      have eb1 := smT _ _ (sm _ _ eb)
      rw [upd_ne (ne_of_none eb (s2.free nD)), upd_ne (ne_of_none eb1 np)]
      exact eb1
    · rw [upd_ne (Ne.symm ne3), upd_ne (ne_of_none (smT _ _ ep3) np)]
      exact smT _ _ ep3
    · rw [upd_same, List.map_append]
      rfl
    · refine List.nodup_append.mpr ⟨hnd, List.nodup_cons.mpr ⟨List.not_mem_nil, .nil⟩, fun x hx y hy => ?_⟩
      rw [List.mem_singleton.mp hy]
      obtain ⟨_, _, _, _, _, e, _⟩ := hbs x hx
      exact ne_of_none (smT _ _ e) np
    · rcases List.mem_append.mp hb with z | z
      · obtain ⟨h1, h2, h3⟩ := hbs b z
        refine ⟨h1, h2, h3.same fun o eo => ?_⟩
        rw [upd_ne h2, upd_ne (ne_of_none (smT _ _ eo) np)]
        exact smT _ _ eo
      · rw [List.mem_singleton.mp z]
        have nH : H p = none := sm.free (smT.free np)
        refine ⟨nH, Ne.symm eDp, a', b', (977 * (i : Int) : Int), ?_, ⟨hb0, hb1⟩, ?_, ?_⟩
        · rw [upd_ne (Ne.symm eDp), upd_same]
        · omega
        · have : i < 64 := Nat.lt_of_lt_of_le hi hl
          omega
  · obtain ⟨sm, _, bs, eD, hbl, hnd, hbs⟩ := p
    have hl2 : bs.length ≤ 64 := by rw [hbl]; exact hl
    exact q H1 Dn bs sm (s2.free nD) eD hl2 hnd fun b hb => ⟨(hbs b hb).1, (hbs b hb).2.2⟩
theorem sc_is_integer : FnScope ["value"] ["value"] (defScope s_is_integer) := ⟨rfl, rfl, rfl, by decide +kernel, rfl, by decide +kernel, by decide +kernel⟩
theorem ok_is_integer (T : Facts K mg) {k : Nat} : FnOk P w K mg base CX0 (k + 1) T.a_is_integer T.d_is_integer ["value"] (spD K XR0 1 m_is_integer) := by
  have S := sc_is_integer
  exact fun_okD (k := k + 0) (body := b_is_integer) T.F_is_integer S (by decide) fun cdv A outer s H E hr => dss_one (ds_ret (de_and (de_isa cr_isaInt (by rfl) T.z_isinstance (de_var (pv 0)) (pe_bltn (by rfl) T.z_int (by decide +kernel) rfl)) (de_one (de_not (de_isa cr_isaBool (by rfl) T.z_isinstance (de_var (pv 0)) (pe_bltn (by rfl) T.z_bool (by decide +kernel) rfl))))))
theorem sc_in_range : FnScope ["value", "low", "high"] ["value", "low", "high"] (defScope s_in_range) := ⟨rfl, rfl, rfl, by decide +kernel, rfl, by decide +kernel, by decide +kernel⟩
theorem ok_in_range (T : Facts K mg) {k : Nat} : FnOk P w K mg base CX0 (k + 2) T.a_in_range T.d_in_range ["value", "low", "high"] (spD K XR0 3 m_in_range) := by
  have S := sc_in_range
  exact fun_okD (k := k + 1) (body := b_in_range) T.F_in_range S (by decide) fun cdv A outer s H E hr => dss_one (ds_ret (de_and (de_call (ok_is_integer T (k := k)) hr (by rfl) T.g_is_integer T.F_is_integer.kp T.b_is_integer passA (da_cons (de_var (pv 0)) (da_nil))) (de_one (de_chain op_le op_le od_le od_le (de_var (pv 1)) (de_var (pv 0)) (de_var (pv 2))))))
theorem sc_is_totals : FnScope ["value", "total"] ["value"] (defScope s_is_totals) := ⟨rfl, rfl, rfl, by decide +kernel, rfl, by decide +kernel, by decide +kernel⟩
theorem ok_is_totals (T : Facts K mg) {k : Nat} : FnOk P w K mg base CX0 (k + 3) T.a_is_totals T.d_is_totals ["value"] (spD K XR0 1 m_is_totals) := by
  have S := sc_is_totals
  exact fun_okD (k := k + 2) (body := b_is_totals) T.F_is_totals S (by decide) fun cdv A outer s H E hr => dss_cons (ds_if (dt_bool (dw_or (dt_not (dt_val (de_isa cr_isaTuple (by rfl) T.z_isinstance (de_var (pv 0)) (pe_bltn (by rfl) T.z_tuple (by decide +kernel) rfl)))) (dw_or1 (dt_not (dt_chain op_le op_le od_le od_le (de_int) (de_callB call_len_seq cd_len (by rfl) T.z_len (by decide +kernel) (dd_cons (de_var (pv 0)) (dd_nil))) (de_globI (pe_glob (u := T.u_MOST_BOATS) (by rfl) T.v_MOST_BOATS T.r_MOST_BOATS))))))) (dss_one (ds_ret (de_bl)))
      (dss_nil))
      (dss_one (ds_ret (de_callB (cr_all rfl) cd_all (by rfl) T.z_all (by decide +kernel) (dd_cons (de_f (df_comp (own := [("total", 1)]) rfl S.nd (blkOk_by (N := ["value", "total"]) (sc := defScope s_is_totals) (by decide +kernel)) (by decide) (di_seq (de_var (pv 0))) (fun _ _ _ _ _ => dg_name (pg_name (i := 1) S.nd rfl (by first | exact .inl rfl | exact .inr rfl))) (fun _ _ _ _ _ => dts_nil) (fun _ _ _ _ _ => de_call (ok_in_range T (k := k)) hr (by rfl) T.g_in_range T.F_in_range.kp T.b_in_range passA (da_cons (de_var (pv 1)) (da_cons (de_int) (da_cons (de_globI (pe_glob (u := T.u_MOST_TOTAL) (by rfl) T.v_MOST_TOTAL T.r_MOST_TOTAL)) (da_nil))))))) (dd_nil)))))
theorem sc_check_totals : FnScope ["value"] ["value"] (defScope s_check_totals) := ⟨rfl, rfl, rfl, by decide +kernel, rfl, by decide +kernel, by decide +kernel⟩
theorem ok_check_totals (T : Facts K mg) {k : Nat} : FnOk P w K mg base CX0 (k + 4) T.a_check_totals T.d_check_totals ["value"] (spD K XR0 1 m_check_totals) := by
  have S := sc_check_totals
  exact fun_okD (k := k + 3) (body := b_check_totals) T.F_check_totals S (by decide) fun cdv A outer s H E hr => dss_one (ds_if (dt_not (dt_val (de_call (ok_is_totals T (k := k)) hr (by rfl) T.g_is_totals T.F_is_totals.kp T.b_is_totals passA (da_cons (de_var (pv 0)) (da_nil))))) (dss_one (ds_never))
      (dss_nil))
theorem sc_check_number : FnScope ["value", "low", "high"] ["value", "low", "high"] (defScope s_check_number) := ⟨rfl, rfl, rfl, by decide +kernel, rfl, by decide +kernel, by decide +kernel⟩
theorem ok_check_number (T : Facts K mg) {k : Nat} : FnOk P w K mg base CX0 (k + 3) T.a_check_number T.d_check_number ["value", "low", "high"] (spD K XR0 3 m_check_number) := by
  have S := sc_check_number
  exact fun_okD (k := k + 2) (body := b_check_number) T.F_check_number S (by decide) fun cdv A outer s H E hr => dss_one (ds_if (dt_not (dt_val (de_call (ok_in_range T (k := k)) hr (by rfl) T.g_in_range T.F_in_range.kp T.b_in_range passA (da_cons (de_var (pv 0)) (da_cons (de_var (pv 1)) (da_cons (de_var (pv 2)) (da_nil))))))) (dss_one (ds_never))
      (dss_nil))
theorem sc_check_boat : FnScope ["totals", "boat"] ["totals", "boat"] (defScope s_check_boat) := ⟨rfl, rfl, rfl, by decide +kernel, rfl, by decide +kernel, by decide +kernel⟩
theorem ok_check_boat (T : Facts K mg) {k : Nat} : FnOk P w K mg base CX0 (k + 3) T.a_check_boat T.d_check_boat ["totals", "boat"] (spD K XR0 2 m_check_boat) := by
  have S := sc_check_boat
  exact fun_okD (k := k + 2) (body := b_check_boat) T.F_check_boat S (by decide) fun cdv A outer s H E hr => dss_one (ds_if (dt_not (dt_val (de_call (ok_in_range T (k := k)) hr (by rfl) T.g_in_range T.F_in_range.kp T.b_in_range passA (da_cons (de_var (pv 1)) (da_cons (de_int) (da_cons (de_bin op_sub od_sub (de_callB call_len_seq cd_len (by rfl) T.z_len (by decide +kernel) (dd_cons (de_var (pv 0)) (dd_nil))) (de_int)) (da_nil))))))) (dss_one (ds_never))
      (dss_nil))
theorem sc_least : FnScope ["count", "races"] ["count", "races"] (defScope s_least) := ⟨rfl, rfl, rfl, by decide +kernel, rfl, by decide +kernel, by decide +kernel⟩
theorem ok_least (T : Facts K mg) {k : Nat} : FnOk P w K mg base CX0 (k + 1) T.a_least T.d_least ["count", "races"] (spD K XR0 2 m_least) := by
  have S := sc_least
  exact fun_okD (k := k + 0) (body := b_least) T.F_least S (by decide) fun cdv A outer s H E hr => dss_one (ds_ret (de_bin op_fdiv od_fdiv (de_bin op_mulA od_mul (de_bin op_mulA od_mul (de_var (pv 1)) (de_var (pv 0))) (de_bin op_addA od_add (de_var (pv 0)) (de_int))) (de_int)))
theorem sc_short_set : FnScope ["results", "races", "order", "boat", "total", "found", "count", "other"] ["results", "races"] (defScope s_short_set) := ⟨rfl, rfl, rfl, by decide +kernel, rfl, by decide +kernel, by decide +kernel⟩
theorem ok_short_set (T : Facts K mg) {k : Nat} : FnOk P w K mg base CX0 (k + 2) T.a_short_set T.d_short_set ["results", "races"] (spD K XR0 2 m_short_set) := by
  have S := sc_short_set
  exact fun_okD (k := k + 1) (body := b_short_set) T.F_short_set S (by decide) fun cdv A outer s H E hr => dss_cons (ds_asg (de_f (df_callB (cr_sortP hr) cf_sort (by rfl) T.z_sorted (by decide +kernel) (dd_cons (de_f (df_comp (own := [("boat", 3), ("total", 4)]) rfl S.nd (blkOk_by (N := ["results", "races", "order", "boat", "total", "found", "count", "other"]) (sc := defScope s_short_set) (by decide +kernel)) (by decide) (di_enum (by rfl) T.z_enumerate (de_var (pv 0))) (fun _ _ _ _ _ => dg_tup rfl (dgs_cons (dg_name (pg_name (i := 3) S.nd rfl (by first | exact .inl rfl | exact .inr rfl))) (dgs_cons (dg_name (pg_name (i := 4) S.nd rfl (by first | exact .inl rfl | exact .inr rfl))) (dgs_nil)))) (fun _ _ _ _ _ => dts_nil) (fun _ _ _ _ _ => de_tup (dd_cons (de_var (pv 4)) (dd_cons (de_var (pv 3)) (dd_nil)))))) (dd_nil)))) (dg_name (pg_name (i := 2) S.nd rfl (by first | exact .inl rfl | exact .inr rfl))))
      (dss_cons (ds_asg (de_int) (dg_name (pg_name (i := 5) S.nd rfl (by first | exact .inl rfl | exact .inr rfl))))
      (dss_cons (ds_for PassesOwn.never rfl (di_enum (by rfl) T.z_enumerate (de_var (pv 2))) (dg_tup rfl (dgs_cons (dg_name (pg_name (i := 6) S.nd rfl (by first | exact .inl rfl | exact .inr rfl))) (dgs_cons (dg_tup rfl (dgs_cons (dg_name (pg_name (i := 4) S.nd rfl (by first | exact .inl rfl | exact .inr rfl))) (dgs_cons (dg_name (pg_name (i := 3) S.nd rfl (by first | exact .inl rfl | exact .inr rfl))) (dgs_nil)))) (dgs_nil))))
      (dss_cons (ds_asg (de_bin op_addA od_add (de_var (pv 5)) (de_var (pv 4))) (dg_name (pg_name (i := 5) S.nd rfl (by first | exact .inl rfl | exact .inr rfl))))
      (dss_one (ds_if (dt_cmp op_lt od_lt (de_var (pv 5)) (de_call (ok_least T (k := k)) hr (by rfl) T.g_least T.F_least.kp T.b_least passA (da_cons (de_bin op_addA od_add (de_var (pv 6)) (de_int)) (da_cons (de_var (pv 1)) (da_nil)))) (by rfl)) (dss_one (ds_ret (de_callTy call_tuple_of cd_tuple (by rfl) T.z_tuple (by decide +kernel) (dd_cons (de_f (df_callB (cr_sortP hr) cf_sort (by rfl) T.z_sorted (by decide +kernel) (dd_cons (de_f (df_comp (own := [("total", 4), ("other", 7)]) rfl S.nd (blkOk_by (N := ["results", "races", "order", "boat", "total", "found", "count", "other"]) (sc := defScope s_short_set) (by decide +kernel)) (by decide) (di_seq (de_slice (de_var (pv 2)) (do_none) (do_some (de_bin op_addA od_add (de_var (pv 6)) (de_int))))) (fun _ _ _ _ _ => dg_tup rfl (dgs_cons (dg_name (pg_name (i := 4) S.nd rfl (by first | exact .inl rfl | exact .inr rfl))) (dgs_cons (dg_name (pg_name (i := 7) S.nd rfl (by first | exact .inl rfl | exact .inr rfl))) (dgs_nil)))) (fun _ _ _ _ _ => dts_nil) (fun _ _ _ _ _ => de_var (pv 7)))) (dd_nil)))) (dd_nil)))))
      (dss_nil)))))
      (dss_one (ds_ret (de_non)))))
theorem sc_balanced : FnScope ["results", "races"] ["results", "races"] (defScope s_balanced) := ⟨rfl, rfl, rfl, by decide +kernel, rfl, by decide +kernel, by decide +kernel⟩
theorem ok_balanced (T : Facts K mg) {k : Nat} : FnOk P w K mg base CX0 (k + 3) T.a_balanced T.d_balanced ["results", "races"] (spD K XR0 2 m_balanced) := by
  have S := sc_balanced
  exact fun_okD (k := k + 2) (body := b_balanced) T.F_balanced S (by decide) fun cdv A outer s H E hr => dss_one (ds_ret (de_and (de_cmp (op_eqP hr) od_eq (de_callB (cr_or (cr_sum rfl) (cr_sumT rfl)) cd_sum (by rfl) T.z_sum (by decide +kernel) (dd_cons (de_var (pv 0)) (dd_nil))) (de_call (ok_least T (k := k + 1)) hr (by rfl) T.g_least T.F_least.kp T.b_least passA (da_cons (de_callB call_len_seq cd_len (by rfl) T.z_len (by decide +kernel) (dd_cons (de_var (pv 0)) (dd_nil))) (da_cons (de_var (pv 1)) (da_nil)))) (by rfl)) (de_one (de_cmp (OpR.or op_isN op_is_bl) od_is (de_call (ok_short_set T (k := k)) hr (by rfl) T.g_short_set T.F_short_set.kp T.b_short_set passA (da_cons (de_var (pv 0)) (da_cons (de_var (pv 1)) (da_nil)))) (de_non) (by rfl)))))
theorem sc_occurs : FnScope ["results", "races"] ["results", "races"] (defScope s_occurs) := ⟨rfl, rfl, rfl, by decide +kernel, rfl, by decide +kernel, by decide +kernel⟩
theorem ok_occurs (T : Facts K mg) {k : Nat} : FnOk P w K mg base CX0 (k + 4) T.a_occurs T.d_occurs ["results", "races"] (spD K XR0 2 m_occursN) := by
  have S := sc_occurs
  exact fun_okD (k := k + 3) (body := b_occursN) T.F_occurs S (by decide) fun cdv A outer s H E hr => dss_cons (ds_if (dt_not (dt_val (de_call (ok_balanced T (k := k)) hr (by rfl) T.g_balanced T.F_balanced.kp T.b_balanced passA (da_cons (de_var (pv 0)) (da_cons (de_var (pv 1)) (da_nil)))))) (dss_one (ds_ret (de_bl)))
      (dss_nil))
      (dss_one (ds_ret (de_or (de_cmp op_ge od_ge (de_var (pv 1)) (de_bin op_sub od_sub (de_callB call_len_seq cd_len (by rfl) T.z_len (by decide +kernel) (dd_cons (de_var (pv 0)) (dd_nil))) (de_int)) (by rfl)) (de_one (de_cmp (OpR.or op_notN op_isnot_bl) od_isnot (de_nev) (de_non) (by rfl))))))
theorem sc_unread : FnScope ["results", "races", "one", "other", "known", "boat", "total", "found", "both", "first", "changed"] ["results", "races", "one", "other"] (defScope s_unread) := ⟨rfl, rfl, rfl, by decide +kernel, rfl, by decide +kernel, by decide +kernel⟩
theorem ok_unread (T : Facts K mg) {k : Nat} : FnOk P w K mg base CX0 (k + 5) T.a_unread T.d_unread ["results", "races", "one", "other"] (spD K XR0 4 m_unreadN) := by
  have S := sc_unread
  exact fun_okD (k := k + 4) (body := b_unreadN) T.F_unread S (by decide) fun cdv A outer s H E hr => dss_cons (ds_expr (de_call (ok_check_totals T (k := k)) hr (by rfl) T.g_check_totals T.F_check_totals.kp T.b_check_totals passA (da_cons (de_var (pv 0)) (da_nil))))
      (dss_cons (ds_expr (de_call (ok_check_number T (k := k + 1)) hr (by rfl) T.g_check_number T.F_check_number.kp T.b_check_number passA (da_cons (de_var (pv 1)) (da_cons (de_int) (da_cons (de_globI (pe_glob (u := T.u_MOST_RACES) (by rfl) T.v_MOST_RACES T.r_MOST_RACES)) (da_nil))))))
      (dss_cons (ds_expr (de_call (ok_check_boat T (k := k + 1)) hr (by rfl) T.g_check_boat T.F_check_boat.kp T.b_check_boat passA (da_cons (de_var (pv 0)) (da_cons (de_var (pv 2)) (da_nil)))))
      (dss_cons (ds_expr (de_call (ok_check_boat T (k := k + 1)) hr (by rfl) T.g_check_boat T.F_check_boat.kp T.b_check_boat passA (da_cons (de_var (pv 0)) (da_cons (de_var (pv 3)) (da_nil)))))
      (dss_cons (ds_if (dt_cmp (op_eqP hr) od_eq (de_var (pv 2)) (de_var (pv 3)) (by rfl)) (dss_one (ds_never))
      (dss_nil))
      (dss_cons (ds_asg (de_callB (cr_or (cr_sum rfl) (cr_sumT rfl)) cd_sum (by rfl) T.z_sum (by decide +kernel) (dd_cons (de_f (df_comp (own := [("boat", 5), ("total", 6)]) rfl S.nd (blkOk_by (N := ["results", "races", "one", "other", "known", "boat", "total", "found", "both", "first", "changed"]) (sc := defScope s_unread) (by decide +kernel)) (by decide) (di_enum (by rfl) T.z_enumerate (de_var (pv 0))) (fun _ _ _ _ _ => dg_tup rfl (dgs_cons (dg_name (pg_name (i := 5) S.nd rfl (by first | exact .inl rfl | exact .inr rfl))) (dgs_cons (dg_name (pg_name (i := 6) S.nd rfl (by first | exact .inl rfl | exact .inr rfl))) (dgs_nil)))) (fun _ _ _ _ _ => dts_one (dt_cmp (op_ninP hr) od_in (de_var (pv 5)) (de_tup (dd_cons (de_var (pv 2)) (dd_cons (de_var (pv 3)) (dd_nil)))) (by rfl))) (fun _ _ _ _ _ => de_var (pv 6)))) (dd_nil))) (dg_name (pg_name (i := 4) S.nd rfl (by first | exact .inl rfl | exact .inr rfl))))
      (dss_cons (ds_parF (df_lst (dd_nil)) (de_bin op_sub od_sub (de_call (ok_least T (k := k + 3)) hr (by rfl) T.g_least T.F_least.kp T.b_least passA (da_cons (de_callB call_len_seq cd_len (by rfl) T.z_len (by decide +kernel) (dd_cons (de_var (pv 0)) (dd_nil))) (da_cons (de_var (pv 1)) (da_nil)))) (de_var (pv 4))) (fun _ h => ps_par rfl S.nd rfl rfl (by decide) rfl rfl h (by rfl)))
      (dss_cons (ds_for PassesOwn.never rfl (di_range1 (by rfl) T.z_range (de_callB (call_max2 rfl) cd_max2 (by rfl) T.z_max (by decide +kernel) (dd_cons (de_int) (dd_cons (de_bin op_addA od_add (de_var (pv 8)) (de_int)) (dd_nil))))) (dg_name (pg_name (i := 9) S.nd rfl (by first | exact .inl rfl | exact .inr rfl)))
      (dss_cons (ds_asgF (df_callTy call_list_of cf_list (by rfl) T.z_list (by decide +kernel) (dd_cons (de_var (pv 0)) (dd_nil))) (pg_name (i := 10) S.nd rfl (by first | exact .inl rfl | exact .inr rfl)))
      (dss_cons (ds_asgU (de_tup (dd_cons (de_var (pv 9)) (dd_cons (de_bin op_sub od_sub (de_var (pv 8)) (de_var (pv 9))) (dd_nil)))) (du_tup rfl (dus_cons (du_own (pg_sub (pv 10) (DE.run (de_var (pv 2))) set_list)) (dus_cons (du_own (pg_sub (pv 10) (DE.run (de_var (pv 3))) set_list)) (dus_nil)))))
      (dss_one (ds_if (dt_bor 10 (dt_val (de_call (ok_occurs T (k := k)) hr (by rfl) T.g_occurs T.F_occurs.kp T.b_occurs passA (da_cons (de_callTy call_tuple_of cd_tuple (by rfl) T.z_tuple (by decide +kernel) (dd_cons (de_var (pv 10)) (dd_nil))) (da_cons (de_var (pv 1)) (da_nil)))))) (dss_one (ds_ownM (i := 7) om_append (pe_bm PySem.F.plainAttrs_list PySem.F.slot_list_append PySem.F.type_list_append mt_append (pv 7) (DD.run (dd_cons (de_tup (dd_cons (de_var (pv 9)) (dd_cons (de_bin op_sub od_sub (de_var (pv 8)) (de_var (pv 9))) (dd_nil)))) (dd_nil))))))
      (dss_nil))))))
      (dss_one (ds_retOwn (pv 7))))))))))
theorem sc__law_sums : FnScope ["races_so", "found", "race", "total", "place"] ["races_so"] (defScope s__law_sums) := ⟨rfl, rfl, rfl, by decide +kernel, rfl, by decide +kernel, by decide +kernel⟩
theorem ok__law_sums (T : Facts K mg) {k : Nat} : FnOk P w K mg base CX0 (k + 1) T.a__law_sums T.d__law_sums ["races_so"] (spD K XR0 1 m__law_sums) := by
  have S := sc__law_sums
  exact fun_okD (k := k + 0) (body := b__law_sums) T.F__law_sums S (by decide) fun cdv A outer s H E hr => dss_cons (ds_asg (de_bin op_mulA od_mul (de_f (df_lst (dd_cons (de_int) (dd_nil)))) (de_callB call_len_seq cd_len (by rfl) T.z_len (by decide +kernel) (dd_cons (de_ix (de_var (pv 0)) (de_int) (fun _ _ => rfl)) (dd_nil)))) (dg_name (pg_name (i := 1) S.nd rfl (by first | exact .inl rfl | exact .inr rfl))))
      (dss_cons (ds_for PassesOwn.never rfl (di_seq (de_var (pv 0))) (dg_name (pg_name (i := 2) S.nd rfl (by first | exact .inl rfl | exact .inr rfl)))
      (dss_one (ds_compD (own := [("total", 3), ("place", 4)]) rfl S.nd rfl rfl (sw_true rfl rfl rfl (by decide +kernel)) (blkOk_by (N := ["races_so", "found", "race", "total", "place"]) (sc := defScope s__law_sums) (by decide +kernel)) (by decide) (di_zip (by rfl) T.z_zip (de_var (pv 1)) (de_var (pv 2))) (fun _ _ _ _ _ => dg_tup rfl (dgs_cons (dg_name (pg_name (i := 3) S.nd rfl (by first | exact .inl rfl | exact .inr rfl))) (dgs_cons (dg_name (pg_name (i := 4) S.nd rfl (by first | exact .inl rfl | exact .inr rfl))) (dgs_nil)))) (fun _ _ _ _ _ => dts_nil) (fun _ _ _ _ _ => de_bin op_addA od_add (de_var (pv 3)) (de_var (pv 4))))))
      (dss_one (ds_ret (de_callTy call_tuple_of cd_tuple (by rfl) T.z_tuple (by decide +kernel) (dd_cons (de_var (pv 1)) (dd_nil))))))
theorem sc__law_take : FnScope ["bag", "many", "found", "p", "n"] ["bag", "many"] (defScope s__law_take) := ⟨rfl, rfl, rfl, by decide +kernel, rfl, by decide +kernel, by decide +kernel⟩
theorem bag_upd {H : Hp} {b : Addr} {m m' : Nat} {o : HO} (l : m ≤ m') (h : ∀ u, o = u → ∃ a b c : Int, u = .lst [.int a, .int b, .int c] ∧ (0 ≤ b ∧ b < 2305843009213693951) ∧ 0 ≤ c ∧ c ≤ m') : Step (fun p => p = b) H (upd H b o) m m' := by
  refine ⟨fun p o' e n => by rw [upd_ne n]; exact e, fun p e _ => ?_, l⟩
  obtain ⟨a, b', c, e1, h1, h2⟩ := h o rfl
  exact ⟨a, b', c, by rw [e, upd_same, e1], h1, h2⟩
theorem ok__law_take (T : Facts K mg) {k : Nat} : FnOk P w K mg base CX0 (k + 1) T.a__law_take T.d__law_take ["bag", "many"] (spD K XR0 2 m__law_take) := by
  refine T.F__law_take.ok sc__law_take (fun vs H Q E h => h.choose_spec.choose_spec.choose_spec.choose_spec.choose_spec.1) (fun cdv A outer s H vs Q E hr h => ?_)
  obtain ⟨O, ss, m, FF, R, hl, rel, no, ⟨many, rfl, hm, hlim, hR⟩, q, hx⟩ := h
  obtain ⟨v0, v1, rfl⟩ : ∃ v0 v1, vs = [v0, v1] := by
    match vs, hl with
    | [a, b], _ => exact ⟨a, b, rfl⟩
  obtain ⟨b, e0, hO, a, bb, c, eb, hb, hc0, hcm⟩ := rel.ok 0 _ rfl
  cases e0
  obtain ⟨x1, e1, dv⟩ := rel.ok 1 _ rfl
  cases e1
  cases dv
  have hcm : c ≤ (m : Int) := hcm
  have bagB : ∀ p, BagOf ([V.ref b, .int many].map some) [Slot.bag, .dat (.int many)] p → p = b := fun p ⟨i, h1, h2⟩ => by
    match i, h1, h2 with
    | 0, h1, _ => cases h1; rfl
    | 1, _, h2 => cases h2
  have bag0 : BagOf ([V.ref b, .int many].map some) [Slot.bag, .dat (.int many)] b := ⟨0, rfl, rfl⟩
  have fin : ∀ (o : HO) (x : Int), (∃ a b c : Int, o = .lst [.int a, .int b, .int c] ∧ (0 ≤ b ∧ b < 2305843009213693951) ∧ 0 ≤ c ∧ c ≤ ((m + 1 : Nat) : Int)) → 0 ≤ x → x < many → Q (.int x) (upd H b o) := fun o x ⟨a, b', c, e, h1, h2⟩ h3 h4 => by
    refine q (.int x) _ (.dat (.int x)) (m + 1) ⟨fun p o' eo nb => ?_, fun p bp _ => ?_, Nat.le_succ m⟩ (show Dv _ _ _ _ from .int x) (hR x h3 h4)
    · rw [upd_ne fun z => nb (by rw [z]; exact bag0)]
      exact eo
    · rw [bagB p bp]
      exact ⟨a, b', c, by rw [upd_same, e], h1, h2⟩
  refine ⟨_, pss_cons (ps_if (pt_cmpR op_gt (pe_ix ix_list (pv 0) pe_int (fun _ _ => rfl)) pe_int (nomark _))
      (pss_cons (ps_set (i := 2) sc__law_take.nd rfl (.inl rfl) (pe_op op_mod (pe_ix ix_list (pv 0) pe_int (fun _ _ => rfl)) (pv 1)))
        (pss_cons (ps_asg (pe_op op_fdiv (pe_ix ix_list (pv 0) pe_int (fun _ _ => rfl)) (pv 1)) (pg_sub (pv 0) pe_int set_list)) (pss_one (ps_ret (pv 2))))) pss_nil)
    (pss_cons (ps_asg (pe_op op_add (pe_ix ix_list (pv 0) pe_int (fun _ _ => rfl)) pe_int) (pg_sub (pv 0) pe_int set_list))
    (pss_cons (ps_set (i := 3) sc__law_take.nd rfl (.inl rfl) pe_int)
    (pss_cons (ps_set (i := 4) sc__law_take.nd rfl (.inl rfl) (pe_op op_mod (pe_op op_add (pe_ix ix_list (pv 0) pe_int (fun _ _ => rfl)) (pe_op op_mul pe_int (pe_ix ix_list (pv 0) pe_int (fun _ _ => rfl)))) (pv 3)))
    (pss_cons (ps_set (i := 4) sc__law_take.nd rfl (.inl rfl) (pe_op op_mod (pe_op op_add (pe_op op_add (pe_op op_mul (pv 4) (pv 4)) (pe_op op_mul pe_int (pe_op op_pow (pe_ix ix_list (pv 0) pe_int (fun _ _ => rfl)) pe_int))) pe_int) (pv 3)))
    (pss_one (ps_ret (pe_op op_mod (pe_op op_fdiv (pe_op op_mod (pe_op op_pow (pv 4) pe_int) (pv 3)) pe_int) (pv 1)))))))), ?_⟩
  have sq : SqL K H b [.int a, .int bb, .int c] := .inl (.inl eb)
  refine ⟨.ref b, rfl, b, _, 0, .int a, rfl, rfl, sq, rfl, a, 0, rfl, rfl, _, rfl, ite2 (fun h0 => ?_) (fun h0 => ?_)⟩
  · refine ⟨.ref b, rfl, b, _, 0, .int a, rfl, rfl, sq, rfl, .int many, rfl, a, many, rfl, rfl, hm.1, ?_⟩
    refine ⟨.ref b, rfl, b, _, 0, .int a, rfl, rfl, sq, rfl, .int many, rfl, a, many, rfl, rfl, ⟨hm.1, by omega⟩, ?_⟩
    refine ⟨.ref b, rfl, b, _, 0, 0, rfl, rfl, eb, rfl, ?_⟩
    refine ⟨.int (a % many), rfl, ?_⟩
    exact fin _ _ ⟨a / many, bb, c, rfl, hb, hc0, by omega⟩ (Int.emod_nonneg _ (by omega)) (Int.emod_lt_of_pos _ hm.1)
  · refine ⟨.ref b, rfl, b, _, 2, .int c, rfl, rfl, sq, rfl, c, 1, rfl, rfl, ?_⟩
    refine ⟨.ref b, rfl, b, _, 2, 2, rfl, rfl, eb, rfl, ?_⟩
    have sq2 : SqL K (upd H b (.lst [.int a, .int bb, .int (c + 1)])) b [.int a, .int bb, .int (c + 1)] := .inl (.inl upd_same)
    -- p
    refine ⟨.ref b, rfl, b, _, 1, .int bb, rfl, rfl, sq2, rfl, .ref b, rfl, b, _, 2, .int (c + 1), rfl, rfl, sq2, rfl, 1000003, c + 1, rfl, rfl, .inl ⟨by decide, by decide⟩, bb, _, rfl, rfl, .int 2305843009213693951, rfl, _, _, rfl, rfl, (by decide : (0 : Int) < 2305843009213693951), ?_⟩
    have n1 := Int.emod_nonneg (bb + 1000003 * (c + 1)) (b := 2305843009213693951) (by decide)
    have n2 := Int.emod_lt_of_pos (bb + 1000003 * (c + 1)) (b := 2305843009213693951) (by decide)
    have hs : ∀ n : Int, n = (bb + 1000003 * (c + 1)) % 2305843009213693951 → -(2 ^ 64) < n ∧ n < 2 ^ 64 := fun n e => ⟨by omega, by omega⟩
    refine ⟨_, rfl, _, rfl, _, _, rfl, rfl, .inl (hs _ rfl), .ref b, rfl, b, _, 2, .int (c + 1), rfl, rfl, sq2, rfl, c + 1, 2, rfl, rfl, ⟨by decide, by decide, by omega⟩, 7919, _, rfl, rfl, .inl ⟨by decide, by decide⟩, _, _, rfl, rfl, _, 5, rfl, rfl, .int 2305843009213693951, rfl, _, _, rfl, rfl, (by decide : (0 : Int) < 2305843009213693951), ?_⟩
    have hz : ∀ y : Int, (y % 2305843009213693951).natAbs < 2 ^ 64 := fun y => by
      have n3 := Int.emod_nonneg y (b := 2305843009213693951) (by decide)
      have n4 := Int.emod_lt_of_pos y (b := 2305843009213693951) (by decide)
      omega
    refine ⟨_, rfl, _, 3, rfl, rfl, ⟨by decide, by decide, hz _⟩, .int 2305843009213693951, rfl, _, _, rfl, rfl, (by decide : (0 : Int) < 2305843009213693951), _, 13, rfl, rfl, ⟨by decide, by decide⟩, .int many, rfl, _, _, rfl, rfl, hm.1, ?_⟩
    exact fin _ _ ⟨a, bb, c + 1, rfl, hb, by omega, by omega⟩ (Int.emod_nonneg _ (by omega)) (Int.emod_lt_of_pos _ hm.1)
theorem sc__law_race : FnScope ["bag", "many", "found", "place", "at"] ["bag", "many"] (defScope s__law_race) := ⟨rfl, rfl, rfl, by decide +kernel, rfl, by decide +kernel, by decide +kernel⟩
theorem ok__law_race (T : Facts K mg) {k : Nat} : FnOk P w K mg base CX0 (k + 2) T.a__law_race T.d__law_race ["bag", "many"] (spD K XR0 2 m__law_race) := by
  have S := sc__law_race
  exact fun_okD (k := k + 1) (body := b__law_race) T.F__law_race S (by decide) fun cdv A outer s H E hr => dss_cons (ds_asg (de_tup (dd_nil)) (dg_name (pg_name (i := 2) S.nd rfl (by first | exact .inl rfl | exact .inr rfl))))
      (dss_cons (ds_for PassesOwn.never rfl (di_range2 (by rfl) T.z_range (de_int) (de_bin op_addA od_add (de_var (pv 1)) (de_int))) (dg_name (pg_name (i := 3) S.nd rfl (by first | exact .inl rfl | exact .inr rfl)))
      (dss_cons (ds_asg (de_call (ok__law_take T (k := k)) hr (by rfl) T.g__law_take T.F__law_take.kp T.b__law_take passA (da_bag (pv 0) (da_cons (de_var (pv 3)) (da_nil)))) (dg_name (pg_name (i := 4) S.nd rfl (by first | exact .inl rfl | exact .inr rfl))))
      (dss_one (ds_asg (de_bin op_addA od_add (de_bin op_addA od_add (de_slice (de_var (pv 2)) (do_none) (do_some (de_var (pv 4)))) (de_tup (dd_cons (de_var (pv 3)) (dd_nil)))) (de_slice (de_var (pv 2)) (do_some (de_var (pv 4))) (do_none))) (dg_name (pg_name (i := 2) S.nd rfl (by first | exact .inl rfl | exact .inr rfl)))))))
      (dss_one (ds_ret (de_var (pv 2)))))
theorem sc__law_list : FnScope ["bag", "many", "size", "turn"] ["bag", "many", "size"] (defScope s__law_list) := ⟨rfl, rfl, rfl, by decide +kernel, rfl, by decide +kernel, by decide +kernel⟩
theorem ok__law_list (T : Facts K mg) {k : Nat} : FnOk P w K mg base CX0 (k + 3) T.a__law_list T.d__law_list ["bag", "many", "size"] (spD K XR0 3 m__law_list) := by
  have S := sc__law_list
  exact fun_okD (k := k + 2) (body := b__law_list) T.F__law_list S (by decide) fun cdv A outer s H E hr => dss_one (ds_ret (de_callTy call_tuple_of cd_tuple (by rfl) T.z_tuple (by decide +kernel) (dd_cons (de_f (df_comp (own := [("turn", 3)]) rfl S.nd (blkOk_by (N := ["bag", "many", "size", "turn"]) (sc := defScope s__law_list) (by decide +kernel)) (by decide) (di_range1 (by rfl) T.z_range (de_var (pv 2))) (fun _ _ _ _ _ => dg_name (pg_name (i := 3) S.nd rfl (by first | exact .inl rfl | exact .inr rfl))) (fun _ _ _ _ _ => dts_nil) (fun _ _ _ _ _ => de_call (ok__law_race T (k := k)) hr (by rfl) T.g__law_race T.F__law_race.kp T.b__law_race passA (da_bag (pv 0) (da_cons (de_var (pv 1)) (da_nil)))))) (dd_nil))))
theorem sc__law_fits : FnScope ["results", "size", "found", "count", "total"] ["results", "size"] (defScope s__law_fits) := ⟨rfl, rfl, rfl, by decide +kernel, rfl, by decide +kernel, by decide +kernel⟩
theorem ok__law_fits (T : Facts K mg) {k : Nat} : FnOk P w K mg base CX0 (k + 1) T.a__law_fits T.d__law_fits ["results", "size"] (spD K XR0 2 m__law_fits) := by
  have S := sc__law_fits
  exact fun_okD (k := k + 0) (body := b__law_fits) T.F__law_fits S (by decide) fun cdv A outer s H E hr => dss_cons (ds_asg (de_int) (dg_name (pg_name (i := 2) S.nd rfl (by first | exact .inl rfl | exact .inr rfl))))
      (dss_cons (ds_for PassesOwn.never rfl (di_enum (by rfl) T.z_enumerate (de_f (df_callB (cr_sortP hr) cf_sort (by rfl) T.z_sorted (by decide +kernel) (dd_cons (de_var (pv 0)) (dd_nil))))) (dg_tup rfl (dgs_cons (dg_name (pg_name (i := 3) S.nd rfl (by first | exact .inl rfl | exact .inr rfl))) (dgs_cons (dg_name (pg_name (i := 4) S.nd rfl (by first | exact .inl rfl | exact .inr rfl))) (dgs_nil))))
      (dss_cons (ds_asg (de_bin op_addA od_add (de_var (pv 2)) (de_var (pv 4))) (dg_name (pg_name (i := 2) S.nd rfl (by first | exact .inl rfl | exact .inr rfl))))
      (dss_one (ds_if (dt_cmp op_lt od_lt (de_var (pv 2)) (de_bin op_fdiv od_fdiv (de_bin op_mulA od_mul (de_bin op_mulA od_mul (de_var (pv 1)) (de_bin op_addA od_add (de_var (pv 3)) (de_int))) (de_bin op_addA od_add (de_var (pv 3)) (de_int))) (de_int)) (by rfl)) (dss_one (ds_ret (de_bl)))
      (dss_nil)))))
      (dss_one (ds_ret (de_cmp (op_eqP hr) od_eq (de_var (pv 2)) (de_bin op_fdiv od_fdiv (de_bin op_mulA od_mul (de_bin op_mulA od_mul (de_var (pv 1)) (de_callB call_len_seq cd_len (by rfl) T.z_len (by decide +kernel) (dd_cons (de_var (pv 0)) (dd_nil)))) (de_bin op_addA od_add (de_callB call_len_seq cd_len (by rfl) T.z_len (by decide +kernel) (dd_cons (de_var (pv 0)) (dd_nil))) (de_int))) (de_int)) (by rfl)))))
theorem sc__law_same : FnScope ["a", "b", "x", "y"] ["a", "b"] (defScope s__law_same) := ⟨rfl, rfl, rfl, by decide +kernel, rfl, by decide +kernel, by decide +kernel⟩
theorem ok__law_same_ (T : Facts K mg) {k : Nat} : ∀ n : Nat, FnOk P w K mg base CX0 (k + n + 1) T.a__law_same T.d__law_same ["a", "b"] (spD K XR0 2 (m__law_same_ n)) := by
  have S := sc__law_same
  intro n
  induction n with
  | zero => exact fun_okNo (k := k + 0) T.F__law_same S
  | succ n ih =>
    exact fun_okD (k := k + n + 1) (body := b__law_same (m__law_same_ n)) T.F__law_same S (by decide) fun cdv A outer s H E hr => dss_cons (ds_if (dt_bool (dw_or (dt_bool (dw_and (dt_val (de_isa cr_isaList (by rfl) T.z_isinstance (de_var (pv 0)) (pe_bltn (by rfl) T.z_list (by decide +kernel) rfl))) (dw_and1 (dt_val (de_isa cr_isaList (by rfl) T.z_isinstance (de_var (pv 1)) (pe_bltn (by rfl) T.z_list (by decide +kernel) rfl)))))) (dw_or1 (dt_bool (dw_and (dt_val (de_isa cr_isaTuple (by rfl) T.z_isinstance (de_var (pv 0)) (pe_bltn (by rfl) T.z_tuple (by decide +kernel) rfl))) (dw_and1 (dt_val (de_isa cr_isaTuple (by rfl) T.z_isinstance (de_var (pv 1)) (pe_bltn (by rfl) T.z_tuple (by decide +kernel) rfl))))))))) (dss_one (ds_ret (de_and (de_cmp (op_eqP hr) od_eq (de_callB call_len_seq cd_len (by rfl) T.z_len (by decide +kernel) (dd_cons (de_var (pv 0)) (dd_nil))) (de_callB call_len_seq cd_len (by rfl) T.z_len (by decide +kernel) (dd_cons (de_var (pv 1)) (dd_nil))) (by rfl)) (de_one (de_callB (cr_all rfl) cd_all (by rfl) T.z_all (by decide +kernel) (dd_cons (de_f (df_comp (own := [("x", 2), ("y", 3)]) rfl S.nd (blkOk_by (N := ["a", "b", "x", "y"]) (sc := defScope s__law_same) (by decide +kernel)) (by decide) (di_zip (by rfl) T.z_zip (de_var (pv 0)) (de_var (pv 1))) (fun _ _ _ _ _ => dg_tup rfl (dgs_cons (dg_name (pg_name (i := 2) S.nd rfl (by first | exact .inl rfl | exact .inr rfl))) (dgs_cons (dg_name (pg_name (i := 3) S.nd rfl (by first | exact .inl rfl | exact .inr rfl))) (dgs_nil)))) (fun _ _ _ _ _ => dts_nil) (fun _ _ _ _ _ => de_call ih hr (by rfl) T.g__law_same T.F__law_same.kp T.b__law_same passA (da_cons (de_var (pv 2)) (da_cons (de_var (pv 3)) (da_nil)))))) (dd_nil)))))))
      (dss_nil))
      (dss_cons (ds_if (dt_bool (dw_or (dt_val (de_isa3 (by rfl) T.z_isinstance (de_var (pv 0)) (pe_bltn (by rfl) T.z_bool (by decide +kernel) rfl) (pe_bltn (by rfl) T.z_list (by decide +kernel) rfl) (pe_bltn (by rfl) T.z_tuple (by decide +kernel) rfl))) (dw_or1 (dt_val (de_isa3 (by rfl) T.z_isinstance (de_var (pv 1)) (pe_bltn (by rfl) T.z_bool (by decide +kernel) rfl) (pe_bltn (by rfl) T.z_list (by decide +kernel) rfl) (pe_bltn (by rfl) T.z_tuple (by decide +kernel) rfl)))))) (dss_one (ds_ret (de_and (de_isa cr_isaBool (by rfl) T.z_isinstance (de_var (pv 0)) (pe_bltn (by rfl) T.z_bool (by decide +kernel) rfl)) (de_and (de_isa cr_isaBool (by rfl) T.z_isinstance (de_var (pv 1)) (pe_bltn (by rfl) T.z_bool (by decide +kernel) rfl)) (de_one (de_cmp (op_eqP hr) od_eq (de_var (pv 0)) (de_var (pv 1)) (by rfl)))))))
      (dss_nil))
      (dss_cons (ds_if (dt_bool (dw_or (dt_val (de_isa cr_isaInt (by rfl) T.z_isinstance (de_var (pv 0)) (pe_bltn (by rfl) T.z_int (by decide +kernel) rfl))) (dw_or1 (dt_val (de_isa cr_isaInt (by rfl) T.z_isinstance (de_var (pv 1)) (pe_bltn (by rfl) T.z_int (by decide +kernel) rfl)))))) (dss_one (ds_ret (de_and (de_isa cr_isaInt (by rfl) T.z_isinstance (de_var (pv 0)) (pe_bltn (by rfl) T.z_int (by decide +kernel) rfl)) (de_and (de_isa cr_isaInt (by rfl) T.z_isinstance (de_var (pv 1)) (pe_bltn (by rfl) T.z_int (by decide +kernel) rfl)) (de_one (de_cmp (op_eqP hr) od_eq (de_var (pv 0)) (de_var (pv 1)) (by rfl)))))))
      (dss_nil))
      (dss_cons (ds_if (dt_bool (dw_or (dt_val (de_isa cr_isaStr (by rfl) T.z_isinstance (de_var (pv 0)) (pe_bltn (by rfl) T.z_str (by decide +kernel) rfl))) (dw_or1 (dt_val (de_isa cr_isaStr (by rfl) T.z_isinstance (de_var (pv 1)) (pe_bltn (by rfl) T.z_str (by decide +kernel) rfl)))))) (dss_one (ds_ret (de_and (de_isa cr_isaStr (by rfl) T.z_isinstance (de_var (pv 0)) (pe_bltn (by rfl) T.z_str (by decide +kernel) rfl)) (de_and (de_isa cr_isaStr (by rfl) T.z_isinstance (de_var (pv 1)) (pe_bltn (by rfl) T.z_str (by decide +kernel) rfl)) (de_one (de_cmp (op_eqP hr) od_eq (de_var (pv 0)) (de_var (pv 1)) (by rfl)))))))
      (dss_nil))
      (dss_one (ds_ret (de_and (de_cmp (OpR.or op_isN op_is_bl) od_is (de_var (pv 0)) (de_non) (by rfl)) (de_one (de_cmp (OpR.or op_isN op_is_bl) od_is (de_var (pv 1)) (de_non) (by rfl)))))))))
theorem ok__law_same (T : Facts K mg) {k : Nat} : FnOk P w K mg base CX0 (k + 7) T.a__law_same T.d__law_same ["a", "b"] (spD K XR0 2 m__law_same) := ok__law_same_ T 6
theorem sc_law : FnScope ["script", "bag", "turn", "many", "size", "results", "one", "other", "due", "both", "first", "changed", "told", "turned", "second"] ["script"] (defScope s_law) := ⟨rfl, rfl, rfl, by decide +kernel, rfl, by decide +kernel, by decide +kernel⟩
theorem ok_law (T : Facts K mg) {k : Nat} (h1 : lawTurn 15 1 b_law_turn) (h2 : lawRest 15 b_law_rest) : FnOk P w K mg base CX0 (k + 8) T.a_law T.d_law ["script"] (spLaw K) := by
  have S := sc_law
  refine T.F_law.ok (k := k + 7) S (fun vs H Q E h => by obtain ⟨a, ns, e, _⟩ := h; rw [e]; rfl) fun cdv A outer s H vs Q E hr h => ⟨_, pss_cons (ps_for PassesOwn.never rfl (pi_list (pe_call (ok__law_bags T (k := k + 5)) hr (by rfl) T.g__law_bags T.F__law_bags.kp T.b__law_bags .nil passA (pa_cons (pv 0) (pa_cons pe_int pa_nil)))) (pg_name (i := 1) S.nd rfl (by first | exact .inl rfl | exact .inr rfl)) (DSs.run (XR := XR0) (s := b_law_turn) ?_)) (DSs.run (XR := XR0) (s := b_law_rest) ?_), law_run (E := E) (n := 6) (b := 1) (by rfl) (by decide) h1 h2 h⟩
  · exact dss_one (ds_for PassesOwn.never rfl (di_range1 (by rfl) T.z_range (de_int)) (dg_name (pg_name (i := 2) S.nd rfl (by first | exact .inl rfl | exact .inr rfl)))
      (dss_cons (ds_asg (de_bin op_addA od_add (de_int) (de_call (ok__law_take T (k := k + 6)) hr (by rfl) T.g__law_take T.F__law_take.kp T.b__law_take passA (da_bag (pv 1) (da_cons (de_int) (da_nil))))) (dg_name (pg_name (i := 3) S.nd rfl (by first | exact .inl rfl | exact .inr rfl))))
      (dss_cons (ds_asg (de_bin op_addA od_add (de_bin op_sub od_sub (de_var (pv 3)) (de_int)) (de_call (ok__law_take T (k := k + 6)) hr (by rfl) T.g__law_take T.F__law_take.kp T.b__law_take passA (da_bag (pv 1) (da_cons (de_bin op_sub od_sub (de_int) (de_var (pv 3))) (da_nil))))) (dg_name (pg_name (i := 4) S.nd rfl (by first | exact .inl rfl | exact .inr rfl))))
      (dss_cons (ds_asg (de_call (ok__law_sums T (k := k + 6)) hr (by rfl) T.g__law_sums T.F__law_sums.kp T.b__law_sums passA (da_cons (de_call (ok__law_list T (k := k + 4)) hr (by rfl) T.g__law_list T.F__law_list.kp T.b__law_list passA (da_bag (pv 1) (da_cons (de_var (pv 3)) (da_cons (de_var (pv 4)) (da_nil))))) (da_nil))) (dg_name (pg_name (i := 5) S.nd rfl (by first | exact .inl rfl | exact .inr rfl))))
      (dss_cons (ds_asg (de_call (ok__law_take T (k := k + 6)) hr (by rfl) T.g__law_take T.F__law_take.kp T.b__law_take passA (da_bag (pv 1) (da_cons (de_var (pv 3)) (da_nil)))) (dg_name (pg_name (i := 6) S.nd rfl (by first | exact .inl rfl | exact .inr rfl))))
      (dss_cons (ds_asg (de_bin op_mod od_mod (de_bin op_addA od_add (de_bin op_addA od_add (de_var (pv 6)) (de_int)) (de_call (ok__law_take T (k := k + 6)) hr (by rfl) T.g__law_take T.F__law_take.kp T.b__law_take passA (da_bag (pv 1) (da_cons (de_bin op_sub od_sub (de_var (pv 3)) (de_int)) (da_nil))))) (de_var (pv 3))) (dg_name (pg_name (i := 7) S.nd rfl (by first | exact .inl rfl | exact .inr rfl))))
      (dss_cons (ds_parF (df_lst (dd_nil)) (de_bin op_addA od_add (de_ix (de_var (pv 5)) (de_var (pv 6)) (fun _ _ => rfl)) (de_ix (de_var (pv 5)) (de_var (pv 7)) (fun _ _ => rfl))) (fun _ h => ps_par rfl S.nd rfl rfl (by decide) rfl rfl h (by rfl)))
      (dss_cons (ds_for PassesOwn.never rfl (di_range1 (by rfl) T.z_range (de_bin op_addA od_add (de_var (pv 9)) (de_int))) (dg_name (pg_name (i := 10) S.nd rfl (by first | exact .inl rfl | exact .inr rfl)))
      (dss_cons (ds_asgF (df_callTy call_list_of cf_list (by rfl) T.z_list (by decide +kernel) (dd_cons (de_var (pv 5)) (dd_nil))) (pg_name (i := 11) S.nd rfl (by first | exact .inl rfl | exact .inr rfl)))
      (dss_cons (ds_asgU (de_tup (dd_cons (de_var (pv 10)) (dd_cons (de_bin op_sub od_sub (de_var (pv 9)) (de_var (pv 10))) (dd_nil)))) (du_tup rfl (dus_cons (du_own (pg_sub (pv 11) (DE.run (de_var (pv 6))) set_list)) (dus_cons (du_own (pg_sub (pv 11) (DE.run (de_var (pv 7))) set_list)) (dus_nil)))))
      (dss_one (ds_if (dt_bor 11 (dt_val (de_call (ok__law_fits T (k := k + 6)) hr (by rfl) T.g__law_fits T.F__law_fits.kp T.b__law_fits passA (da_cons (de_var (pv 11)) (da_cons (de_var (pv 4)) (da_nil)))))) (dss_one (ds_ownM (i := 8) om_append (pe_bm PySem.F.plainAttrs_list PySem.F.slot_list_append PySem.F.type_list_append mt_append (pv 8) (DD.run (dd_cons (de_tup (dd_cons (de_var (pv 10)) (dd_cons (de_bin op_sub od_sub (de_var (pv 9)) (de_var (pv 10))) (dd_nil)))) (dd_nil))))))
      (dss_nil))))))
      (dss_cons (ds_asg (de_call (ok_unread T (k := k + 2)) hr (by rfl) T.g_unread T.F_unread.kp T.b_unread passA (da_cons (de_var (pv 5)) (da_cons (de_var (pv 4)) (da_cons (de_var (pv 6)) (da_cons (de_var (pv 7)) (da_nil)))))) (dg_name (pg_name (i := 12) S.nd rfl (by first | exact .inl rfl | exact .inr rfl))))
      (dss_cons (ds_if (dt_bor 8 (dt_bool (dw_or (dt_not (dt_val (de_call (ok__law_same T (k := k)) hr (by rfl) T.g__law_same T.F__law_same.kp T.b__law_same passA (da_cons (de_var (pv 12)) (da_cons (de_var (pv 8)) (da_nil)))))) (dw_or1 (dt_cmp (op_ninP hr) od_in (de_tup (dd_cons (de_ix (de_var (pv 5)) (de_var (pv 6)) (fun _ _ => rfl)) (dd_cons (de_ix (de_var (pv 5)) (de_var (pv 7)) (fun _ _ => rfl)) (dd_nil)))) (de_var (pv 12)) (by rfl)))))) (dss_one (ds_ret (de_bl)))
      (dss_nil))
      (dss_cons (ds_asgF (df_callTy call_list_of cf_list (by rfl) T.z_list (by decide +kernel) (dd_cons (de_var (pv 5)) (dd_nil))) (pg_name (i := 11) S.nd rfl (by first | exact .inl rfl | exact .inr rfl)))
      (dss_cons (ds_asgU (de_tup (dd_cons (de_call (ok__law_take T (k := k + 6)) hr (by rfl) T.g__law_take T.F__law_take.kp T.b__law_take passA (da_bag (pv 1) (da_cons (de_int) (da_nil)))) (dd_cons (de_int) (dd_nil)))) (du_tup rfl (dus_cons (du_own (pg_sub (pv 11) (DE.run (de_var (pv 6))) set_list)) (dus_cons (du_own (pg_sub (pv 11) (DE.run (de_var (pv 7))) set_list)) (dus_nil)))))
      (dss_cons (ds_if (dt_bor 8 (dt_bor 11 (dt_cmp (op_neP hr) od_ne (de_call (ok_unread T (k := k + 2)) hr (by rfl) T.g_unread T.F_unread.kp T.b_unread passA (da_cons (de_callTy call_tuple_of cd_tuple (by rfl) T.z_tuple (by decide +kernel) (dd_cons (de_var (pv 11)) (dd_nil))) (da_cons (de_var (pv 4)) (da_cons (de_var (pv 6)) (da_cons (de_var (pv 7)) (da_nil)))))) (de_var (pv 8)) (by rfl)))) (dss_one (ds_ret (de_bl)))
      (dss_nil))
      (dss_cons (ds_asg (de_call (ok_unread T (k := k + 2)) hr (by rfl) T.g_unread T.F_unread.kp T.b_unread passA (da_cons (de_var (pv 5)) (da_cons (de_var (pv 4)) (da_cons (de_var (pv 7)) (da_cons (de_var (pv 6)) (da_nil)))))) (dg_name (pg_name (i := 13) S.nd rfl (by first | exact .inl rfl | exact .inr rfl))))
      (dss_one (ds_if (dt_bor 8 (dt_cmp (op_neP hr) od_ne (de_f (df_callB (cr_sortP hr) cf_sort (by rfl) T.z_sorted (by decide +kernel) (dd_cons (de_f (df_comp (own := [("first", 10), ("second", 14)]) rfl S.nd (blkOk_by (N := ["script", "bag", "turn", "many", "size", "results", "one", "other", "due", "both", "first", "changed", "told", "turned", "second"]) (sc := defScope s_law) (by decide +kernel)) (by decide) (di_seq (de_var (pv 13))) (fun _ _ _ _ _ => dg_tup rfl (dgs_cons (dg_name (pg_name (i := 10) S.nd rfl (by first | exact .inl rfl | exact .inr rfl))) (dgs_cons (dg_name (pg_name (i := 14) S.nd rfl (by first | exact .inl rfl | exact .inr rfl))) (dgs_nil)))) (fun _ _ _ _ _ => dts_nil) (fun _ _ _ _ _ => de_tup (dd_cons (de_var (pv 14)) (dd_cons (de_var (pv 10)) (dd_nil)))))) (dd_nil)))) (de_var (pv 8)) (by rfl))) (dss_one (ds_ret (de_bl)))
      (dss_nil)))))))))))))))))
  · exact dss_one (ds_ret (de_cmp (op_eqP hr) od_eq (de_call (ok_unread T (k := k + 2)) hr (by rfl) T.g_unread T.F_unread.kp T.b_unread passA (da_cons (de_tup (dd_cons (de_int) (dd_cons (de_int) (dd_cons (de_int) (dd_nil))))) (da_cons (de_int) (da_cons (de_int) (da_cons (de_int) (da_nil)))))) (de_f (df_lst (dd_cons (de_tup (dd_cons (de_int) (dd_cons (de_int) (dd_nil)))) (dd_cons (de_tup (dd_cons (de_int) (dd_cons (de_int) (dd_nil)))) (dd_cons (de_tup (dd_cons (de_int) (dd_cons (de_int) (dd_nil)))) (dd_cons (de_tup (dd_cons (de_int) (dd_cons (de_int) (dd_nil)))) (dd_cons (de_tup (dd_cons (de_int) (dd_cons (de_int) (dd_nil)))) (dd_nil)))))))) (by rfl)))
end
theorem all_mk {l : PySem.W.OpenLaw} {w : World} {K : PySem.W.Frag} {h : Heap} {mg : Str → Option Value} {fa : Addr} (h1 : lawTurn 15 1 b_law_turn) (h2 : lawRest 15 b_law_rest) (X : K.In h) (G : h.Ns mainGlobals mg) (hfa : mg "law" = some (.ref fa))
    {f0 : Addr} {od0 an0 : Option Addr} {sl0 : Array (Option Value)} {oc0 kV0 dc0 pm0 cd0 ct0 : Value}
    (a0 : PySem.W.nsIn K mainGlobals "_law_well" = some (some (.ref f0))) (l0 : K.lookup f0 = some ⟨oc0, od0, .func (PySem.W.fnOf "_law_well" "_law_well" (defArgs s__law_well) (defBody s__law_well) (defScope s__law_well) .none kV0 dc0 pm0 an0 cd0 ct0), sl0⟩) (c0 : PySem.W.codeIn K cd0 "_law_well" = true) (k0 : PySem.W.keepIn K (.ref f0) = true)
    {f1 : Addr} {od1 an1 : Option Addr} {sl1 : Array (Option Value)} {oc1 kV1 dc1 pm1 cd1 ct1 : Value}
    (a1 : PySem.W.nsIn K mainGlobals "_law_bags" = some (some (.ref f1))) (l1 : K.lookup f1 = some ⟨oc1, od1, .func (PySem.W.fnOf "_law_bags" "_law_bags" (defArgs s__law_bags) (defBody s__law_bags) (defScope s__law_bags) .none kV1 dc1 pm1 an1 cd1 ct1), sl1⟩) (c1 : PySem.W.codeIn K cd1 "_law_bags" = true) (k1 : PySem.W.keepIn K (.ref f1) = true)
    {f2 : Addr} {od2 an2 : Option Addr} {sl2 : Array (Option Value)} {oc2 kV2 dc2 pm2 cd2 ct2 : Value}
    (a2 : PySem.W.nsIn K mainGlobals "is_integer" = some (some (.ref f2))) (l2 : K.lookup f2 = some ⟨oc2, od2, .func (PySem.W.fnOf "is_integer" "is_integer" (defArgs s_is_integer) (defBody s_is_integer) (defScope s_is_integer) .none kV2 dc2 pm2 an2 cd2 ct2), sl2⟩) (c2 : PySem.W.codeIn K cd2 "is_integer" = true) (k2 : PySem.W.keepIn K (.ref f2) = true)
    {f3 : Addr} {od3 an3 : Option Addr} {sl3 : Array (Option Value)} {oc3 kV3 dc3 pm3 cd3 ct3 : Value}
    (a3 : PySem.W.nsIn K mainGlobals "in_range" = some (some (.ref f3))) (l3 : K.lookup f3 = some ⟨oc3, od3, .func (PySem.W.fnOf "in_range" "in_range" (defArgs s_in_range) (defBody s_in_range) (defScope s_in_range) .none kV3 dc3 pm3 an3 cd3 ct3), sl3⟩) (c3 : PySem.W.codeIn K cd3 "in_range" = true) (k3 : PySem.W.keepIn K (.ref f3) = true)
    {f4 : Addr} {od4 an4 : Option Addr} {sl4 : Array (Option Value)} {oc4 kV4 dc4 pm4 cd4 ct4 : Value}
    (a4 : PySem.W.nsIn K mainGlobals "is_totals" = some (some (.ref f4))) (l4 : K.lookup f4 = some ⟨oc4, od4, .func (PySem.W.fnOf "is_totals" "is_totals" (defArgs s_is_totals) (defBody s_is_totals) (defScope s_is_totals) .none kV4 dc4 pm4 an4 cd4 ct4), sl4⟩) (c4 : PySem.W.codeIn K cd4 "is_totals" = true) (k4 : PySem.W.keepIn K (.ref f4) = true)
    {f5 : Addr} {od5 an5 : Option Addr} {sl5 : Array (Option Value)} {oc5 kV5 dc5 pm5 cd5 ct5 : Value}
    (a5 : PySem.W.nsIn K mainGlobals "check_totals" = some (some (.ref f5))) (l5 : K.lookup f5 = some ⟨oc5, od5, .func (PySem.W.fnOf "check_totals" "check_totals" (defArgs s_check_totals) (defBody s_check_totals) (defScope s_check_totals) .none kV5 dc5 pm5 an5 cd5 ct5), sl5⟩) (c5 : PySem.W.codeIn K cd5 "check_totals" = true) (k5 : PySem.W.keepIn K (.ref f5) = true)
    {f6 : Addr} {od6 an6 : Option Addr} {sl6 : Array (Option Value)} {oc6 kV6 dc6 pm6 cd6 ct6 : Value}
    (a6 : PySem.W.nsIn K mainGlobals "check_number" = some (some (.ref f6))) (l6 : K.lookup f6 = some ⟨oc6, od6, .func (PySem.W.fnOf "check_number" "check_number" (defArgs s_check_number) (defBody s_check_number) (defScope s_check_number) .none kV6 dc6 pm6 an6 cd6 ct6), sl6⟩) (c6 : PySem.W.codeIn K cd6 "check_number" = true) (k6 : PySem.W.keepIn K (.ref f6) = true)
    {f7 : Addr} {od7 an7 : Option Addr} {sl7 : Array (Option Value)} {oc7 kV7 dc7 pm7 cd7 ct7 : Value}
    (a7 : PySem.W.nsIn K mainGlobals "check_boat" = some (some (.ref f7))) (l7 : K.lookup f7 = some ⟨oc7, od7, .func (PySem.W.fnOf "check_boat" "check_boat" (defArgs s_check_boat) (defBody s_check_boat) (defScope s_check_boat) .none kV7 dc7 pm7 an7 cd7 ct7), sl7⟩) (c7 : PySem.W.codeIn K cd7 "check_boat" = true) (k7 : PySem.W.keepIn K (.ref f7) = true)
    {f8 : Addr} {od8 an8 : Option Addr} {sl8 : Array (Option Value)} {oc8 kV8 dc8 pm8 cd8 ct8 : Value}
    (a8 : PySem.W.nsIn K mainGlobals "least" = some (some (.ref f8))) (l8 : K.lookup f8 = some ⟨oc8, od8, .func (PySem.W.fnOf "least" "least" (defArgs s_least) (defBody s_least) (defScope s_least) .none kV8 dc8 pm8 an8 cd8 ct8), sl8⟩) (c8 : PySem.W.codeIn K cd8 "least" = true) (k8 : PySem.W.keepIn K (.ref f8) = true)
    {f9 : Addr} {od9 an9 : Option Addr} {sl9 : Array (Option Value)} {oc9 kV9 dc9 pm9 cd9 ct9 : Value}
    (a9 : PySem.W.nsIn K mainGlobals "short_set" = some (some (.ref f9))) (l9 : K.lookup f9 = some ⟨oc9, od9, .func (PySem.W.fnOf "short_set" "short_set" (defArgs s_short_set) (defBody s_short_set) (defScope s_short_set) .none kV9 dc9 pm9 an9 cd9 ct9), sl9⟩) (c9 : PySem.W.codeIn K cd9 "short_set" = true) (k9 : PySem.W.keepIn K (.ref f9) = true)
    {f10 : Addr} {od10 an10 : Option Addr} {sl10 : Array (Option Value)} {oc10 kV10 dc10 pm10 cd10 ct10 : Value}
    (a10 : PySem.W.nsIn K mainGlobals "balanced" = some (some (.ref f10))) (l10 : K.lookup f10 = some ⟨oc10, od10, .func (PySem.W.fnOf "balanced" "balanced" (defArgs s_balanced) (defBody s_balanced) (defScope s_balanced) .none kV10 dc10 pm10 an10 cd10 ct10), sl10⟩) (c10 : PySem.W.codeIn K cd10 "balanced" = true) (k10 : PySem.W.keepIn K (.ref f10) = true)
    {f11 : Addr} {od11 an11 : Option Addr} {sl11 : Array (Option Value)} {oc11 kV11 dc11 pm11 cd11 ct11 : Value}
    (a11 : PySem.W.nsIn K mainGlobals "occurs" = some (some (.ref f11))) (l11 : K.lookup f11 = some ⟨oc11, od11, .func (PySem.W.fnOf "occurs" "occurs" (defArgs s_occurs) (defBody s_occurs) (defScope s_occurs) .none kV11 dc11 pm11 an11 cd11 ct11), sl11⟩) (c11 : PySem.W.codeIn K cd11 "occurs" = true) (k11 : PySem.W.keepIn K (.ref f11) = true)
    {f12 : Addr} {od12 an12 : Option Addr} {sl12 : Array (Option Value)} {oc12 kV12 dc12 pm12 cd12 ct12 : Value}
    (a12 : PySem.W.nsIn K mainGlobals "unread" = some (some (.ref f12))) (l12 : K.lookup f12 = some ⟨oc12, od12, .func (PySem.W.fnOf "unread" "unread" (defArgs s_unread) (defBody s_unread) (defScope s_unread) .none kV12 dc12 pm12 an12 cd12 ct12), sl12⟩) (c12 : PySem.W.codeIn K cd12 "unread" = true) (k12 : PySem.W.keepIn K (.ref f12) = true)
    {f13 : Addr} {od13 an13 : Option Addr} {sl13 : Array (Option Value)} {oc13 kV13 dc13 pm13 cd13 ct13 : Value}
    (a13 : PySem.W.nsIn K mainGlobals "_law_sums" = some (some (.ref f13))) (l13 : K.lookup f13 = some ⟨oc13, od13, .func (PySem.W.fnOf "_law_sums" "_law_sums" (defArgs s__law_sums) (defBody s__law_sums) (defScope s__law_sums) .none kV13 dc13 pm13 an13 cd13 ct13), sl13⟩) (c13 : PySem.W.codeIn K cd13 "_law_sums" = true) (k13 : PySem.W.keepIn K (.ref f13) = true)
    {f14 : Addr} {od14 an14 : Option Addr} {sl14 : Array (Option Value)} {oc14 kV14 dc14 pm14 cd14 ct14 : Value}
    (a14 : PySem.W.nsIn K mainGlobals "_law_take" = some (some (.ref f14))) (l14 : K.lookup f14 = some ⟨oc14, od14, .func (PySem.W.fnOf "_law_take" "_law_take" (defArgs s__law_take) (defBody s__law_take) (defScope s__law_take) .none kV14 dc14 pm14 an14 cd14 ct14), sl14⟩) (c14 : PySem.W.codeIn K cd14 "_law_take" = true) (k14 : PySem.W.keepIn K (.ref f14) = true)
    {f15 : Addr} {od15 an15 : Option Addr} {sl15 : Array (Option Value)} {oc15 kV15 dc15 pm15 cd15 ct15 : Value}
    (a15 : PySem.W.nsIn K mainGlobals "_law_race" = some (some (.ref f15))) (l15 : K.lookup f15 = some ⟨oc15, od15, .func (PySem.W.fnOf "_law_race" "_law_race" (defArgs s__law_race) (defBody s__law_race) (defScope s__law_race) .none kV15 dc15 pm15 an15 cd15 ct15), sl15⟩) (c15 : PySem.W.codeIn K cd15 "_law_race" = true) (k15 : PySem.W.keepIn K (.ref f15) = true)
    {f16 : Addr} {od16 an16 : Option Addr} {sl16 : Array (Option Value)} {oc16 kV16 dc16 pm16 cd16 ct16 : Value}
    (a16 : PySem.W.nsIn K mainGlobals "_law_list" = some (some (.ref f16))) (l16 : K.lookup f16 = some ⟨oc16, od16, .func (PySem.W.fnOf "_law_list" "_law_list" (defArgs s__law_list) (defBody s__law_list) (defScope s__law_list) .none kV16 dc16 pm16 an16 cd16 ct16), sl16⟩) (c16 : PySem.W.codeIn K cd16 "_law_list" = true) (k16 : PySem.W.keepIn K (.ref f16) = true)
    {f17 : Addr} {od17 an17 : Option Addr} {sl17 : Array (Option Value)} {oc17 kV17 dc17 pm17 cd17 ct17 : Value}
    (a17 : PySem.W.nsIn K mainGlobals "_law_fits" = some (some (.ref f17))) (l17 : K.lookup f17 = some ⟨oc17, od17, .func (PySem.W.fnOf "_law_fits" "_law_fits" (defArgs s__law_fits) (defBody s__law_fits) (defScope s__law_fits) .none kV17 dc17 pm17 an17 cd17 ct17), sl17⟩) (c17 : PySem.W.codeIn K cd17 "_law_fits" = true) (k17 : PySem.W.keepIn K (.ref f17) = true)
    {f18 : Addr} {od18 an18 : Option Addr} {sl18 : Array (Option Value)} {oc18 kV18 dc18 pm18 cd18 ct18 : Value}
    (a18 : PySem.W.nsIn K mainGlobals "_law_same" = some (some (.ref f18))) (l18 : K.lookup f18 = some ⟨oc18, od18, .func (PySem.W.fnOf "_law_same" "_law_same" (defArgs s__law_same) (defBody s__law_same) (defScope s__law_same) .none kV18 dc18 pm18 an18 cd18 ct18), sl18⟩) (c18 : PySem.W.codeIn K cd18 "_law_same" = true) (k18 : PySem.W.keepIn K (.ref f18) = true)
    {f19 : Addr} {od19 an19 : Option Addr} {sl19 : Array (Option Value)} {oc19 kV19 dc19 pm19 cd19 ct19 : Value}
    (a19 : PySem.W.nsIn K mainGlobals "law" = some (some (.ref f19))) (l19 : K.lookup f19 = some ⟨oc19, od19, .func (PySem.W.fnOf "law" "law" (defArgs s_law) (defBody s_law) (defScope s_law) .none kV19 dc19 pm19 an19 cd19 ct19), sl19⟩) (c19 : PySem.W.codeIn K cd19 "law" = true) (k19 : PySem.W.keepIn K (.ref f19) = true)
    (z0 : PySem.W.nsIn K mainGlobals "all" = some none)
    (z1 : PySem.W.nsIn K mainGlobals "bool" = some none)
    (z2 : PySem.W.nsIn K mainGlobals "enumerate" = some none)
    (z3 : PySem.W.nsIn K mainGlobals "int" = some none)
    (z4 : PySem.W.nsIn K mainGlobals "isinstance" = some none)
    (z5 : PySem.W.nsIn K mainGlobals "len" = some none)
    (z6 : PySem.W.nsIn K mainGlobals "list" = some none)
    (z7 : PySem.W.nsIn K mainGlobals "max" = some none)
    (z8 : PySem.W.nsIn K mainGlobals "range" = some none)
    (z9 : PySem.W.nsIn K mainGlobals "sorted" = some none)
    (z10 : PySem.W.nsIn K mainGlobals "str" = some none)
    (z11 : PySem.W.nsIn K mainGlobals "sum" = some none)
    (z12 : PySem.W.nsIn K mainGlobals "tuple" = some none)
    (z13 : PySem.W.nsIn K mainGlobals "zip" = some none)
    {t0 : _} (v0 : PySem.W.nsIn K mainGlobals "MOST_BOATS" = some (some (.int 6 t0)))
    {t1 : _} (v1 : PySem.W.nsIn K mainGlobals "MOST_RACES" = some (some (.int 8 t1)))
    {t2 : _} (v2 : PySem.W.nsIn K mainGlobals "MOST_TOTAL" = some (some (.int 100 t2)))
    : ∃ fd : FuncData, (∀ (s : Shared) (v : Value), BindsTo s fd ⟨[v], []⟩ [("script", v)]) ∧ ∀ base : Heap, K.In base → base.Ns mainGlobals mg → FnOk l.prog w K mg base CX0 8 fa fd ["script"] (spLaw K) := by
  have e := hfa.symm.trans (PySem.W.mg_of X G a19)
  cases e
  refine ⟨_, fun s v => ?_, fun base _ _ => ok_law (k := 0) { a__law_well := f0, d__law_well := _, F__law_well := fun_mk (st := s__law_well) l0 c0 k0, g__law_well := PySem.W.mg_of X G a0, b__law_well := ((fun_mk (st := s__law_well) l0 c0 k0).binds (ps := ["cell", "turn"]) fun _ _ _ _ _ _ us hl => match us, hl with | [_, _], _ => rfl), a__law_bags := f1, d__law_bags := _, F__law_bags := fun_mk (st := s__law_bags) l1 c1 k1, g__law_bags := PySem.W.mg_of X G a1, b__law_bags := ((fun_mk (st := s__law_bags) l1 c1 k1).binds (ps := ["script", "most"]) fun _ _ _ _ _ _ us hl => match us, hl with | [_, _], _ => rfl), a_is_integer := f2, d_is_integer := _, F_is_integer := fun_mk (st := s_is_integer) l2 c2 k2, g_is_integer := PySem.W.mg_of X G a2, b_is_integer := ((fun_mk (st := s_is_integer) l2 c2 k2).binds (ps := ["value"]) fun _ _ _ _ _ _ us hl => match us, hl with | [_], _ => rfl), a_in_range := f3, d_in_range := _, F_in_range := fun_mk (st := s_in_range) l3 c3 k3, g_in_range := PySem.W.mg_of X G a3, b_in_range := ((fun_mk (st := s_in_range) l3 c3 k3).binds (ps := ["value", "low", "high"]) fun _ _ _ _ _ _ us hl => match us, hl with | [_, _, _], _ => rfl), a_is_totals := f4, d_is_totals := _, F_is_totals := fun_mk (st := s_is_totals) l4 c4 k4, g_is_totals := PySem.W.mg_of X G a4, b_is_totals := ((fun_mk (st := s_is_totals) l4 c4 k4).binds (ps := ["value"]) fun _ _ _ _ _ _ us hl => match us, hl with | [_], _ => rfl), a_check_totals := f5, d_check_totals := _, F_check_totals := fun_mk (st := s_check_totals) l5 c5 k5, g_check_totals := PySem.W.mg_of X G a5, b_check_totals := ((fun_mk (st := s_check_totals) l5 c5 k5).binds (ps := ["value"]) fun _ _ _ _ _ _ us hl => match us, hl with | [_], _ => rfl), a_check_number := f6, d_check_number := _, F_check_number := fun_mk (st := s_check_number) l6 c6 k6, g_check_number := PySem.W.mg_of X G a6, b_check_number := ((fun_mk (st := s_check_number) l6 c6 k6).binds (ps := ["value", "low", "high"]) fun _ _ _ _ _ _ us hl => match us, hl with | [_, _, _], _ => rfl), a_check_boat := f7, d_check_boat := _, F_check_boat := fun_mk (st := s_check_boat) l7 c7 k7, g_check_boat := PySem.W.mg_of X G a7, b_check_boat := ((fun_mk (st := s_check_boat) l7 c7 k7).binds (ps := ["totals", "boat"]) fun _ _ _ _ _ _ us hl => match us, hl with | [_, _], _ => rfl), a_least := f8, d_least := _, F_least := fun_mk (st := s_least) l8 c8 k8, g_least := PySem.W.mg_of X G a8, b_least := ((fun_mk (st := s_least) l8 c8 k8).binds (ps := ["count", "races"]) fun _ _ _ _ _ _ us hl => match us, hl with | [_, _], _ => rfl), a_short_set := f9, d_short_set := _, F_short_set := fun_mk (st := s_short_set) l9 c9 k9, g_short_set := PySem.W.mg_of X G a9, b_short_set := ((fun_mk (st := s_short_set) l9 c9 k9).binds (ps := ["results", "races"]) fun _ _ _ _ _ _ us hl => match us, hl with | [_, _], _ => rfl), a_balanced := f10, d_balanced := _, F_balanced := fun_mk (st := s_balanced) l10 c10 k10, g_balanced := PySem.W.mg_of X G a10, b_balanced := ((fun_mk (st := s_balanced) l10 c10 k10).binds (ps := ["results", "races"]) fun _ _ _ _ _ _ us hl => match us, hl with | [_, _], _ => rfl), a_occurs := f11, d_occurs := _, F_occurs := fun_mk (st := s_occurs) l11 c11 k11, g_occurs := PySem.W.mg_of X G a11, b_occurs := ((fun_mk (st := s_occurs) l11 c11 k11).binds (ps := ["results", "races"]) fun _ _ _ _ _ _ us hl => match us, hl with | [_, _], _ => rfl), a_unread := f12, d_unread := _, F_unread := fun_mk (st := s_unread) l12 c12 k12, g_unread := PySem.W.mg_of X G a12, b_unread := ((fun_mk (st := s_unread) l12 c12 k12).binds (ps := ["results", "races", "one", "other"]) fun _ _ _ _ _ _ us hl => match us, hl with | [_, _, _, _], _ => rfl), a__law_sums := f13, d__law_sums := _, F__law_sums := fun_mk (st := s__law_sums) l13 c13 k13, g__law_sums := PySem.W.mg_of X G a13, b__law_sums := ((fun_mk (st := s__law_sums) l13 c13 k13).binds (ps := ["races_so"]) fun _ _ _ _ _ _ us hl => match us, hl with | [_], _ => rfl), a__law_take := f14, d__law_take := _, F__law_take := fun_mk (st := s__law_take) l14 c14 k14, g__law_take := PySem.W.mg_of X G a14, b__law_take := ((fun_mk (st := s__law_take) l14 c14 k14).binds (ps := ["bag", "many"]) fun _ _ _ _ _ _ us hl => match us, hl with | [_, _], _ => rfl), a__law_race := f15, d__law_race := _, F__law_race := fun_mk (st := s__law_race) l15 c15 k15, g__law_race := PySem.W.mg_of X G a15, b__law_race := ((fun_mk (st := s__law_race) l15 c15 k15).binds (ps := ["bag", "many"]) fun _ _ _ _ _ _ us hl => match us, hl with | [_, _], _ => rfl), a__law_list := f16, d__law_list := _, F__law_list := fun_mk (st := s__law_list) l16 c16 k16, g__law_list := PySem.W.mg_of X G a16, b__law_list := ((fun_mk (st := s__law_list) l16 c16 k16).binds (ps := ["bag", "many", "size"]) fun _ _ _ _ _ _ us hl => match us, hl with | [_, _, _], _ => rfl), a__law_fits := f17, d__law_fits := _, F__law_fits := fun_mk (st := s__law_fits) l17 c17 k17, g__law_fits := PySem.W.mg_of X G a17, b__law_fits := ((fun_mk (st := s__law_fits) l17 c17 k17).binds (ps := ["results", "size"]) fun _ _ _ _ _ _ us hl => match us, hl with | [_, _], _ => rfl), a__law_same := f18, d__law_same := _, F__law_same := fun_mk (st := s__law_same) l18 c18 k18, g__law_same := PySem.W.mg_of X G a18, b__law_same := ((fun_mk (st := s__law_same) l18 c18 k18).binds (ps := ["a", "b"]) fun _ _ _ _ _ _ us hl => match us, hl with | [_, _], _ => rfl), a_law := fa, d_law := _, F_law := fun_mk (st := s_law) l19 c19 k19, g_law := PySem.W.mg_of X G a19, b_law := ((fun_mk (st := s_law) l19 c19 k19).binds (ps := ["script"]) fun _ _ _ _ _ _ us hl => match us, hl with | [_], _ => rfl), z_all := PySem.W.mg_none_of X G z0, z_bool := PySem.W.mg_none_of X G z1, z_enumerate := PySem.W.mg_none_of X G z2, z_int := PySem.W.mg_none_of X G z3, z_isinstance := PySem.W.mg_none_of X G z4, z_len := PySem.W.mg_none_of X G z5, z_list := PySem.W.mg_none_of X G z6, z_max := PySem.W.mg_none_of X G z7, z_range := PySem.W.mg_none_of X G z8, z_sorted := PySem.W.mg_none_of X G z9, z_str := PySem.W.mg_none_of X G z10, z_sum := PySem.W.mg_none_of X G z11, z_tuple := PySem.W.mg_none_of X G z12, z_zip := PySem.W.mg_none_of X G z13, u_MOST_BOATS := _, v_MOST_BOATS := PySem.W.mg_of X G v0, r_MOST_BOATS := ⟨_, rfl⟩, u_MOST_RACES := _, v_MOST_RACES := PySem.W.mg_of X G v1, r_MOST_RACES := ⟨_, rfl⟩, u_MOST_TOTAL := _, v_MOST_TOTAL := PySem.W.mg_of X G v2, r_MOST_TOTAL := ⟨_, rfl⟩ } h1 h2⟩
  exact .of_eq rfl
end PT
open PySem PySem.W PyProof.Rows
set_option maxHeartbeats 0 in
theorem PySem.Challenge.cw_placetotals_k12_whole_unread_totals_holds : PySem.Challenge.rw_placetotals_k12_whole_unread_totals.Holds := by
  w_on; o_law; k_head; (case hw => w_witness2)
  k_fill
  refine L2.walk_of (l := PySem.Challenge.rw_placetotals_k12_whole_unread_totals) (n := 63) (k := 8) (x := "script") (CX := fun _ => L2.CX0) (sp := fun w => DL.spLaw _) rfl (by decide) rfl ⟨rfl, by decide, by decide⟩ (fun w h Y => PySem.W.kIn_of Y) ?F (fun _ _ a ns hl _ hS => ⟨a, ns, rfl, hS, hl, fun _ => rfl⟩) (fun _ _ _ _ _ h => h)
  case F =>
    intro w mg fa h KX G hmg
    refine' PT.all_mk PT.law_turn PT.law_rest KX G hmg ?a0 ?l0 ?c0 ?k0 ?a1 ?l1 ?c1 ?k1 ?a2 ?l2 ?c2 ?k2 ?a3 ?l3 ?c3 ?k3 ?a4 ?l4 ?c4 ?k4 ?a5 ?l5 ?c5 ?k5 ?a6 ?l6 ?c6 ?k6 ?a7 ?l7 ?c7 ?k7 ?a8 ?l8 ?c8 ?k8 ?a9 ?l9 ?c9 ?k9 ?a10 ?l10 ?c10 ?k10 ?a11 ?l11 ?c11 ?k11 ?a12 ?l12 ?c12 ?k12 ?a13 ?l13 ?c13 ?k13 ?a14 ?l14 ?c14 ?k14 ?a15 ?l15 ?c15 ?k15 ?a16 ?l16 ?c16 ?k16 ?a17 ?l17 ?c17 ?k17 ?a18 ?l18 ?c18 ?k18 ?a19 ?l19 ?c19 ?k19 ?z0 ?z1 ?z2 ?z3 ?z4 ?z5 ?z6 ?z7 ?z8 ?z9 ?z10 ?z11 ?z12 ?z13 ?v0 ?v1 ?v2
    (case a0 => k_is); (case l0 => k_is); (case c0 => k_is); (case k0 => k_is); (case a1 => k_is); (case l1 => k_is); (case c1 => k_is); (case k1 => k_is); (case a2 => k_is); (case l2 => k_is); (case c2 => k_is); (case k2 => k_is); (case a3 => k_is); (case l3 => k_is); (case c3 => k_is); (case k3 => k_is); (case a4 => k_is); (case l4 => k_is); (case c4 => k_is); (case k4 => k_is); (case a5 => k_is); (case l5 => k_is); (case c5 => k_is); (case k5 => k_is); (case a6 => k_is); (case l6 => k_is); (case c6 => k_is); (case k6 => k_is); (case a7 => k_is); (case l7 => k_is); (case c7 => k_is); (case k7 => k_is); (case a8 => k_is); (case l8 => k_is); (case c8 => k_is); (case k8 => k_is); (case a9 => k_is); (case l9 => k_is); (case c9 => k_is); (case k9 => k_is); (case a10 => k_is); (case l10 => k_is); (case c10 => k_is); (case k10 => k_is); (case a11 => k_is); (case l11 => k_is); (case c11 => k_is); (case k11 => k_is); (case a12 => k_is); (case l12 => k_is); (case c12 => k_is); (case k12 => k_is); (case a13 => k_is); (case l13 => k_is); (case c13 => k_is); (case k13 => k_is); (case a14 => k_is); (case l14 => k_is); (case c14 => k_is); (case k14 => k_is); (case a15 => k_is); (case l15 => k_is); (case c15 => k_is); (case k15 => k_is); (case a16 => k_is); (case l16 => k_is); (case c16 => k_is); (case k16 => k_is); (case a17 => k_is); (case l17 => k_is); (case c17 => k_is); (case k17 => k_is); (case a18 => k_is); (case l18 => k_is); (case c18 => k_is); (case k18 => k_is); (case a19 => k_is); (case l19 => k_is); (case c19 => k_is); (case k19 => k_is); (case z0 => k_is); (case z1 => k_is); (case z2 => k_is); (case z3 => k_is); (case z4 => k_is); (case z5 => k_is); (case z6 => k_is); (case z7 => k_is); (case z8 => k_is); (case z9 => k_is); (case z10 => k_is); (case z11 => k_is); (case z12 => k_is); (case z13 => k_is); (case v0 => k_is); (case v1 => k_is); (case v2 => k_is)
