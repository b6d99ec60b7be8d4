import PyProof.Rows.All
import Wide.All
import OpenK.AllK
import Wide.FinOn
import HandS.ForMost
import HandS.ForExc
import HandS.Deep
import HandS.IsInst
import HandS.Flow
import HandS.Style
import HandS.TupAny
import HandS.Zip
import HandS.NoneIn
import HandS.Defaults
import HandS.SortInts
import HandS.More
import HandS.Remove
import PyProof.SeqIndex
import KE.KIndexOf
import HandS.SetFor
import HandS.Strs
import HandS.TupMul
import HandS.Conv
import KE.KExcSuper
import HandS.ExcIs
import HandS.ExcField
import HandS.ExcInit
import HandS.ExcValue
import HandS.ExcOwn
import KE.KExcIs
import PyProof.Rows.SortShellAny
import KE.GoesEnum
import KE.DataMinMax
import KE.SortData
import HandS.SetBool
import KE.KDictZip
import KE.KStar
import PySem.Challenge.RW_spindlefit_k21_hulls
set_option Elab.async false
set_option linter.all false
set_option maxRecDepth 100000
set_option maxHeartbeats 4000000
/-! SL1: data over heaps. -/
namespace SF
open PySem PySem.Spec PyProof.Rows L2

abbrev D := PyData
abbrev St := L2.St
abbrev Fg := PySem.W.Frag
def noH : Hp := fun _ => none

/-- a list that is read as data: tracked and not protected -/
def LsA (H : Hp) (O : List Addr) (a : Addr) (xs : List V) : Prop := H a = some (.lst xs) ∧ a ∉ O

/-- a tuple, known to its object, which has no dict -/
def TpA (K : Fg) (H : Hp) (a : Addr) (xs : List V) : Prop := (∃ o, H a = some (.frz o (.tup xs)) ∧ o.dict = none) ∨ (SqT K noH a xs ∧ ∃ o, K.lookup a = some o ∧ o.dict = none)
mutual
inductive Rp (K : Fg) (H : Hp) (O : List Addr) : V → D → Prop
  | non : Rp K H O .non .none
  | bl (b : Bool) : Rp K H O (.bl b) (.bool b)
  | int (i : Int) : Rp K H O (.int i) (.int i)
  | str (x : Str) : Rp K H O (.str x) (.str x)
  | lst {a : Addr} {xs : List V} {ds : List D} : LsA H O a xs → RpL K H O xs ds → Rp K H O (.ref a) (.list ds)
  | tup {a : Addr} {xs : List V} {ds : List D} : TpA K H a xs → RpL K H O xs ds → Rp K H O (.ref a) (.tuple ds)
inductive RpL (K : Fg) (H : Hp) (O : List Addr) : List V → List D → Prop
  | nil : RpL K H O [] []
  | cons {v : V} {vs : List V} {d : D} {ds : List D} : Rp K H O v d → RpL K H O vs ds → RpL K H O (v :: vs) (d :: ds)
end

def LO (O : List Addr) (H : Hp) : Prop := ∀ p ∈ O, ∃ xs, H p = some (.lst xs)
def Keep (O : List Addr) (H H' : Hp) : Prop := ∀ a o, H a = some o → a ∉ O → H' a = some o
def Grow (O O' : List Addr) (H : Hp) : Prop := ∀ p ∈ O', p ∈ O ∨ H p = none

section
variable {K : Fg} {H H' : Hp} {O O' : List Addr}
theorem LsA.seq {a : Addr} {xs : List V} (h : LsA H O a xs) : SqL K H a xs := .inl (.inl h.1)
theorem Rd.keep {a : Addr} {u : HO} (k : Keep O H H') (n : a ∉ O) (h : Rd H a u) : Rd H' a u := by
  rcases h with h | ⟨o, h⟩
  · exact .inl (k _ _ h n)
  · exact .inr ⟨o, k _ _ h n⟩
theorem Rd.some {a : Addr} {u : HO} (h : Rd H a u) : H a ≠ none := by
  rcases h with h | ⟨o, h⟩ <;> rw [h] <;> simp
theorem LsA.mv {a : Addr} {xs : List V} (k : Keep O H H') (g : Grow O O' H) (h : LsA H O a xs) : LsA H' O' a xs := by
  obtain ⟨h, n⟩ := h
  refine ⟨k _ _ h n, fun z => ?_⟩
  rcases g a z with z | z
  · exact n z
  · rw [h] at z; cases z
theorem TpA.seq {a : Addr} {xs : List V} (h : TpA K H a xs) : SqT K H a xs := by
  rcases h with ⟨o, h, _⟩ | ⟨h, _⟩
  · exact .inl (.inr ⟨o, h⟩)
  · rcases h with (h | ⟨_, h⟩) | h
    · cases h
    · cases h
    · exact .inr h
theorem TpA.mv {a : Addr} {xs : List V} (lo : LO O H) (k : Keep O H H') (h : TpA K H a xs) : TpA K H' a xs := by
  rcases h with ⟨o, h, d⟩ | h
  · refine .inl ⟨o, k _ _ h fun z => ?_, d⟩
    obtain ⟨ys, e⟩ := lo a z
    rw [e] at h; cases h
  · exact .inr h
theorem SqT.mv {a : Addr} {xs : List V} (lo : LO O H) (k : Keep O H H') (h : SqT K H a xs) : SqT K H' a xs := by
  rcases h with h | h
  · refine .inl (Rd.keep k (fun z => ?_) h)
    obtain ⟨ys, e⟩ := lo a z
    rcases h with h | ⟨o, h⟩
    · rw [e] at h; cases h
    · rw [e] at h; cases h
  · exact .inr h
mutual
theorem Rp.mv (lo : LO O H) (k : Keep O H H') (g : Grow O O' H) : ∀ {v : V} {d : D}, Rp K H O v d → Rp K H' O' v d
  | _, _, .non => .non
  | _, _, .bl b => .bl b
  | _, _, .int i => .int i
  | _, _, .str x => .str x
  | _, _, .lst h r => .lst (h.mv k g) (RpL.mv lo k g r)
  | _, _, .tup h r => .tup (TpA.mv lo k h) (RpL.mv lo k g r)
theorem RpL.mv (lo : LO O H) (k : Keep O H H') (g : Grow O O' H) : ∀ {vs : List V} {ds : List D}, RpL K H O vs ds → RpL K H' O' vs ds
  | _, _, .nil => .nil
  | _, _, .cons h r => .cons (Rp.mv lo k g h) (RpL.mv lo k g r)
end
mutual
theorem Rp.dp : ∀ {v : V} {d : D}, Rp K H O v d → Dp K H v d
  | _, _, .non => .non
  | _, _, .bl b => .bl b
  | _, _, .int i => .int i
  | _, _, .str x => .str x
  | _, _, .lst h r => .lst (LsA.seq h) (RpL.dp r)
  | _, _, .tup h r => .tup (TpA.seq h) (RpL.dp r)
theorem RpL.dp : ∀ {vs : List V} {ds : List D}, RpL K H O vs ds → DpAll K H vs ds
  | _, _, .nil => .nil
  | _, _, .cons h r => .cons (Rp.dp h) (RpL.dp r)
end
theorem RpL.length : ∀ {vs : List V} {ds : List D}, RpL K H O vs ds → vs.length = ds.length
  | _, _, .nil => rfl
  | _, _, .cons _ r => by rw [List.length_cons, List.length_cons, RpL.length r]
theorem RpL.get : ∀ {vs : List V} {ds : List D} {i : Nat} {d : D}, RpL K H O vs ds → ds[i]? = some d → ∃ v, vs[i]? = some v ∧ Rp K H O v d
  | _, _, _, _, .nil, e => by simp at e
  | _, _, 0, _, .cons h _, e => by simp at e; subst e; exact ⟨_, rfl, h⟩
  | _, _, i + 1, d, .cons _ r, e => by
    obtain ⟨v, h1, h2⟩ := RpL.get (i := i) (d := d) r (by simpa using e)
    exact ⟨v, by simpa using h1, h2⟩
theorem RpL.getV : ∀ {vs : List V} {ds : List D} {i : Nat} {v : V}, RpL K H O vs ds → vs[i]? = some v → ∃ d, ds[i]? = some d ∧ Rp K H O v d
  | _, _, _, _, .nil, e => by simp at e
  | _, _, 0, _, .cons h _, e => by simp at e; subst e; exact ⟨_, rfl, h⟩
  | _, _, i + 1, d, .cons _ r, e => by
    obtain ⟨v, h1, h2⟩ := RpL.getV (i := i) (v := d) r (by simpa using e)
    exact ⟨v, by simpa using h1, h2⟩
theorem RpL.append : ∀ {vs ws : List V} {ds es : List D}, RpL K H O vs ds → RpL K H O ws es → RpL K H O (vs ++ ws) (ds ++ es)
  | _, _, _, _, .nil, s => s
  | _, _, _, _, .cons h r, s => .cons h (RpL.append r s)
theorem RpL.take : ∀ {vs : List V} {ds : List D} (n : Nat), RpL K H O vs ds → RpL K H O (vs.take n) (ds.take n)
  | _, _, 0, _ => by simp only [List.take_zero]; exact .nil
  | _, _, _ + 1, .nil => by simp only [List.take_nil]; exact .nil
  | _, _, n + 1, .cons h r => by simp only [List.take_succ_cons]; exact .cons h (RpL.take n r)
theorem RpL.drop : ∀ {vs : List V} {ds : List D} (n : Nat), RpL K H O vs ds → RpL K H O (vs.drop n) (ds.drop n)
  | _, _, 0, r => by simpa only [List.drop_zero] using r
  | _, _, _ + 1, .nil => by simp only [List.drop_nil]; exact .nil
  | _, _, n + 1, .cons _ r => by simp only [List.drop_succ_cons]; exact RpL.drop n r
theorem RpL.set {v : V} {d : D} (h : Rp K H O v d) : ∀ {vs : List V} {ds : List D} (i : Nat), RpL K H O vs ds → RpL K H O (vs.set i v) (ds.set i d)
  | _, _, _, .nil => .nil
  | _, _, 0, .cons _ r => .cons h r
  | _, _, i + 1, .cons q r => .cons q (RpL.set h i r)
theorem RpL.erase : ∀ {vs : List V} {ds : List D} (i : Nat), RpL K H O vs ds → RpL K H O (vs.eraseIdx i) (ds.eraseIdx i)
  | _, _, _, .nil => .nil
  | _, _, 0, .cons _ r => r
  | _, _, i + 1, .cons q r => .cons q (RpL.erase i r)
theorem RpL.reverse : ∀ {vs : List V} {ds : List D}, RpL K H O vs ds → RpL K H O vs.reverse ds.reverse
  | _, _, .nil => .nil
  | _, _, .cons q r => by simp only [List.reverse_cons]; exact RpL.append (RpL.reverse r) (.cons q .nil)
theorem RpL.one {v : V} {d : D} (h : Rp K H O v d) : RpL K H O [v] [d] := .cons h .nil
end

/-! ### flat data: no lists in it, so no address that may change -/
mutual
def flat : D → Bool
  | .none => true
  | .bool _ => true
  | .int _ => true
  | .str _ => true
  | .tuple xs => flatL xs
  | .list _ => false
  | .dict _ => false
def flatL : List D → Bool
  | [] => true
  | d :: ds => flat d && flatL ds
end
section
variable {K : Fg} {H : Hp} {O O' : List Addr}
mutual
theorem Rp.flat : ∀ {v : V} {d : D}, Rp K H O v d → SF.flat d = true → Rp K H O' v d
  | _, _, .non, _ => .non
  | _, _, .bl b, _ => .bl b
  | _, _, .int i, _ => .int i
  | _, _, .str x, _ => .str x
  | _, _, .lst _ _, h => by simp [SF.flat] at h
  | _, _, .tup h r, f => .tup h (RpL.flat r (by simpa [SF.flat] using f))
theorem RpL.flat : ∀ {vs : List V} {ds : List D}, RpL K H O vs ds → SF.flatL ds = true → RpL K H O' vs ds
  | _, _, .nil, _ => .nil
  | _, _, .cons h r, f => by
    simp only [SF.flatL, Bool.and_eq_true] at f
    exact .cons (Rp.flat h f.1) (RpL.flat r f.2)
end
end

/-! ### values of slots, states -/
inductive DV where
  | d (x : D)
  | own (xs : List D)
  | box
  | slot (i : Nat)
  | exc (nm : Str) (fo : Option (Str × D))
structure DS where
  sl : List (Option DV)
  n : Nat
/-- the source of draws: digits, a mixed number, a count with so many draws left -/
def BoxAt (H : Hp) (p : Addr) (n : Nat) : Prop := ∃ x y c : Int, H p = some (.lst [.int x, .int y, .int c]) ∧ 0 ≤ x ∧ 0 ≤ y ∧ y < 4294967296 ∧ 0 ≤ c ∧ c + n ≤ 1099511627776
/-- what is fixed in a def's body: the heap at the entry, the box's address, the caller's protected addresses -/
structure Fx where
  Hin : Hp
  B : List Addr
  O : List Addr
def isMut : DV → Prop
  | .own _ => True
  | .box => True
  | _ => False
def MutAt (σ : St) (ds : DS) (i : Nat) (p : Addr) : Prop := σ[i]? = some (some (.ref p)) ∧ ∃ dv, ds.sl[i]? = some (some dv) ∧ isMut dv
/-- the class of a name -/
def Cl (K : Fg) (nm : Str) (c : Addr) : Prop := PySem.W.nsIn K mainGlobals nm = some (some (.ref c))
/-- an error that was raised and caught -/
def XO (cv : Value) (od : Option Addr) (a : Addr) : HO := .ext fun h => ∃ (oe : Obj) (vs : Array Value), h.get? a = some oe ∧ Zc cv od oe ∧ oe.data = .fields vs
/-- its field -/
def Fld (K : Fg) (H : Hp) (O : List Addr) (od : Option Addr) : Option (Str × D) → Prop
  | some (fl, x) => ∃ d v, od = some d ∧ H d = some (.xd [(fl, v)]) ∧ Rp K H O v x
  | none => od = none
def ExS (K : Fg) (H : Hp) (O : List Addr) (v : V) (nm : Str) (fo : Option (Str × D)) : Prop := ∃ a c od, v = .ref a ∧ Cl K nm c ∧ H a = some (XO (.ref c) od a) ∧ Fld K H O od fo
section
variable {K : Fg} {H H' : Hp} {O O' : List Addr} {v : V} {nm : Str} {fo : Option (Str × D)}
theorem Fld.mv {od : Option Addr} (lo : LO O H) (k : Keep O H H') (g : Grow O O' H) (h : Fld K H O od fo) : Fld K H' O' od fo := by
  cases fo with
  | none => exact h
  | some q =>
    obtain ⟨fl, x⟩ := q
    obtain ⟨d, u, e, h1, h2⟩ := h
    refine ⟨d, u, e, k _ _ h1 fun z => ?_, Rp.mv lo k g h2⟩
    obtain ⟨ys, e'⟩ := lo d z
    rw [h1] at e'; cases e'
theorem ExS.mv (lo : LO O H) (k : Keep O H H') (g : Grow O O' H) (h : ExS K H O v nm fo) : ExS K H' O' v nm fo := by
  obtain ⟨a, c, od, e, hc, h1, h2⟩ := h
  refine ⟨a, c, od, e, hc, k _ _ h1 fun z => ?_, h2.mv lo k g⟩
  obtain ⟨ys, e'⟩ := lo a z
  rw [h1] at e'; cases e'
end
def RpS (K : Fg) (H : Hp) (O : List Addr) (n : Nat) (v : V) : DV → Prop
  | .d x => Rp K H O v x
  | .own xs => ∃ p vs, v = .ref p ∧ p ∈ O ∧ H p = some (.lst vs) ∧ RpL K H O vs xs
  | .box => ∃ p, v = .ref p ∧ p ∈ O ∧ BoxAt H p n
  | .slot _ => False
  | .exc nm fo => ExS K H O v nm fo
def BoxS (σ : St) (ds : DS) (i : Nat) (p : Addr) : Prop := σ[i]? = some (some (.ref p)) ∧ ds.sl[i]? = some (some .box)
structure Rep (K : Fg) (F : Fx) (H : Hp) (O : List Addr) (σ : St) (ds : DS) : Prop where
  lo : LO O H
  sub : ∀ p ∈ F.O, p ∈ O
  ext : Keep F.B F.Hin H
  sl : ∀ (i : Nat) (dv : DV), ds.sl[i]? = some (some dv) → ∃ v, σ[i]? = some (some v) ∧ RpS K H O ds.n v dv
  mu : ∀ (i j : Nat) (p : Addr), MutAt σ ds i p → MutAt σ ds j p → i = j
  new : ∀ (i : Nat) (p : Addr), MutAt σ ds i p → F.Hin p = none ∨ p ∈ F.B
  newO : ∀ (i : Nat) (p : Addr) (xs : List D), σ[i]? = some (some (.ref p)) → ds.sl[i]? = some (some (.own xs)) → F.Hin p = none
  bx : ∀ p ∈ F.B, BoxAt H p ds.n
  bu : ∀ (i : Nat) (p : Addr), BoxS σ ds i p → ∀ q ∈ F.B, q = p
  b1 : ∀ (i j : Nat) (p q : Addr), BoxS σ ds i p → BoxS σ ds j q → i = j
  fo : ∀ p ∈ F.O, F.Hin p ≠ none
  bo : ∀ p ∈ F.B, p ∈ F.O
  len : ds.sl.length = σ.length
/-- one expression's evaluation, from a state to a state -/
structure Step (σ : St) (H : Hp) (O : List Addr) (ds : DS) (H' : Hp) (O' : List Addr) (ds' : DS) : Prop where
  o1 : Grow O O' H
  o2 : ∀ p ∈ O, (∀ i, ¬ MutAt σ ds i p) → p ∈ O'
  kp : ∀ a o, H a = some o → (∀ i, ¬ MutAt σ ds i a) → H' a = some o
  dm : ∀ a, H a ≠ none → H' a ≠ none
  sl : ∀ (i : Nat) (dv : DV), ds.sl[i]? = some (some dv) → ∃ dv', ds'.sl[i]? = some (some dv')
  mu : ∀ i p, MutAt σ ds' i p → MutAt σ ds i p
  bx : ∀ i p, BoxS σ ds' i p → BoxS σ ds i p
def RpV (K : Fg) (F : Fx) (H : Hp) (O O' : List Addr) (σ : St) (ds : DS) (v : V) : DV → Prop
  | .d x => Rp K H O' v x
  | .own xs => ∃ p vs, v = .ref p ∧ p ∈ O' ∧ p ∉ O ∧ F.Hin p = none ∧ H p = some (.lst vs) ∧ RpL K H O' vs xs
  | .box => False
  | .slot i => σ[i]? = some (some v) ∧ ∃ dv, ds.sl[i]? = some (some dv)
  | .exc _ _ => False
section
variable {K : Fg} {F : Fx} {H H1 H2 : Hp} {O O1 O2 : List Addr} {σ : St} {ds ds1 ds2 : DS} {v : V} {dv : DV} {d : D}
theorem Rep.mutO (R : Rep K F H O σ ds) {i : Nat} {p : Addr} (h : MutAt σ ds i p) : p ∈ O := by
  obtain ⟨h1, dv, h2, h3⟩ := h
  obtain ⟨v, e, r⟩ := R.sl i dv h2
  rw [h1] at e
  cases e
  cases dv with
  | d x => exact h3.elim
  | own xs => obtain ⟨q, vs, e, h, _⟩ := r; cases e; exact h
  | box => obtain ⟨q, e, h, _⟩ := r; cases e; exact h
  | slot j => exact h3.elim
  | exc a b => exact h3.elim
theorem Step.refl : Step σ H O ds H O ds := ⟨fun _ h => .inl h, fun _ h _ => h, fun _ _ h _ => h, fun _ h => h, fun _ _ h => ⟨_, h⟩, fun _ _ h => h, fun _ _ h => h⟩
theorem Step.trans (a : Step σ H O ds H1 O1 ds1) (b : Step σ H1 O1 ds1 H2 O2 ds2) : Step σ H O ds H2 O2 ds2 where
  o1 := fun p hp => by
    rcases b.o1 p hp with h | h
    · exact a.o1 p h
    · right
      cases e : H p with
      | none => rfl
      | some o => exact absurd h (a.dm p (by rw [e]; simp))
  o2 := fun p hp hn => b.o2 p (a.o2 p hp hn) fun i hi => hn i (a.mu i p hi)
  kp := fun x o h hn => b.kp x o (a.kp x o h hn) fun i hi => hn i (a.mu i x hi)
  dm := fun x h => b.dm x (a.dm x h)
  sl := fun i dv h => by
    obtain ⟨dv1, h1⟩ := a.sl i dv h
    exact b.sl i dv1 h1
  mu := fun i p h => a.mu i p (b.mu i p h)
  bx := fun i p h => a.bx i p (b.bx i p h)
/-- what was evaluated before stays what it is -/
theorem Step.keepO (R : Rep K F H1 O1 σ ds1) (s : Step σ H1 O1 ds1 H2 O2 ds2) : Keep O1 H1 H2 := fun a o h n => s.kp a o h fun _ hm => n (R.mutO hm)
theorem RpV.step (R : Rep K F H1 O1 σ ds1) (hO : ∀ p, (∃ i, MutAt σ ds1 i p) → p ∈ O) (h : RpV K F H1 O O1 σ ds1 v dv) (s : Step σ H1 O1 ds1 H2 O2 ds2) : RpV K F H2 O O2 σ ds2 v dv := by
  cases dv with
  | d x => exact Rp.mv R.lo (s.keepO R) s.o1 h
  | own xs =>
    obtain ⟨p, vs, e, h1, h2, h3, h4, h5⟩ := h
    have nm : ∀ i, ¬ MutAt σ ds1 i p := fun i hi => h2 (hO p ⟨i, hi⟩)
    exact ⟨p, vs, e, s.o2 p h1 nm, h2, h3, s.kp p _ h4 nm, RpL.mv R.lo (s.keepO R) s.o1 h5⟩
  | box => exact h.elim
  | slot i =>
    obtain ⟨h1, dv, h2⟩ := h
    exact ⟨h1, s.sl i dv h2⟩
  | exc a b => exact h.elim
end
end SF

/-! SL2: readings over data, lifted to readings over heaps. -/
namespace SF
open PySem PySem.Spec PyProof.Rows L2

abbrev DTE := DS → (DV → DS → Prop) → Prop
abbrev DTT := DS → (Bool → DS → Prop) → Prop
abbrev DTA := DS → (List DV → DS → Prop) → Prop

def RpVs (K : Fg) (F : Fx) (H : Hp) (O O' : List Addr) (σ : St) (ds : DS) (vs : List V) (dvs : List DV) : Prop :=
  Paired (RpV K F H O O' σ ds) vs dvs ∧ ∀ (i j : Nat) (p : Addr) (x y : List D), i ≠ j → vs[i]? = some (.ref p) → vs[j]? = some (.ref p) → dvs[i]? = some (.own x) → dvs[j]? = some (.own y) → False
def lift (K : Fg) (F : Fx) (t : DTE) : TE := fun σ H Q => ∃ O ds Qa, Rep K F H O σ ds ∧ t ds Qa ∧
  ∀ dv ds' v H' O', Step σ H O ds H' O' ds' → Rep K F H' O' σ ds' → RpV K F H' O O' σ ds' v dv → Qa dv ds' → Q v H'
def liftT (K : Fg) (F : Fx) (t : DTT) : TT := fun σ H Q => ∃ O ds Qa, Rep K F H O σ ds ∧ t ds Qa ∧
  ∀ b ds' H' O', Step σ H O ds H' O' ds' → Rep K F H' O' σ ds' → Qa b ds' → Q b H'
def liftA (K : Fg) (F : Fx) (t : DTA) : TA := fun σ H Q => ∃ O ds Qa, Rep K F H O σ ds ∧ t ds Qa ∧
  ∀ dvs ds' vs H' O', Step σ H O ds H' O' ds' → Rep K F H' O' σ ds' → RpVs K F H' O O' σ ds' vs dvs → Qa dvs ds' → Q vs H'
abbrev DE (X : Cx) (F : Fx) (e : Expr) (t : DTE) : Prop := PE X e (lift X.K F t)
abbrev DT (X : Cx) (F : Fx) (e : Expr) (t : DTT) : Prop := PT X e (liftT X.K F t)
abbrev DA (X : Cx) (F : Fx) (es : List Expr) (t : DTA) : Prop := PA X es (liftA X.K F t)

theorem PE_imp {X : Cx} {e : Expr} {t t' : TE} (h : PE X e t) (hi : ∀ σ H Q, t' σ H Q → t σ H Q) : PE X e t' := ⟨fun pins s σ H Q I q => h.run pins s σ H Q I (hi _ _ _ q)⟩
theorem PT_imp {X : Cx} {e : Expr} {t t' : TT} (h : PT X e t) (hi : ∀ σ H Q, t' σ H Q → t σ H Q) : PT X e t' := ⟨fun pins s σ H Q I q => h.run pins s σ H Q I (hi _ _ _ q)⟩
theorem PA_imp {X : Cx} {es : List Expr} {t t' : TA} (h : PA X es t) (hi : ∀ σ H Q, t' σ H Q → t σ H Q) : PA X es t' := ⟨fun pos pins s σ H Q I q => h.run pos pins s σ H Q I (hi _ _ _ q)⟩
theorem PS_imp {X : Cx} {st : Stmt} {t t' : TS} (h : PS X st t) (hi : ∀ D σ H, t' D σ H → t D σ H) : PS X st t' := ⟨fun pins s σ H D I q => h.run pins s σ H D I (hi _ _ _ q)⟩
theorem PSs_imp {X : Cx} {st : List Stmt} {t t' : TS} (h : PSs X st t) (hi : ∀ D σ H, t' D σ H → t D σ H) : PSs X st t' := ⟨fun pins s σ H D I q => h.run pins s σ H D I (hi _ _ _ q)⟩
theorem PG_imp {X : Cx} {e : Expr} {t t' : TG} (h : PG X e t) (hi : ∀ v σ H Q, t' v σ H Q → t v σ H Q) : PG X e t' := ⟨fun pins s σ H v u Q I r q => h.run pins s σ H v u Q I r (hi _ _ _ _ q)⟩

section
variable {K : Fg} {F : Fx} {H H' H1 H2 : Hp} {O O' O1 O2 : List Addr} {σ : St} {ds ds1 ds2 : DS} {v : V} {dv : DV} {d : D}

/-! ### the heap grows -/
theorem same_keep (sm : Same H H') : Keep O H H' := fun a o h _ => sm a o h
theorem RpS.grow {n : Nat} (lo : LO O H) (sm : Same H H') (g : Grow O O' H) (sub : ∀ p ∈ O, p ∈ O') : ∀ {v : V} {dv : DV}, RpS K H O n v dv → RpS K H' O' n v dv
  | _, .d x, h => Rp.mv lo (same_keep sm) g h
  | _, .own xs, ⟨p, vs, e, h1, h2, h3⟩ => ⟨p, vs, e, sub p h1, sm _ _ h2, RpL.mv lo (same_keep sm) g h3⟩
  | _, .box, ⟨p, e, h1, x, y, c, h2, h3⟩ => ⟨p, e, sub p h1, x, y, c, sm _ _ h2, h3⟩
  | _, .slot _, h => h
  | _, .exc _ _, h => ExS.mv lo (same_keep sm) g h
theorem Rep.grow (R : Rep K F H O σ ds) (sm : Same H H') (g : Grow O O' H) (sub : ∀ p ∈ O, p ∈ O') (lo : LO O' H') : Rep K F H' O' σ ds where
  lo := lo
  sub := fun p hp => sub p (R.sub p hp)
  ext := fun a o h n => sm a o (R.ext a o h n)
  sl := fun i dv h => by
    obtain ⟨v, e, r⟩ := R.sl i dv h
    exact ⟨v, e, RpS.grow R.lo sm g sub r⟩
  mu := R.mu
  new := R.new
  bx := fun p hp => by
    obtain ⟨x, y, c, h, r⟩ := R.bx p hp
    exact ⟨x, y, c, sm _ _ h, r⟩
  newO := R.newO
  bu := R.bu
  b1 := R.b1
  fo := R.fo
  bo := R.bo
  len := R.len
theorem Step.grow (sm : Same H H') (g : Grow O O' H) (sub : ∀ p ∈ O, p ∈ O') : Step σ H O ds H' O' ds :=
  ⟨g, fun p h _ => sub p h, fun a o h _ => sm a o h, fun a h => by
    cases e : H a with
    | none => exact absurd e h
    | some o => rw [sm a o e]; simp, fun _ _ h => ⟨_, h⟩, fun _ _ h => h, fun _ _ h => h⟩
theorem same_new {p : Addr} {o : HO} (hp : H p = none) : Same H (upd H p o) := fun b u h => by rw [upd_ne (ne_of_none h hp)]; exact h
theorem grow_refl : Grow O O H := fun _ h => .inl h
theorem grow_new {p : Addr} (hp : H p = none) : Grow O (p :: O) H := fun q h => by
  rcases List.mem_cons.mp h with e | h
  · subst e; exact .inr hp
  · exact .inl h
theorem lo_same (lo : LO O H) (sm : Same H H') : LO O H' := fun p hp => by
  obtain ⟨xs, e⟩ := lo p hp
  exact ⟨xs, sm _ _ e⟩
theorem lo_new {p : Addr} {vs : List V} (lo : LO O H) (hp : H p = none) : LO (p :: O) (upd H p (.lst vs)) := fun q hq => by
  rcases List.mem_cons.mp hq with e | hq
  · subst e; exact ⟨vs, upd_same⟩
  · exact lo_same lo (same_new hp) q hq
theorem Rep.hin (R : Rep K F H O σ ds) {p : Addr} (hp : H p = none) : F.Hin p = none := by
  cases e : F.Hin p with
  | none => rfl
  | some o =>
    by_cases hb : p ∈ F.B
    · obtain ⟨_, _, _, h, _⟩ := R.bx p hb
      rw [hp] at h; cases h
    · rw [R.ext p o e hb] at hp; cases hp
theorem Step.fresh (R : Rep K F H O σ ds) (s : Step σ H O ds H' O' ds1) {p : Addr} (hp : H' p = none) : p ∉ O := fun h => by
  obtain ⟨xs, e⟩ := R.lo p h
  exact s.dm p (by rw [e]; simp) hp
theorem Step.mutO (R : Rep K F H O σ ds) (s : Step σ H O ds H' O' ds1) : ∀ p, (∃ i, MutAt σ ds1 i p) → p ∈ O := fun p ⟨i, h⟩ => R.mutO (s.mu i p h)

/-! ### looking at a value -/
def peek (ds : DS) : DV → Option D
  | .d x => some x
  | .own xs => some (.list xs)
  | .box => none
  | .slot i => match ds.sl[i]? with
    | some (some (.d x)) => some x
    | some (some (.own xs)) => some (.list xs)
    | _ => none
  | .exc _ _ => none
def peekL (ds : DS) : List DV → Option (List D)
  | [] => some []
  | x :: xs => match peek ds x, peekL ds xs with
    | some d, some r => some (d :: r)
    | _, _ => none
/-- the data that a value shows: data, or a list of one's own -/
def Vw (K : Fg) (H : Hp) (O : List Addr) (v : V) (d : D) : Prop := Rp K H O v d ∨ ∃ p vs xs, v = .ref p ∧ d = .list xs ∧ H p = some (.lst vs) ∧ RpL K H O vs xs
theorem RpV.vw (R : Rep K F H O' σ ds) (h : RpV K F H O O' σ ds v dv) (e : peek ds dv = some d) : Vw K H O' v d := by
  cases dv with
  | exc xa xb => first | exact h.elim | exact hw.elim | exact hr.elim | exact rr.elim | exact rx.elim | exact h3.elim | exact c3.elim | exact c.elim | exact hab.elim | exact q.elim | (simp [peek] at hp; done) | (simp [frz] at e; done) | (simp [frz] at e1; done) | (simp [argOf] at ax; done) | (simp [argOf] at e1; done) | (simp [isBx] at hab; done) | (simp [argOf] at h; done) | (simp [peek] at e; done) | (simp [isBx] at hbx; done) | exact h | exact hw | exact r | (cases e; done) | (cases e2; done) | rfl | (simp at e; done) | (simp at h; done)
  | d x => cases e; exact .inl h
  | own xs =>
    cases e
    obtain ⟨p, vs, e, _, _, _, h1, h2⟩ := h
    exact .inr ⟨p, vs, xs, e, rfl, h1, h2⟩
  | box => exact h.elim
  | slot i =>
    obtain ⟨h1, dv, h2⟩ := h
    obtain ⟨w, e1, r⟩ := R.sl i dv h2
    rw [h1] at e1
    cases e1
    simp only [peek, h2] at e
    cases dv with
    | exc xa xb => first | exact h.elim | exact hw.elim | exact hr.elim | exact rr.elim | exact rx.elim | exact h3.elim | exact c3.elim | exact c.elim | exact hab.elim | exact q.elim | (simp [peek] at hp; done) | (simp [frz] at e; done) | (simp [frz] at e1; done) | (simp [argOf] at ax; done) | (simp [argOf] at e1; done) | (simp [isBx] at hab; done) | (simp [argOf] at h; done) | (simp [peek] at e; done) | (simp [isBx] at hbx; done) | exact h | exact hw | exact r | (cases e; done) | (cases e2; done) | rfl | (simp at e; done) | (simp at h; done)
    | d x => cases e; exact .inl r
    | own xs =>
      cases e
      obtain ⟨p, vs, e, _, h1, h2⟩ := r
      exact .inr ⟨p, vs, xs, e, rfl, h1, h2⟩
    | box => cases e
    | slot j => cases e
def VwL (K : Fg) (H : Hp) (O : List Addr) : List V → List D → Prop := Paired (Vw K H O)
theorem RpVs.vw (R : Rep K F H O' σ ds) : ∀ {vs : List V} {dvs : List DV} {xs : List D}, Paired (RpV K F H O O' σ ds) vs dvs → peekL ds dvs = some xs → VwL K H O' vs xs
  | _, _, _, .nil, e => by cases e; exact .nil
  | _, _, xs, .cons (l₁ := vs) (l₂ := dvs) (a := v) (b := dv) h r, e => by
    simp only [peekL] at e
    cases e1 : peek ds dv with
    | none => rw [e1] at e; simp at e
    | some d =>
      cases e2 : peekL ds dvs with
      | none => rw [e1, e2] at e; simp at e
      | some r' =>
        rw [e1, e2] at e
        simp only [Option.some.injEq] at e
        subst e
        exact .cons (RpV.vw R h e1) (RpVs.vw R r e2)
theorem Vw.dp (h : Vw K H O v d) : Dp K H v d := by
  rcases h with h | ⟨p, vs, xs, e, e2, h1, h2⟩
  · exact Rp.dp h
  · subst e e2
    exact .lst (.inl (.inl h1)) (RpL.dp h2)
theorem Vw.int {i : Int} (h : Vw K H O v (.int i)) : v = .int i := by
  rcases h with h | ⟨p, vs, xs, e, e2, h1, h2⟩
  · cases h; rfl
  · cases e2
theorem Vw.bool {b : Bool} (h : Vw K H O v (.bool b)) : v = .bl b := by
  rcases h with h | ⟨p, vs, xs, e, e2, h1, h2⟩
  · cases h; rfl
  · cases e2
theorem Vw.str {x : Str} (h : Vw K H O v (.str x)) : v = .str x := by
  rcases h with h | ⟨p, vs, xs, e, e2, h1, h2⟩
  · cases h; rfl
  · cases e2
theorem Vw.none (h : Vw K H O v .none) : v = .non := by
  rcases h with h | ⟨p, vs, xs, e, e2, h1, h2⟩
  · cases h; rfl
  · cases e2
theorem Vw.list {xs : List D} (h : Vw K H O v (.list xs)) : ∃ a vs, v = .ref a ∧ H a = some (.lst vs) ∧ RpL K H O vs xs := by
  rcases h with h | ⟨p, vs, xs, e, e2, h1, h2⟩
  · cases h with
    | lst h r => exact ⟨_, _, rfl, h.1, r⟩
  · cases e2
    exact ⟨p, vs, e, h1, h2⟩
theorem Vw.rp {xs : List D} (h : Vw K H O v (.tuple xs)) : Rp K H O v (.tuple xs) := by
  rcases h with h | ⟨p, vs, xs, e, e2, h1, h2⟩
  · exact h
  · cases e2
theorem Vw.tup {xs : List D} (h : Vw K H O v (.tuple xs)) : ∃ a vs, v = .ref a ∧ TpA K H a vs ∧ RpL K H O vs xs := by
  cases h.rp with
  | tup h' r => exact ⟨_, _, rfl, h', r⟩
theorem Vw.tuple {xs : List D} (h : Vw K H O v (.tuple xs)) : ∃ a vs, v = .ref a ∧ SqT K H a vs ∧ RpL K H O vs xs := by
  obtain ⟨a, vs, e, h, r⟩ := h.tup
  exact ⟨a, vs, e, TpA.seq h, r⟩

/-! ### how an operation by values ends -/
structure Cont (K : Fg) (H : Hp) (O : List Addr) (Qa : DV → Prop) (Q : VK) : Prop where
  d : ∀ v x, Rp K H O v x → Qa (.d x) → Q v H
  lst : ∀ p vs xs, H p = none → RpL K H O vs xs → Qa (.own xs) → Q (.ref p) (upd H p (.lst vs))
  tup : ∀ p o vs xs, H p = none → o.dict = none → RpL K H O vs xs → Qa (.d (.tuple xs)) → Q (.ref p) (upd H p (.frz o (.tup vs)))
theorem mkCont {Qa : DV → DS → Prop} {Q : VK} (R : Rep K F H O σ ds) (s : Step σ H O ds H2 O2 ds2) (R2 : Rep K F H2 O2 σ ds2)
    (hq : ∀ dv ds' v H' O', Step σ H O ds H' O' ds' → Rep K F H' O' σ ds' → RpV K F H' O O' σ ds' v dv → Qa dv ds' → Q v H') : Cont K H2 O2 (fun r => Qa r ds2) Q where
  d := fun v x h q => hq (.d x) ds2 v H2 O2 s R2 h q
  lst := fun p vs xs hp h q => by
    have sm := same_new (o := .lst vs) hp
    have g := grow_new (O := O2) hp
    have sub : ∀ q ∈ O2, q ∈ p :: O2 := fun q h => List.mem_cons_of_mem _ h
    refine hq (.own xs) ds2 (.ref p) _ (p :: O2) (s.trans (Step.grow sm g sub)) (R2.grow sm g sub (lo_new R2.lo hp)) ?_ q
    exact ⟨p, vs, rfl, List.mem_cons_self, s.fresh R hp, R2.hin hp, upd_same, RpL.mv R2.lo (same_keep sm) g h⟩
  tup := fun p o vs xs hp hd h q => by
    have sm := same_new (o := .frz o (.tup vs)) hp
    have g : Grow O2 O2 H2 := grow_refl
    refine hq (.d (.tuple xs)) ds2 (.ref p) _ O2 (s.trans (Step.grow sm g fun _ h => h)) (R2.grow sm g (fun _ h => h) (lo_same R2.lo sm)) ?_ q
    exact .tup (.inl ⟨o, upd_same, hd⟩) (RpL.mv R2.lo (same_keep sm) g h)
end

/-! ### expressions: names, constants, operations by values -/
section
variable {X : Cx} {F : Fx} {e : Expr} {ta tb tc : DTE}
def dVar (i : Nat) : DTE := fun ds Q => match ds.sl[i]? with
  | some (some (.d x)) => Q (.d x) ds
  | some (some (.own _)) => Q (.slot i) ds
  | some (some .box) => Q (.slot i) ds
  | some (some (.exc _ _)) => Q (.slot i) ds
  | _ => False
theorem de_var {i : Nat} (h : PE X e (tVar i)) : DE X F e (dVar i) := PE_imp h fun σ H Q ⟨O, ds, Qa, R, ht, hq⟩ => by
  unfold dVar at ht
  split at ht
  · rename_i x e
    obtain ⟨v, e1, r⟩ := R.sl i _ e
    exact ⟨v, e1, hq (.d x) ds v H O Step.refl R r ht⟩
  · rename_i x e
    obtain ⟨v, e1, r⟩ := R.sl i _ e
    exact ⟨v, e1, hq (.slot i) ds v H O Step.refl R ⟨e1, _, e⟩ ht⟩
  · rename_i e
    obtain ⟨v, e1, r⟩ := R.sl i _ e
    exact ⟨v, e1, hq (.slot i) ds v H O Step.refl R ⟨e1, _, e⟩ ht⟩
  · rename_i e
    obtain ⟨v, e1, r⟩ := R.sl i _ e
    exact ⟨v, e1, hq (.slot i) ds v H O Step.refl R ⟨e1, _, e⟩ ht⟩
  · exact ht.elim
def dC (x : D) : DTE := fun ds Q => Q (.d x) ds
theorem de_c {v : V} {x : D} (h : PE X e (tC v)) (hr : ∀ H O, Rp X.K H O v x) : DE X F e (dC x) := PE_imp h fun σ H Q ⟨O, ds, Qa, R, ht, hq⟩ =>
  hq (.d x) ds v H O Step.refl R (hr H O) ht
theorem de_int {i : Int} {j pos} : DE X F (.Constant (.int i) j pos) (dC (.int i)) := de_c pe_int fun _ _ => .int i
theorem de_bl {b : Bool} {j pos} : DE X F (.Constant (.bool b) j pos) (dC (.bool b)) := de_c pe_bl fun _ _ => .bl b
theorem de_non {j pos} : DE X F (.Constant .none j pos) (dC .none) := de_c pe_non fun _ _ => .non
theorem de_str {x : Str} {j pos} : DE X F (.Constant (.str x) j pos) (dC (.str x)) := de_c pe_str fun _ _ => .str x
abbrev F2 := D → D → (DV → Prop) → Prop
abbrev F1 := D → (DV → Prop) → Prop
def OpD (K : Fg) (r : R2) (f : F2) : Prop := ∀ H O x y d e Qa Q, LO O H → Vw K H O x d → Vw K H O y e → f d e Qa → Cont K H O Qa Q → r x y H Q
def dOp2 (f : F2) (ta tb : DTE) : DTE := fun ds Q => ta ds fun x ds1 => tb ds1 fun y ds2 => match peek ds2 x, peek ds2 y with
  | some d, some e => f d e fun r => Q r ds2
  | _, _ => False
theorem de_op2 {r : R2} {f : F2} (h : PE X e (tOp r (lift X.K F ta) (lift X.K F tb))) (hf : OpD X.K r f) : DE X F e (dOp2 f ta tb) := PE_imp h fun σ H Q ⟨O, ds, Qa, R, ht, hq⟩ =>
  ⟨O, ds, _, R, ht, fun x ds1 v H1 O1 s1 R1 rx hx => ⟨O1, ds1, _, R1, hx, fun y ds2 w H2 O2 s2 R2 ry hy => by
    have rx2 := RpV.step R1 (s1.mutO R) rx s2
    split at hy
    · rename_i d e e1 e2
      exact hf H2 O2 v w d e _ Q R2.lo (RpV.vw R2 rx2 e1) (RpV.vw R2 ry e2) hy (mkCont R (s1.trans s2) R2 hq)
    · exact hy.elim⟩⟩
def UnD (K : Fg) (r : V → Hp → VK → Prop) (f : F1) : Prop := ∀ H O x d Qa Q, LO O H → Vw K H O x d → f d Qa → Cont K H O Qa Q → r x H Q
def dOp1 (f : F1) (ta : DTE) : DTE := fun ds Q => ta ds fun x ds1 => match peek ds1 x with
  | some d => f d fun r => Q r ds1
  | _ => False
theorem de_op1 {r : V → Hp → VK → Prop} {f : F1} (h : PE X e (tUn r (lift X.K F ta))) (hf : UnD X.K r f) : DE X F e (dOp1 f ta) := PE_imp h fun σ H Q ⟨O, ds, Qa, R, ht, hq⟩ =>
  ⟨O, ds, _, R, ht, fun x ds1 v H1 O1 s1 R1 rx hx => by
    split at hx
    · rename_i d e1
      exact hf H1 O1 v d _ Q R1.lo (RpV.vw R1 rx e1) hx (mkCont R s1 R1 hq)
    · exact hx.elim⟩
abbrev FN := List D → (DV → Prop) → Prop
def CallD (K : Fg) (r : List V → Hp → VK → Prop) (f : FN) : Prop := ∀ H O xs ds Qa Q, LO O H → VwL K H O xs ds → f ds Qa → Cont K H O Qa Q → r xs H Q
def dCB (f : FN) (ta : DTA) : DTE := fun ds Q => ta ds fun xs ds1 => match peekL ds1 xs with
  | some d => f d fun r => Q r ds1
  | _ => False
theorem de_cb {r : List V → Hp → VK → Prop} {f : FN} {ta : DTA} (h : PE X e (tCB r (liftA X.K F ta))) (hf : CallD X.K r f) : DE X F e (dCB f ta) := PE_imp h fun σ H Q ⟨O, ds, Qa, R, ht, hq⟩ =>
  ⟨O, ds, _, R, ht, fun xs ds1 vs H1 O1 s1 R1 rx hx => by
    split at hx
    · rename_i d e1
      exact hf H1 O1 vs d _ Q R1.lo (RpVs.vw R1 rx.1 e1) hx (mkCont R s1 R1 hq)
    · exact hx.elim⟩
/-! argument lists -/
def dNil : DTA := fun ds Q => Q [] ds
def dCons (ta : DTE) (tr : DTA) : DTA := fun ds Q => ta ds fun x ds1 => tr ds1 fun xs ds2 => Q (x :: xs) ds2
theorem da_nil : DA X F [] dNil := PA_imp pa_nil fun σ H Q ⟨O, ds, Qa, R, ht, hq⟩ => hq [] ds [] H O Step.refl R ⟨.nil, fun _ _ _ _ _ _ h => by simp at h⟩ ht
theorem RpVs.step {K : Fg} {H1 H2 : Hp} {O O1 O2 : List Addr} {σ : St} {ds1 ds2 : DS} (R : Rep K F H1 O1 σ ds1) (hO : ∀ p, (∃ i, MutAt σ ds1 i p) → p ∈ O) (s : Step σ H1 O1 ds1 H2 O2 ds2) : ∀ {vs : List V} {dvs : List DV}, Paired (RpV K F H1 O O1 σ ds1) vs dvs → Paired (RpV K F H2 O O2 σ ds2) vs dvs
  | _, _, .nil => .nil
  | _, _, .cons h r => .cons (RpV.step R hO h s) (RpVs.step R hO s r)
theorem RpV.old {K : Fg} {H : Hp} {O O1 O' : List Addr} {σ : St} {ds : DS} {v : V} {dv : DV} (h : RpV K F H O1 O' σ ds v dv) (sub : ∀ p ∈ O, p ∉ O1 → p ∉ O') : RpV K F H O O' σ ds v dv := by
  cases dv with
  | exc xa xb => first | exact h.elim | exact hw.elim | exact hr.elim | exact rr.elim | exact rx.elim | exact h3.elim | exact c3.elim | exact c.elim | exact hab.elim | exact q.elim | (simp [peek] at hp; done) | (simp [frz] at e; done) | (simp [frz] at e1; done) | (simp [argOf] at ax; done) | (simp [argOf] at e1; done) | (simp [isBx] at hab; done) | (simp [argOf] at h; done) | (simp [peek] at e; done) | (simp [isBx] at hbx; done) | exact h | exact hw | exact r | (cases e; done) | (cases e2; done) | rfl | (simp at e; done) | (simp at h; done)
  | d x => exact h
  | own xs =>
    obtain ⟨p, vs, e, h1, h2, h3⟩ := h
    exact ⟨p, vs, e, h1, fun z => sub p z h2 h1, h3⟩
  | box => exact h
  | slot i => exact h
theorem Step.gone {K : Fg} {H1 H2 : Hp} {O O1 O2 : List Addr} {σ : St} {ds ds1 ds2 : DS} {H : Hp} (R : Rep K F H O σ ds) (s1 : Step σ H O ds H1 O1 ds1) (s2 : Step σ H1 O1 ds1 H2 O2 ds2) : ∀ p ∈ O, p ∉ O1 → p ∉ O2 := fun p h n z => by
  rcases s2.o1 p z with q | q
  · exact n q
  · exact s1.fresh R q h
theorem cons_lift {K : Fg} {tr : DTA} {σ : St} {H : Hp} {Q : List V → Hp → Prop} (h : liftA K F (dCons ta tr) σ H Q) : tCons (lift K F ta) (liftA K F tr) σ H Q := by
  obtain ⟨O, ds, Qa, R, ht, hq⟩ := h
  exact ⟨O, ds, _, R, ht, fun x ds1 v H1 O1 s1 R1 rx hx => ⟨O1, ds1, _, R1, hx, fun xs ds2 vs H2 O2 s2 R2 rxs hxs => by
    have rx2 := RpV.step R1 (s1.mutO R) rx s2
    have go := Step.gone R s1 s2
    refine hq (x :: xs) ds2 (v :: vs) H2 O2 (s1.trans s2) R2 ⟨.cons rx2 ?_, ?_⟩ hxs
    · have aux : ∀ {vs : List V} {dvs : List DV}, Paired (RpV K F H2 O1 O2 σ ds2) vs dvs → Paired (RpV K F H2 O O2 σ ds2) vs dvs := by
        intro vs dvs h
        induction h with
        | nil => exact .nil
        | cons h _ ih => exact .cons (RpV.old h go) ih
      exact aux rxs.1
    · intro i j p x' y' hij h1 h2 h3 h4
      have key : ∀ (k : Nat) (y : List D), x = .own x' → v = .ref p → vs[k]? = some (.ref p) → xs[k]? = some (.own y) → ∀ x', x = .own x' → False := by
        intro k y _ ev hk hy x'' ex
        subst ex
        obtain ⟨q, ws, eq, hqO, _⟩ := rx
        rw [ev] at eq; cases eq
        have aux : ∀ {vs : List V} {dvs : List DV} (k : Nat), Paired (RpV K F H2 O1 O2 σ ds2) vs dvs → vs[k]? = some (.ref p) → dvs[k]? = some (.own y) → p ∉ O1 := by
          intro vs dvs k h
          induction h generalizing k with
          | nil => intro h; simp at h
          | cons h _ ih =>
            cases k with
            | zero =>
              intro h1 h2
              simp at h1 h2
              subst h1 h2
              obtain ⟨_, _, e, _, n, _⟩ := h
              cases e; exact n
            | succ k => intro h1 h2; exact ih k (by simpa using h1) (by simpa using h2)
        exact aux k rxs.1 hk hy hqO
      cases i with
      | zero =>
        cases j with
        | zero => exact hij rfl
        | succ j =>
          simp at h1 h2 h3 h4
          subst h3
          exact key j y' rfl h1 h2 h4 x' rfl
      | succ i =>
        cases j with
        | zero =>
          simp at h1 h2 h3 h4
          subst h4
          obtain ⟨q, ws, eq, hqO, _⟩ := rx
          rw [h2] at eq; cases eq
          have aux : ∀ {vs : List V} {dvs : List DV} (k : Nat), Paired (RpV K F H2 O1 O2 σ ds2) vs dvs → vs[k]? = some (.ref p) → dvs[k]? = some (.own x') → p ∉ O1 := by
            intro vs dvs k h
            induction h generalizing k with
            | nil => intro h; simp at h
            | cons h _ ih =>
              cases k with
              | zero =>
                intro h1 h2
                simp at h1 h2
                subst h1 h2
                obtain ⟨_, _, e, _, n, _⟩ := h
                cases e; exact n
              | succ k => intro h1 h2; exact ih k (by simpa using h1) (by simpa using h2)
          exact aux i rxs.1 h1 h3 hqO
        | succ j => exact rxs.2 i j p x' y' (fun z => hij (by rw [z])) (by simpa using h1) (by simpa using h2) (by simpa using h3) (by simpa using h4)⟩⟩
theorem da_cons {es : List Expr} {tr : DTA} (ha : DE X F e ta) (hr : DA X F es tr) (hs : starEach (e :: es) X.env = (false, eval e X.env) :: starEach es X.env := by rfl) : DA X F (e :: es) (dCons ta tr) :=
  PA_imp (pa_cons ha hr hs) fun σ H Q h => cons_lift h
end
end SF

/-! SL3: freezing, displays, tests. -/
namespace SF
open PySem PySem.Spec PyProof.Rows L2

def frz (ds : DS) : DV → Option (D × DS)
  | .d x => some (x, ds)
  | .own xs => some (.list xs, ds)
  | .box => none
  | .slot i => match ds.sl[i]? with
    | some (some (.d x)) => some (x, ds)
    | some (some (.own xs)) => some (.list xs, ⟨ds.sl.set i (some (.d (.list xs))), ds.n⟩)
    | _ => none
  | .exc _ _ => none
def frzL (ds : DS) : List DV → Option (List D × DS)
  | [] => some ([], ds)
  | x :: xs => match frz ds x with
    | some (d, ds1) => match frzL ds1 xs with
      | some (r, ds2) => some (d :: r, ds2)
      | none => none
    | none => none
section
variable {K : Fg} {F : Fx} {H H' H0 : Hp} {O O' : List Addr} {σ : St} {ds ds0 ds' : DS} {v : V} {dv : DV} {d : D}
theorem less_grow {O O'' : List Addr} (h : ∀ p ∈ O'', p ∈ O) : Grow O O'' H := fun p hp => .inl (h p hp)
theorem keep_refl : Keep O H H := fun _ _ h _ => h
theorem Rp.less {O'' : List Addr} (lo : LO O' H) (h : ∀ p ∈ O'', p ∈ O') (r : Rp K H O' v d) : Rp K H O'' v d := Rp.mv lo keep_refl (less_grow h) r
theorem ExS.less {O'' : List Addr} {nm : Str} {fo : Option (Str × D)} (lo : LO O' H) (h : ∀ p ∈ O'', p ∈ O') (r : ExS K H O' v nm fo) : ExS K H O'' v nm fo := ExS.mv lo keep_refl (less_grow h) r
theorem RpL.less {O'' : List Addr} {vs : List V} {xs : List D} (lo : LO O' H) (h : ∀ p ∈ O'', p ∈ O') (r : RpL K H O' vs xs) : RpL K H O'' vs xs := RpL.mv lo keep_refl (less_grow h) r
theorem sl_set_of {i j : Nat} {x dv : DV} {l : List (Option DV)} (h : (l.set i (some x))[j]? = some (some dv)) : (i = j ∧ x = dv) ∨ (i ≠ j ∧ l[j]? = some (some dv)) := by
  by_cases e : i = j
  · subst e
    by_cases hi : i < l.length
    · rw [List.getElem?_set_self hi] at h
      cases h
      exact .inl ⟨rfl, rfl⟩
    · rw [List.getElem?_eq_none (by simpa using hi)] at h; cases h
  · rw [List.getElem?_set_ne e] at h
    exact .inr ⟨e, h⟩
/-- a list of one's own is handed on: from now on it is data -/
theorem Rep.drop (R : Rep K F H O' σ ds) {P : Addr → Prop} [DecidablePred P] {i : Nat} {p : Addr} {xs : List D} (h1 : σ[i]? = some (some (.ref p))) (h2 : ds.sl[i]? = some (some (.own xs))) :
    ∃ O'', (∀ q ∈ O'', q ∈ O') ∧ (∀ q ∈ O', q ≠ p → q ∈ O'') ∧ Rep K F H O'' σ ⟨ds.sl.set i (some (.d (.list xs))), ds.n⟩ ∧ Rp K H O'' (.ref p) (.list xs) := by
  obtain ⟨w, e, q, vs, e2, hO, hH, hL⟩ := R.sl i _ h2
  rw [h1] at e; cases e; cases e2
  have hlen : i < ds.sl.length := (List.getElem?_eq_some_iff.mp h2).1
  have mi : MutAt σ ds i p := ⟨h1, _, h2, trivial⟩
  have pn := R.newO i p xs h1 h2
  have hs1 : ∀ q ∈ O'.filter (fun q => decide (q ≠ p)), q ∈ O' := fun q hq => (List.mem_filter.mp hq).1
  have hs2 : ∀ q ∈ O', q ≠ p → q ∈ O'.filter (fun q => decide (q ≠ p)) := fun q hq n => List.mem_filter.mpr ⟨hq, by simpa using n⟩
  have np : p ∉ O'.filter (fun q => decide (q ≠ p)) := fun z => by simpa using (List.mem_filter.mp z).2
  have rp : Rp K H (O'.filter (fun q => decide (q ≠ p))) (.ref p) (.list xs) := .lst ⟨hH, np⟩ (RpL.less R.lo hs1 hL)
  have mut_of : ∀ j q, MutAt σ ⟨ds.sl.set i (some (.d (.list xs))), ds.n⟩ j q → MutAt σ ds j q ∧ j ≠ i := fun j q ⟨a, dv, b, c⟩ => by
    rcases sl_set_of b with ⟨e1, e2⟩ | ⟨e1, e2⟩
    · subst e2; exact c.elim
    · exact ⟨⟨a, dv, e2, c⟩, fun z => e1 z.symm⟩
  have box_of : ∀ j q, BoxS σ ⟨ds.sl.set i (some (.d (.list xs))), ds.n⟩ j q → BoxS σ ds j q := fun j q ⟨a, b⟩ => by
    rcases sl_set_of b with ⟨e1, e2⟩ | ⟨e1, e2⟩
    · cases e2
    · exact ⟨a, e2⟩
  refine ⟨_, hs1, hs2, ?_, rp⟩
  refine ⟨fun q hq => R.lo q (hs1 q hq), fun q hq => hs2 q (R.sub q hq) fun z => ?_, R.ext, fun j dv hj => ?_, fun j k q a b => R.mu j k q (mut_of j q a).1 (mut_of k q b).1, fun j q a => R.new j q (mut_of j q a).1, fun j q ys a b => ?_, R.bx, fun j q hb => R.bu j q (box_of j q hb), fun j k q r h1 h2 => R.b1 j k q r (box_of j q h1) (box_of k r h2), R.fo, R.bo, by simpa using R.len⟩
  · subst z; exact R.fo _ hq pn
  · rcases sl_set_of hj with ⟨e1, e2⟩ | ⟨e1, e2⟩
    · subst e1 e2
      exact ⟨_, h1, rp⟩
    · obtain ⟨w, ew, r⟩ := R.sl j dv e2
      refine ⟨w, ew, ?_⟩
      cases dv with
      | exc xa xb => exact ExS.less R.lo hs1 r
      | d x => exact Rp.less R.lo hs1 r
      | own ys =>
        obtain ⟨q, us, e3, a1, a2, a3⟩ := r
        subst e3
        refine ⟨q, us, rfl, hs2 q a1 fun z => ?_, a2, RpL.less R.lo hs1 a3⟩
        subst z
        exact e1 (R.mu i j q mi ⟨ew, _, e2, trivial⟩)
      | box =>
        obtain ⟨q, e3, a1, a2⟩ := r
        subst e3
        refine ⟨q, rfl, hs2 q a1 fun z => ?_, a2⟩
        subst z
        exact e1 (R.mu i j q mi ⟨ew, _, e2, trivial⟩)
      | slot k => exact r
  · rcases sl_set_of b with ⟨e1, e2⟩ | ⟨e1, e2⟩
    · cases e2
    · exact R.newO j q ys a e2
theorem Rep.tmp (R : Rep K F H O' σ ds) {p : Addr} (hp : F.Hin p = none) (hm : ∀ i, ¬ MutAt σ ds i p) : ∃ O'', (∀ q ∈ O'', q ∈ O') ∧ (∀ q ∈ O', q ≠ p → q ∈ O'') ∧ p ∉ O'' ∧ Rep K F H O'' σ ds := by
  have hs1 : ∀ q ∈ O'.filter (fun q => decide (q ≠ p)), q ∈ O' := fun q hq => (List.mem_filter.mp hq).1
  have hs2 : ∀ q ∈ O', q ≠ p → q ∈ O'.filter (fun q => decide (q ≠ p)) := fun q hq n => List.mem_filter.mpr ⟨hq, by simpa using n⟩
  have np : p ∉ O'.filter (fun q => decide (q ≠ p)) := fun z => by simpa using (List.mem_filter.mp z).2
  refine ⟨_, hs1, hs2, np, ⟨fun q hq => R.lo q (hs1 q hq), fun q hq => hs2 q (R.sub q hq) fun z => ?_, R.ext, fun j dv hj => ?_, R.mu, R.new, R.newO, R.bx, R.bu, R.b1, R.fo, R.bo, R.len⟩⟩
  · subst z; exact R.fo _ hq hp
  · obtain ⟨w, ew, r⟩ := R.sl j dv hj
    refine ⟨w, ew, ?_⟩
    cases dv with
    | exc xa xb => exact ExS.less R.lo hs1 r
    | d x => exact Rp.less R.lo hs1 r
    | own ys =>
      obtain ⟨q, us, e3, a1, a2, a3⟩ := r
      subst e3
      exact ⟨q, us, rfl, hs2 q a1 fun z => by subst z; exact hm j ⟨ew, _, hj, trivial⟩, a2, RpL.less R.lo hs1 a3⟩
    | box =>
      obtain ⟨q, e3, a1, a2⟩ := r
      subst e3
      exact ⟨q, rfl, hs2 q a1 fun z => by subst z; exact hm j ⟨ew, _, hj, trivial⟩, a2⟩
    | slot k => exact r
/-- one value is frozen; the others stay -/
theorem frz_ok (R0 : Rep K F H0 O σ ds0) (s : Step σ H0 O ds0 H O' ds) (R : Rep K F H O' σ ds) (h : RpV K F H O O' σ ds v dv) (e : frz ds dv = some (d, ds')) :
    ∃ O'', Step σ H0 O ds0 H O'' ds' ∧ Rep K F H O'' σ ds' ∧ Rp K H O'' v d ∧ (∀ p ∈ O'', p ∈ O') ∧
      ∀ w dw, RpV K F H O O' σ ds w dw → (∀ xs, dw = .own xs → ∀ ys, dv = .own ys → w ≠ v) → RpV K F H O O'' σ ds' w dw := by
  have same : frz ds dv = some (d, ds) → Rp K H O' v d → ds' = ds → ∃ O'', Step σ H0 O ds0 H O'' ds' ∧ Rep K F H O'' σ ds' ∧ Rp K H O'' v d ∧ (∀ p ∈ O'', p ∈ O') ∧
      ∀ w dw, RpV K F H O O' σ ds w dw → (∀ xs, dw = .own xs → ∀ ys, dv = .own ys → w ≠ v) → RpV K F H O O'' σ ds' w dw := fun _ r e => by
    subst e
    exact ⟨O', s, R, r, fun _ h => h, fun w dw h _ => h⟩
  cases dv with
  | exc xa xb => first | exact h.elim | exact hw.elim | exact hr.elim | exact rr.elim | exact rx.elim | exact h3.elim | exact c3.elim | exact c.elim | exact hab.elim | exact q.elim | (simp [peek] at hp; done) | (simp [frz] at e; done) | (simp [frz] at e1; done) | (simp [argOf] at ax; done) | (simp [argOf] at e1; done) | (simp [isBx] at hab; done) | (simp [argOf] at h; done) | (simp [peek] at e; done) | (simp [isBx] at hbx; done) | exact h | exact hw | exact r | (cases e; done) | (cases e2; done) | rfl | (simp at e; done) | (simp at h; done)
  | d x =>
    have e' := e
    simp only [frz, Option.some.injEq, Prod.mk.injEq] at e'
    obtain ⟨e1, e2⟩ := e'
    subst e1
    exact same (by rw [e, e2]) h e2.symm
  | box => exact h.elim
  | own xs =>
    simp only [frz, Option.some.injEq, Prod.mk.injEq] at e
    obtain ⟨e1, e2⟩ := e
    subst e1 e2
    obtain ⟨p, vs, ev, h1, h2, h3, h4, h5⟩ := h
    subst ev
    have nm : ∀ i, ¬ MutAt σ ds i p := fun i hi => h2 (s.mutO R0 p ⟨i, hi⟩)
    obtain ⟨O'', a1, a2, a3, R'⟩ := R.tmp h3 nm
    refine ⟨O'', ⟨fun q hq => s.o1 q (a1 q hq), fun q hq n => a2 q (s.o2 q hq n) fun z => h2 (z ▸ hq), s.kp, s.dm, s.sl, s.mu, s.bx⟩, R', .lst ⟨h4, a3⟩ (RpL.less R.lo a1 h5), a1, fun w dw hw hne => ?_⟩
    cases dw with
    | exc xa xb => exact hw.elim
    | d x => exact Rp.less R.lo a1 hw
    | own ys =>
      obtain ⟨q, us, ew, b1, b2, b3, b4, b5⟩ := hw
      exact ⟨q, us, ew, a2 q b1 fun z => hne ys rfl xs rfl (by rw [ew, z]), b2, b3, b4, RpL.less R.lo a1 b5⟩
    | box => exact hw
    | slot j => exact hw
  | slot i =>
    obtain ⟨h1, dw, h2⟩ := h
    obtain ⟨w, e1, r⟩ := R.sl i dw h2
    rw [h1] at e1; cases e1
    have e0 := e
    simp only [frz, h2] at e
    cases dw with
    | exc xa xb => first | exact h.elim | exact hw.elim | exact hr.elim | exact rr.elim | exact rx.elim | exact h3.elim | exact c3.elim | exact c.elim | exact hab.elim | exact q.elim | (simp [peek] at hp; done) | (simp [frz] at e; done) | (simp [frz] at e1; done) | (simp [argOf] at ax; done) | (simp [argOf] at e1; done) | (simp [isBx] at hab; done) | (simp [argOf] at h; done) | (simp [peek] at e; done) | (simp [isBx] at hbx; done) | exact h | exact hw | exact r | (cases e; done) | (cases e2; done) | rfl | (simp at e; done) | (simp at h; done)
    | d x =>
      simp only [Option.some.injEq, Prod.mk.injEq] at e
      obtain ⟨q1, q2⟩ := e
      subst q1
      exact same (by rw [e0, q2]) r q2.symm
    | own xs =>
      simp only [Option.some.injEq, Prod.mk.injEq] at e
      obtain ⟨q1, q2⟩ := e
      subst q1 q2
      obtain ⟨p, vs, ev, b1, b2, b3⟩ := r
      subst ev
      obtain ⟨O'', a1, a2, R', rp⟩ := R.drop (P := fun q => q = p) h1 h2
      have mi : MutAt σ ds i p := ⟨h1, _, h2, trivial⟩
      have hlen : i < ds.sl.length := (List.getElem?_eq_some_iff.mp h2).1
      refine ⟨O'', ⟨fun q hq => s.o1 q (a1 q hq), fun q hq n => a2 q (s.o2 q hq n) fun z => n i (z ▸ s.mu i p mi), s.kp, s.dm, fun j dv hj => ?_, fun j q hj => ?_, fun j q hj => ?_⟩, R', rp, a1, fun w dw hw hne => ?_⟩
      · obtain ⟨dv', hj'⟩ := s.sl j dv hj
        by_cases ej : i = j
        · subst ej
          exact ⟨.d (.list xs), by rw [List.getElem?_set_self hlen]⟩
        · exact ⟨dv', by rw [List.getElem?_set_ne ej]; exact hj'⟩
      · obtain ⟨c1, dv, c2, c3⟩ := hj
        rcases sl_set_of c2 with ⟨z1, z2⟩ | ⟨z1, z2⟩
        · subst z2; exact c3.elim
        · exact s.mu j q ⟨c1, dv, z2, c3⟩
      · obtain ⟨c1, c2⟩ := hj
        rcases sl_set_of c2 with ⟨z1, z2⟩ | ⟨z1, z2⟩
        · cases z2
        · exact s.bx j q ⟨c1, z2⟩
      · cases dw with
        | exc xa xb => exact hw.elim
        | d x => exact Rp.less R.lo a1 hw
        | own ys =>
          obtain ⟨q, us, ew, c1, c2, c3, c4, c5⟩ := hw
          exact ⟨q, us, ew, a2 q c1 fun z => c2 (s.mutO R0 q ⟨i, z ▸ mi⟩), c2, c3, c4, RpL.less R.lo a1 c5⟩
        | box => exact hw
        | slot j =>
          obtain ⟨c1, dv, c2⟩ := hw
          refine ⟨c1, ?_⟩
          by_cases ej : i = j
          · subst ej
            exact ⟨.d (.list xs), by rw [List.getElem?_set_self hlen]⟩
          · exact ⟨dv, by rw [List.getElem?_set_ne ej]; exact c2⟩
    | box => simp at e
    | slot j => simp at e
theorem frzL_ok (R0 : Rep K F H0 O σ ds0) : ∀ {dvs : List DV} {vs : List V} {O' : List Addr} {ds ds' : DS} {xs : List D}, Step σ H0 O ds0 H O' ds → Rep K F H O' σ ds → RpVs K F H O O' σ ds vs dvs → frzL ds dvs = some (xs, ds') →
    ∃ O'', Step σ H0 O ds0 H O'' ds' ∧ Rep K F H O'' σ ds' ∧ RpL K H O'' vs xs ∧ ∀ p ∈ O'', p ∈ O'
  | [], vs, O', ds, ds', xs, s, R, h, e => by
    have h' := h.1
    cases h'
    simp only [frzL, Option.some.injEq, Prod.mk.injEq] at e
    obtain ⟨e1, e2⟩ := e
    subst e1 e2
    exact ⟨O', s, R, .nil, fun _ h => h⟩
  | dv :: dvs, vs, O', ds, ds', xs, s, R, h, e => by
    obtain ⟨hp, ha⟩ := h
    cases hp with
    | cons h1 h2 =>
      rename_i v vr
      simp only [frzL] at e
      cases e1 : frz ds dv with
      | none => rw [e1] at e; simp at e
      | some q =>
        obtain ⟨d, ds1⟩ := q
        rw [e1] at e
        simp only at e
        cases e2 : frzL ds1 dvs with
        | none => rw [e2] at e; simp at e
        | some q =>
          obtain ⟨r, ds2⟩ := q
          rw [e2] at e
          simp only [Option.some.injEq, Prod.mk.injEq] at e
          obtain ⟨q1, q2⟩ := e
          subst q1 q2
          obtain ⟨O1, s1, R1, r1, sub1, oth⟩ := frz_ok R0 s R h1 e1
          have hvs : RpVs K F H O O1 σ ds1 vr dvs := by
            refine ⟨?_, fun i j p x y hij a b c d => ha (i + 1) (j + 1) p x y (fun z => hij (by omega)) (by simpa using a) (by simpa using b) (by simpa using c) (by simpa using d)⟩
            have aux : ∀ {ws : List V} {dws : List DV}, Paired (RpV K F H O O' σ ds) ws dws → (∀ (k : Nat) (w : V) (xs : List D), ws[k]? = some w → dws[k]? = some (.own xs) → ∀ ys, dv = .own ys → w ≠ v) → Paired (RpV K F H O O1 σ ds1) ws dws := by
              intro ws dws hh
              induction hh with
              | nil => intro _; exact .nil
              | cons q _ ih =>
                intro hn
                exact .cons (oth _ _ q fun xs e1 ys e2 => hn 0 _ xs rfl (by rw [e1]; rfl) ys e2) (ih fun k w xs a b => hn (k + 1) w xs (by simpa using a) (by simpa using b))
            refine aux h2 fun k w xs a b ys e3 ew => ?_
            subst e3
            have h1' := h1
            obtain ⟨p, us, ev, _⟩ := h1'
            rw [ew, ev] at a
            exact ha 0 (k + 1) p ys xs (by omega) (by rw [ev]; rfl) (by simpa using a) rfl (by simpa using b)
          obtain ⟨O2, s2, R2, r2, sub2⟩ := frzL_ok R0 s1 R1 hvs e2
          exact ⟨O2, s2, R2, .cons (Rp.less R1.lo sub2 r1) r2, fun p hp => sub1 p (sub2 p hp)⟩
end
end SF

/-! SL4: displays, tests, statements, loops over data. -/
namespace SF
open PySem PySem.Spec PyProof.Rows L2
section
variable {X : Cx} {F : Fx} {e a b c : Expr} {es : List Expr} {ta tb tc : DTE} {pos : Pos}
/-! ### displays -/
def tTupF (t : TA) : TE := fun σ H Q => t σ H fun xs H1 => xs.length ≤ sizeLine ∧ ∀ p o, H1 p = none → o.dict = none → Q (.ref p) (upd H1 p (.frz o (.tup xs)))
theorem pe_tupF {x1} {t : TA} (h : PA X es t) : PE X (.Tuple es x1 pos) (tTupF t) := by
  constructor
  intro pins s σ H Q I hq
  refine wpAny_Tuple_spliced (thn (h.run pos pins s σ H _ I hq) ?_)
  rintro us s1 ⟨xs, H1, I1, r, z, q⟩
  have hl := r.length
  refine ⟨by omega, .ref s1.heap.objs.size, _, I1.laid (o := .frz { cls := .type "tuple", data := .seq us.toArray } (.tup xs)) (t' := s1.toks) (fun b u e => Heap.get?_push_of_some _ e) (Nat.le_refl _) ?_, rfl, q _ _ I1.fresh rfl⟩
  have g := Heap.get?_push_size s1.heap (o := { cls := .type "tuple", data := .seq us.toArray }) rfl
  exact ⟨g, z, us, r, _, g, rfl, _, rfl⟩
def few (n : Nat) (P : Prop) : Prop := match Nat.ble n 1000 with
  | true => P
  | false => False
theorem few_le {n : Nat} {P : Prop} (h : few n P) : n ≤ 1000 ∧ P := by
  unfold few at h
  split at h
  · rename_i e; exact ⟨Nat.le_of_ble_eq_true e, h⟩
  · exact h.elim
theorem k_line : (1000 : Nat) ≤ sizeLine := by decide
def dTup (t : DTA) : DTE := fun ds Q => t ds fun xs ds1 => match frzL ds1 xs with
  | some (r, ds2) => few r.length (Q (.d (.tuple r)) ds2)
  | none => False
def dLst (t : DTA) : DTE := fun ds Q => t ds fun xs ds1 => match frzL ds1 xs with
  | some (r, ds2) => few r.length (Q (.own r) ds2)
  | none => False
theorem de_tup {x1} {t : DTA} (h : DA X F es t) : DE X F (.Tuple es x1 pos) (dTup t) := PE_imp (pe_tupF h) fun σ H Q ⟨O, ds, Qa, R, ht, hq⟩ =>
  ⟨O, ds, _, R, ht, fun xs ds1 vs H1 O1 s1 R1 rx hx => by
    cases e : frzL ds1 xs with
    | none => rw [e] at hx; exact hx.elim
    | some q =>
      obtain ⟨r, ds2⟩ := q
      rw [e] at hx
      obtain ⟨O2, s2, R2, rl, _⟩ := frzL_ok R s1 R1 rx e
      obtain ⟨hn, hx⟩ := few_le hx
      refine ⟨by have := rl.length; have := k_line; omega, fun p o hp ho => (mkCont R s2 R2 hq).tup p o vs r hp ho rl hx⟩⟩
theorem de_lst {t : DTA} (h : DA X F es t) : DE X F (.List es pos) (dLst t) := PE_imp (pe_lst h) fun σ H Q ⟨O, ds, Qa, R, ht, hq⟩ =>
  ⟨O, ds, _, R, ht, fun xs ds1 vs H1 O1 s1 R1 rx hx => by
    cases e : frzL ds1 xs with
    | none => rw [e] at hx; exact hx.elim
    | some q =>
      obtain ⟨r, ds2⟩ := q
      rw [e] at hx
      obtain ⟨O2, s2, R2, rl, _⟩ := frzL_ok R s1 R1 rx e
      obtain ⟨hn, hx⟩ := few_le hx
      refine ⟨by have := rl.length; have := k_line; omega, fun p hp => (mkCont R s2 R2 hq).lst p vs r hp rl hx⟩⟩
/-! ### tests -/
def truD : D → Option Bool
  | .none => some false
  | .bool b => some b
  | .int i => some (i != 0)
  | .list xs => some (!xs.isEmpty)
  | .tuple xs => some (!xs.isEmpty)
  | _ => none
def dTst (t : DTE) : DTT := fun ds Q => t ds fun x ds1 => match peek ds1 x with
  | some (.bool b) => Q b ds1
  | _ => False
theorem tst_lift {K : Fg} {σ : St} {H : Hp} {Q : Bool → Hp → Prop} {t : DTE} (h : liftT K F (dTst t) σ H Q) : lift K F t σ H fun x H' => ∃ k, x = .bl k ∧ Q k H' := by
  obtain ⟨O, ds, Qa, R, ht, hq⟩ := h
  refine ⟨O, ds, _, R, ht, fun x ds1 v H1 O1 s1 R1 rx hx => ?_⟩
  split at hx
  · rename_i b e
    exact ⟨b, (RpV.vw R1 rx e).bool, hq b ds1 H1 O1 s1 R1 hx⟩
  · exact hx.elim
theorem dt_val (h : DE X F e ta) (he : ∀ whole, isTrue e X.env whole = (do let v ← whole; standAt e.pos; holding [v] (truthy v)) := by intro _; rfl) : DT X F e (dTst ta) :=
  PT_imp (pt_val h he) fun _ _ _ hh => tst_lift hh
def dTr (t : DTE) : DTT := fun ds Q => t ds fun x ds1 => match (peek ds1 x).bind truD with
  | some b => Q b ds1
  | _ => False
theorem dt_tru (h : DE X F e ta) (he : ∀ whole, isTrue e X.env whole = (do let v ← whole; standAt e.pos; holding [v] (truthy v)) := by intro _; rfl) : DT X F e (dTr ta) :=
  PT_imp (pt_truth h he) fun σ H Q ⟨O, ds, Qa, R, ht, hq⟩ => ⟨O, ds, _, R, ht, fun x ds1 v H1 O1 s1 R1 rx hx => by
    cases e : peek ds1 x with
    | none => rw [e] at hx; exact hx.elim
    | some d =>
      rw [e] at hx
      have w := RpV.vw R1 rx e
      cases d with
      | none => exact ⟨false, by rw [w.none]; rfl, hq _ ds1 H1 O1 s1 R1 hx⟩
      | bool b => exact ⟨b, by rw [w.bool]; rfl, hq _ ds1 H1 O1 s1 R1 hx⟩
      | int i => exact ⟨i != 0, by rw [w.int]; rfl, hq _ ds1 H1 O1 s1 R1 hx⟩
      | str s => exact hx.elim
      | list xs =>
        obtain ⟨p, vs, ev, h1, h2⟩ := w.list
        subst ev
        have hl := h2.length
        refine ⟨!vs.isEmpty, .inl ⟨vs, .inl (.inl h1), rfl⟩, hq _ ds1 H1 O1 s1 R1 ?_⟩
        have : vs.isEmpty = xs.isEmpty := by cases vs <;> cases xs <;> simp_all
        rw [this]
        exact hx
      | tuple xs =>
        obtain ⟨p, vs, ev, h1, h2⟩ := w.tuple
        subst ev
        have hl := h2.length
        refine ⟨!vs.isEmpty, .inr (.inl ⟨vs, h1, rfl⟩), hq _ ds1 H1 O1 s1 R1 ?_⟩
        have : vs.isEmpty = xs.isEmpty := by cases vs <;> cases xs <;> simp_all
        rw [this]
        exact hx
      | dict k => exact hx.elim⟩
def dNot (t : DTT) : DTT := fun ds Q => t ds fun b ds1 => Q (!b) ds1
theorem dt_not {t : DTT} (h : DT X F e t) : DT X F (.UnaryOp .Not e pos) (dNot t) := PT_imp (pt_not h) fun σ H Q ⟨O, ds, Qa, R, ht, hq⟩ => ⟨O, ds, _, R, ht, fun b ds1 H1 O1 s1 R1 hx => hq _ ds1 H1 O1 s1 R1 hx⟩
abbrev DW (X : Cx) (F : Fx) (e : Expr) (t : DTT) : Prop := PW X e (liftT X.K F t)
def dAnd (t u : DTT) : DTT := fun ds Q => t ds fun b ds1 => match b with
  | true => u ds1 Q
  | false => Q false ds1
def dOr (t u : DTT) : DTT := fun ds Q => t ds fun b ds1 => match b with
  | true => Q true ds1
  | false => u ds1 Q
theorem PW_imp {X : Cx} {e : Expr} {t t' : TT} (h : PW X e t) (hi : ∀ σ H Q, t' σ H Q → t σ H Q) : PW X e t' := ⟨fun wh pins s σ H Q I q => h.run wh pins s σ H Q I (hi _ _ _ q)⟩
theorem dw_and {rest : List Expr} {t u : DTT} (ha : DT X F a t) (hb : DW X F (.BoolOp .And (b :: rest) pos) u) : DW X F (.BoolOp .And (a :: b :: rest) pos) (dAnd t u) :=
  PW_imp (pw_and ha hb) fun σ H Q ⟨O, ds, Qa, R, ht, hq⟩ => ⟨O, ds, _, R, ht, fun b ds1 H1 O1 s1 R1 hx => by
    cases b with
    | true => exact iteT ⟨O1, ds1, _, R1, hx, fun b ds2 H2 O2 s2 R2 h2 => hq b ds2 H2 O2 (s1.trans s2) R2 h2⟩
    | false => exact iteF (hq _ ds1 H1 O1 s1 R1 hx)⟩
theorem dw_or {rest : List Expr} {t u : DTT} (ha : DT X F a t) (hb : DW X F (.BoolOp .Or (b :: rest) pos) u) : DW X F (.BoolOp .Or (a :: b :: rest) pos) (dOr t u) :=
  PW_imp (pw_or ha hb) fun σ H Q ⟨O, ds, Qa, R, ht, hq⟩ => ⟨O, ds, _, R, ht, fun b ds1 H1 O1 s1 R1 hx => by
    cases b with
    | true => exact iteT (hq _ ds1 H1 O1 s1 R1 hx)
    | false => exact iteF ⟨O1, ds1, _, R1, hx, fun b ds2 H2 O2 s2 R2 h2 => hq b ds2 H2 O2 (s1.trans s2) R2 h2⟩⟩
theorem dw_and1 {t : DTT} (ha : DT X F a t) : DW X F (.BoolOp .And [a] pos) t := pw_and1 ha
theorem dw_or1 {t : DTT} (ha : DT X F a t) : DW X F (.BoolOp .Or [a] pos) t := pw_or1 ha
/-! the same as values: all but the last are bools -/
def dAndV (ta tb : DTE) : DTE := fun ds Q => ta ds fun x ds1 => match peek ds1 x with
  | some (.bool true) => tb ds1 Q
  | some (.bool false) => Q (.d (.bool false)) ds1
  | _ => False
def dOrV (ta tb : DTE) : DTE := fun ds Q => ta ds fun x ds1 => match peek ds1 x with
  | some (.bool true) => Q (.d (.bool true)) ds1
  | some (.bool false) => tb ds1 Q
  | _ => False
theorem lift_step {K : Fg} {σ : St} {H H1 : Hp} {O O1 : List Addr} {ds ds1 : DS} {Q : VK} {Qa : DV → DS → Prop} {t : DTE} (R : Rep K F H O σ ds) (s1 : Step σ H O ds H1 O1 ds1) (R1 : Rep K F H1 O1 σ ds1) (ht : t ds1 Qa)
    (hq : ∀ dv ds' v H' O', Step σ H O ds H' O' ds' → Rep K F H' O' σ ds' → RpV K F H' O O' σ ds' v dv → Qa dv ds' → Q v H') : lift K F t σ H1 Q :=
  ⟨O1, ds1, Qa, R1, ht, fun dv ds2 v H2 O2 s2 R2 rv h => hq dv ds2 v H2 O2 (s1.trans s2) R2 (RpV.old rv (Step.gone R s1 s2)) h⟩
theorem de_and {rest : List Expr} (ha : DE X F a ta) (hb : DE X F (.BoolOp .And (b :: rest) pos) tb) : DE X F (.BoolOp .And (a :: b :: rest) pos) (dAndV ta tb) :=
  PE_imp (pe_and ha hb) fun σ H Q ⟨O, ds, Qa, R, ht, hq⟩ => ⟨O, ds, _, R, ht, fun x ds1 v H1 O1 s1 R1 rx hx => by
    split at hx
    · rename_i e
      exact ⟨true, (RpV.vw R1 rx e).bool, iteT (lift_step R s1 R1 hx hq)⟩
    · rename_i e
      exact ⟨false, (RpV.vw R1 rx e).bool, iteF (hq (.d (.bool false)) ds1 (.bl false) H1 O1 s1 R1 (.bl false) hx)⟩
    · exact hx.elim⟩
theorem de_or {rest : List Expr} (ha : DE X F a ta) (hb : DE X F (.BoolOp .Or (b :: rest) pos) tb) : DE X F (.BoolOp .Or (a :: b :: rest) pos) (dOrV ta tb) :=
  PE_imp (pe_or ha hb) fun σ H Q ⟨O, ds, Qa, R, ht, hq⟩ => ⟨O, ds, _, R, ht, fun x ds1 v H1 O1 s1 R1 rx hx => by
    split at hx
    · rename_i e
      exact ⟨true, (RpV.vw R1 rx e).bool, iteT (hq (.d (.bool true)) ds1 (.bl true) H1 O1 s1 R1 (.bl true) hx)⟩
    · rename_i e
      exact ⟨false, (RpV.vw R1 rx e).bool, iteF (lift_step R s1 R1 hx hq)⟩
    · exact hx.elim⟩
theorem de_one {op : BoolOp} (ha : DE X F a ta) : DE X F (.BoolOp op [a] pos) ta := pe_one ha
def fNot : F1 := fun d Q => match d with
  | .bool b => Q (.d (.bool (!b)))
  | _ => False
theorem de_not (ha : DE X F a ta) : DE X F (.UnaryOp .Not a pos) (dOp1 fNot ta) :=
  de_op1 (r := fun x H Q => ∃ c, x = .bl c ∧ Q (.bl (!c)) H) (pe_not ha) fun H O x d Qa Q lo w hf c => by
    cases d with
    | bool b => exact ⟨b, w.bool, c.d _ _ (.bl _) hf⟩
    | _ => exact hf.elim
def dIf (t : DTT) (ta tb : DTE) : DTE := fun ds Q => t ds fun b ds1 => match b with
  | true => ta ds1 Q
  | false => tb ds1 Q
theorem de_if {t : DTT} (hc : DT X F c t) (ha : DE X F a ta) (hb : DE X F b tb) : DE X F (.IfExp c a b pos) (dIf t ta tb) :=
  PE_imp (pe_ifExp hc ha hb) fun σ H Q ⟨O, ds, Qa, R, ht, hq⟩ => ⟨O, ds, _, R, ht, fun b ds1 H1 O1 s1 R1 hx => by
    cases b with
    | true => exact iteT (lift_step R s1 R1 hx hq)
    | false => exact iteF (lift_step R s1 R1 hx hq)⟩
end

/-! ### statements -/
structure DEn where
  nx : DS → Prop
  rt : DV → DS → Prop
  bk : DS → Prop := fun _ => False
  ct : DS → Prop := fun _ => False
abbrev DTS := DEn → DS → Prop
/-- from a statement to the next: what is not protected is kept -/
structure HS (O : List Addr) (H : Hp) (O' : List Addr) (H' : Hp) : Prop where
  kp : Keep O H H'
  gr : Grow O O' H
  dm : ∀ a, H a ≠ none → H' a ≠ none
def RpR (K : Fg) (F : Fx) (H : Hp) (v : V) : DV → Prop
  | .d x => Rp K H F.O v x
  | .own xs => ∃ p vs, v = .ref p ∧ F.Hin p = none ∧ H p = some (.lst vs) ∧ RpL K H (p :: F.O) vs xs
  | .box => False
  | .slot _ => False
  | .exc _ _ => False
structure Ok (K : Fg) (F : Fx) (O : List Addr) (H : Hp) (E : DEn) (D : Ends) : Prop where
  nx : ∀ O' ds' σ' H', HS O H O' H' → Rep K F H' O' σ' ds' → E.nx ds' → D.nx σ' H'
  rt : ∀ O' ds' σ' H' v dv, HS O H O' H' → Rep K F H' O' σ' ds' → RpR K F H' v dv → E.rt dv ds' → D.rt v H'
  bk : ∀ O' ds' σ' H', HS O H O' H' → Rep K F H' O' σ' ds' → E.bk ds' → D.bk σ' H'
  ct : ∀ O' ds' σ' H', HS O H O' H' → Rep K F H' O' σ' ds' → E.ct ds' → D.ct σ' H'
def liftS (K : Fg) (F : Fx) (t : DTS) : TS := fun D σ H => ∃ O ds E, Rep K F H O σ ds ∧ t E ds ∧ Ok K F O H E D
abbrev DSt (X : Cx) (F : Fx) (st : Stmt) (t : DTS) : Prop := PS X st (liftS X.K F t)
abbrev DSs (X : Cx) (F : Fx) (st : List Stmt) (t : DTS) : Prop := PSs X st (liftS X.K F t)
section
variable {K : Fg} {F : Fx} {H H1 H2 : Hp} {O O1 O2 : List Addr} {σ : St} {ds ds1 : DS} {E : DEn} {D : Ends}
theorem HS.refl : HS O H O H := ⟨fun _ _ h _ => h, grow_refl, fun _ h => h⟩
theorem HS.trans (a : HS O H O1 H1) (b : HS O1 H1 O2 H2) : HS O H O2 H2 where
  kp := fun x o h n => b.kp x o (a.kp x o h n) fun z => by
    rcases a.gr x z with q | q
    · exact n q
    · rw [h] at q; cases q
  gr := fun p hp => by
    rcases b.gr p hp with h | h
    · exact a.gr p h
    · right
      cases e : H p with
      | none => rfl
      | some o => exact absurd h (a.dm p (by rw [e]; simp))
  dm := fun x h => b.dm x (a.dm x h)
theorem Step.hs (R : Rep K F H O σ ds) (s : Step σ H O ds H1 O1 ds1) : HS O H O1 H1 := ⟨s.keepO R, s.o1, s.dm⟩
theorem Ok.later (k : Ok K F O H E D) (h : HS O H O1 H1) : Ok K F O1 H1 E D :=
  ⟨fun O' ds' σ' H' a => k.nx O' ds' σ' H' (h.trans a), fun O' ds' σ' H' v dv a => k.rt O' ds' σ' H' v dv (h.trans a), fun O' ds' σ' H' a => k.bk O' ds' σ' H' (h.trans a), fun O' ds' σ' H' a => k.ct O' ds' σ' H' (h.trans a)⟩
end
section
variable {X : Cx} {F : Fx} {e c : Expr} {st : Stmt} {sts sts' : List Stmt} {te : DTE} {t u : DTS} {pos : Pos}
def dNext : DTS := fun E ds => E.nx ds
def dSeq (t u : DTS) : DTS := fun E ds => t { E with nx := u E } ds
theorem dss_nil : DSs X F [] dNext := PSs_imp pss_nil fun D σ H ⟨O, ds, E, R, ht, k⟩ => k.nx O ds σ H HS.refl R ht
theorem dss_cons (h1 : DSt X F st t) (h2 : DSs X F sts u) : DSs X F (st :: sts) (dSeq t u) := PSs_imp (pss_cons h1 h2) fun D σ H ⟨O, ds, E, R, ht, k⟩ =>
  ⟨O, ds, _, R, ht, ⟨fun O' ds' σ' H' a R' h => ⟨O', ds', E, R', h, k.later a⟩, k.rt, k.bk, k.ct⟩⟩
theorem dss_one (h1 : DSt X F st t) : DSs X F [st] t := pss_one h1
theorem ds_pass : DSt X F (.Pass pos) dNext := PS_imp ps_pass fun D σ H ⟨O, ds, E, R, ht, k⟩ => k.nx O ds σ H HS.refl R ht
def dBreak : DTS := fun E ds => E.bk ds
def dCont : DTS := fun E ds => E.ct ds
theorem ds_break : DSt X F (.Break pos) dBreak := PS_imp ps_break fun D σ H ⟨O, ds, E, R, ht, k⟩ => k.bk O ds σ H HS.refl R ht
theorem ds_continue : DSt X F (.Continue pos) dCont := PS_imp ps_continue fun D σ H ⟨O, ds, E, R, ht, k⟩ => k.ct O ds σ H HS.refl R ht
theorem ds_never : DSt X F st (fun _ _ => False) := PS_imp ps_never fun D σ H ⟨O, ds, E, R, ht, k⟩ => ht
def dIfS (c : DTT) (t u : DTS) : DTS := fun E ds => c ds fun b ds1 => match b with
  | true => t E ds1
  | false => u E ds1
theorem ds_if {tc : DTT} (hc : DT X F c tc) (ha : DSs X F sts t) (hb : DSs X F sts' u) : DSt X F (.If c sts sts' pos) (dIfS tc t u) := PS_imp (ps_if hc ha hb) fun D σ H ⟨O, ds, E, R, ht, k⟩ =>
  ⟨O, ds, _, R, ht, fun b ds1 H1 O1 s1 R1 hx => by
    cases b with
    | true => exact iteT ⟨O1, ds1, E, R1, hx, k.later (s1.hs R)⟩
    | false => exact iteF ⟨O1, ds1, E, R1, hx, k.later (s1.hs R)⟩⟩
def dDrop (te : DTE) : DTS := fun E ds => te ds fun _ ds1 => E.nx ds1
theorem ds_expr (he : DE X F e te) (hs : swapsWith e none pos.line X.env = pure false := by rfl) : DSt X F (.Expr e pos) (dDrop te) := PS_imp (ps_expr he hs) fun D σ H ⟨O, ds, E, R, ht, k⟩ =>
  ⟨O, ds, _, R, ht, fun x ds1 v H1 O1 s1 R1 rx hx => k.nx O1 ds1 σ H1 (s1.hs R) R1 hx⟩
def retV (ds : DS) : DV → Option DV
  | .d x => some (.d x)
  | .own xs => some (.own xs)
  | .box => none
  | .slot i => match ds.sl[i]? with
    | some (some (.d x)) => some (.d x)
    | some (some (.own xs)) => some (.own xs)
    | _ => none
  | .exc _ _ => none
def dRet (te : DTE) : DTS := fun E ds => te ds fun x ds1 => match retV ds1 x with
  | some r => E.rt r ds1
  | none => False
theorem RpV.ret {K : Fg} {H : Hp} {O O' : List Addr} {σ : St} {ds : DS} {v : V} {dv r : DV} (R : Rep K F H O' σ ds) (h : RpV K F H O O' σ ds v dv) (e : retV ds dv = some r) : RpR K F H v r := by
  have own : ∀ p vs xs, v = .ref p → F.Hin p = none → p ∈ O' → H p = some (.lst vs) → RpL K H O' vs xs → RpR K F H v (.own xs) := fun p vs xs ev hi ho hp hl =>
    ⟨p, vs, ev, hi, hp, RpL.less R.lo (fun q hq => by
      rcases List.mem_cons.mp hq with z | z
      · rw [z]; exact ho
      · exact R.sub q z) hl⟩
  cases dv with
  | exc xa xb => first | exact h.elim | exact hw.elim | exact hr.elim | exact rr.elim | exact rx.elim | exact h3.elim | exact c3.elim | exact c.elim | exact hab.elim | exact q.elim | (simp [peek] at hp; done) | (simp [frz] at e; done) | (simp [frz] at e1; done) | (simp [argOf] at ax; done) | (simp [argOf] at e1; done) | (simp [isBx] at hab; done) | (simp [argOf] at h; done) | (simp [peek] at e; done) | (simp [isBx] at hbx; done) | exact h | exact hw | exact r | (cases e; done) | (cases e2; done) | rfl | (simp at e; done) | (simp at h; done)
  | d x => cases e; exact Rp.less R.lo R.sub h
  | own xs =>
    cases e
    obtain ⟨p, vs, ev, h1, h2, h3, h4, h5⟩ := h
    exact own p vs xs ev h3 h1 h4 h5
  | box => cases e
  | slot i =>
    obtain ⟨h1, dw, h2⟩ := h
    obtain ⟨w, e1, q⟩ := R.sl i dw h2
    rw [h1] at e1; cases e1
    simp only [retV, h2] at e
    cases dw with
    | exc xa xb => first | exact h.elim | exact hw.elim | exact hr.elim | exact rr.elim | exact rx.elim | exact h3.elim | exact c3.elim | exact c.elim | exact hab.elim | exact q.elim | (simp [peek] at hp; done) | (simp [frz] at e; done) | (simp [frz] at e1; done) | (simp [argOf] at ax; done) | (simp [argOf] at e1; done) | (simp [isBx] at hab; done) | (simp [argOf] at h; done) | (simp [peek] at e; done) | (simp [isBx] at hbx; done) | exact h | exact hw | exact r | (cases e; done) | (cases e2; done) | rfl | (simp at e; done) | (simp at h; done)
    | d x => cases e; exact Rp.less R.lo R.sub q
    | own xs =>
      cases e
      obtain ⟨p, vs, ev, a1, a2, a3⟩ := q
      subst ev
      exact own p vs xs rfl (R.newO i p xs h1 h2) a1 a2 a3
    | box => cases e
    | slot j => cases e
theorem ds_ret (he : DE X F e te) : DSt X F (.Return (some e) pos) (dRet te) := PS_imp (ps_ret he) fun D σ H ⟨O, ds, E, R, ht, k⟩ =>
  ⟨O, ds, _, R, ht, fun x ds1 v H1 O1 s1 R1 rx hx => by
    cases e : retV ds1 x with
    | none => rw [e] at hx; exact hx.elim
    | some r =>
      rw [e] at hx
      exact k.rt O1 ds1 σ H1 v r (s1.hs R) R1 (RpV.ret R1 rx e) hx⟩
def dRetN : DTS := fun E ds => E.rt (.d .none) ds
theorem ds_retN : DSt X F (.Return none pos) dRetN := PS_imp ps_retN fun D σ H ⟨O, ds, E, R, ht, k⟩ => k.rt O ds σ H .non (.d .none) HS.refl R .non ht
/-! a name is stored -/
def putV (ds : DS) (i : Nat) : DV → Option DS
  | .own xs => some ⟨ds.sl.set i (some (.own xs)), ds.n⟩
  | x => match frz ds x with
    | some (d, ds') => some ⟨ds'.sl.set i (some (.d d)), ds'.n⟩
    | none => none
theorem Rep.setD {K : Fg} {H : Hp} {O : List Addr} {σ : St} {ds : DS} {v : V} {d : D} (R : Rep K F H O σ ds) (i : Nat) (h : Rp K H O v d) : Rep K F H O (σ.set i (some v)) ⟨ds.sl.set i (some (.d d)), ds.n⟩ := by
  have mut_of : ∀ j q, MutAt (σ.set i (some v)) ⟨ds.sl.set i (some (.d d)), ds.n⟩ j q → MutAt σ ds j q := fun j q ⟨a, dv, b, c⟩ => by
    rcases sl_set_of b with ⟨e1, e2⟩ | ⟨e1, e2⟩
    · subst e2; exact c.elim
    · rw [List.getElem?_set_ne e1] at a
      exact ⟨a, dv, e2, c⟩
  have box_of : ∀ j q, BoxS (σ.set i (some v)) ⟨ds.sl.set i (some (.d d)), ds.n⟩ j q → BoxS σ ds j q := fun j q ⟨a, b⟩ => by
    rcases sl_set_of b with ⟨e1, e2⟩ | ⟨e1, e2⟩
    · cases e2
    · rw [List.getElem?_set_ne e1] at a
      exact ⟨a, e2⟩
  refine ⟨R.lo, R.sub, R.ext, fun j dv hj => ?_, fun j k q a b => R.mu j k q (mut_of j q a) (mut_of k q b), fun j q a => R.new j q (mut_of j q a), fun j q ys a b => ?_, R.bx, fun j q hb => R.bu j q (box_of j q hb), fun j k q r h1 h2 => R.b1 j k q r (box_of j q h1) (box_of k r h2), R.fo, R.bo, by simpa using R.len⟩
  · rcases sl_set_of hj with ⟨e1, e2⟩ | ⟨e1, e2⟩
    · subst e1 e2
      have hi : i < σ.length := by
        have q := (List.getElem?_eq_some_iff.mp hj).1
        have := R.len
        simp at q
        omega
      exact ⟨v, by rw [List.getElem?_set_self hi], h⟩
    · obtain ⟨w, ew, r⟩ := R.sl j dv e2
      exact ⟨w, by rw [List.getElem?_set_ne e1]; exact ew, r⟩
  · rcases sl_set_of b with ⟨e1, e2⟩ | ⟨e1, e2⟩
    · cases e2
    · rw [List.getElem?_set_ne e1] at a
      exact R.newO j q ys a e2
theorem Rep.setO {K : Fg} {H : Hp} {O : List Addr} {σ : St} {ds : DS} {p : Addr} {vs : List V} {xs : List D} (R : Rep K F H O σ ds) (i : Nat) (ho : p ∈ O) (hn : F.Hin p = none) (hm : ∀ j, ¬ MutAt σ ds j p) (hp : H p = some (.lst vs)) (hl : RpL K H O vs xs) : Rep K F H O (σ.set i (some (.ref p))) ⟨ds.sl.set i (some (.own xs)), ds.n⟩ := by
  have mut_of : ∀ j q, MutAt (σ.set i (some (.ref p))) ⟨ds.sl.set i (some (.own xs)), ds.n⟩ j q → (j = i ∧ q = p) ∨ (j ≠ i ∧ MutAt σ ds j q) := fun j q ⟨a, dv, b, c⟩ => by
    rcases sl_set_of b with ⟨e1, e2⟩ | ⟨e1, e2⟩
    · subst e1
      have hi : i < σ.length := by have := (List.getElem?_eq_some_iff.mp a).1; simpa using this
      rw [List.getElem?_set_self hi] at a
      cases a
      exact .inl ⟨rfl, rfl⟩
    · rw [List.getElem?_set_ne e1] at a
      exact .inr ⟨fun z => e1 z.symm, a, dv, e2, c⟩
  have box_of : ∀ j q, BoxS (σ.set i (some (.ref p))) ⟨ds.sl.set i (some (.own xs)), ds.n⟩ j q → BoxS σ ds j q := fun j q ⟨a, b⟩ => by
    rcases sl_set_of b with ⟨e1, e2⟩ | ⟨e1, e2⟩
    · cases e2
    · rw [List.getElem?_set_ne e1] at a
      exact ⟨a, e2⟩
  refine ⟨R.lo, R.sub, R.ext, fun j dv hj => ?_, fun j k q a b => ?_, fun j q a => ?_, fun j q ys a b => ?_, R.bx, fun j q hb => R.bu j q (box_of j q hb), fun j k q r h1 h2 => R.b1 j k q r (box_of j q h1) (box_of k r h2), R.fo, R.bo, by simpa using R.len⟩
  · rcases sl_set_of hj with ⟨e1, e2⟩ | ⟨e1, e2⟩
    · subst e1 e2
      have hi : i < σ.length := by
        have q := (List.getElem?_eq_some_iff.mp hj).1
        have := R.len
        simp at q
        omega
      exact ⟨_, by rw [List.getElem?_set_self hi], p, vs, rfl, ho, hp, hl⟩
    · obtain ⟨w, ew, r⟩ := R.sl j dv e2
      exact ⟨w, by rw [List.getElem?_set_ne e1]; exact ew, r⟩
  · rcases mut_of j q a with ⟨a1, a2⟩ | ⟨a1, a2⟩
    · rcases mut_of k q b with ⟨b1, b2⟩ | ⟨b1, b2⟩
      · omega
      · subst a2; exact absurd b2 (hm k)
    · rcases mut_of k q b with ⟨b1, b2⟩ | ⟨b1, b2⟩
      · subst b2; exact absurd a2 (hm j)
      · exact R.mu j k q a2 b2
  · rcases mut_of j q a with ⟨a1, a2⟩ | ⟨a1, a2⟩
    · subst a2; exact .inl hn
    · exact R.new j q a2
  · rcases sl_set_of b with ⟨e1, e2⟩ | ⟨e1, e2⟩
    · subst e1
      have hi : i < σ.length := by have := (List.getElem?_eq_some_iff.mp a).1; simpa using this
      rw [List.getElem?_set_self hi] at a
      cases a
      exact hn
    · rw [List.getElem?_set_ne e1] at a
      exact R.newO j q ys a e2
/-- storing a value in a slot -/
theorem put_ok {K : Fg} {H H1 : Hp} {O O1 : List Addr} {σ : St} {ds ds1 ds2 : DS} {v : V} {x : DV} {i : Nat} (R : Rep K F H O σ ds) (s1 : Step σ H O ds H1 O1 ds1) (R1 : Rep K F H1 O1 σ ds1) (rx : RpV K F H1 O O1 σ ds1 v x) (e : putV ds1 i x = some ds2) :
    ∃ O2, HS O H O2 H1 ∧ Rep K F H1 O2 (σ.set i (some v)) ds2 := by
  have gen : (∃ d ds', frz ds1 x = some (d, ds') ∧ ds2 = ⟨ds'.sl.set i (some (.d d)), ds'.n⟩) → ∃ O2, HS O H O2 H1 ∧ Rep K F H1 O2 (σ.set i (some v)) ds2 := fun ⟨d, ds', e1, e2⟩ => by
    subst e2
    obtain ⟨O2, s2, R2, r, _, _⟩ := frz_ok R s1 R1 rx e1
    exact ⟨O2, s2.hs R, R2.setD i r⟩
  have gen2 : (∀ xs, x ≠ .own xs) → ∃ O2, HS O H O2 H1 ∧ Rep K F H1 O2 (σ.set i (some v)) ds2 := fun hne => by
    refine gen ?_
    cases x with
    | own xs => exact absurd rfl (hne xs)
    | exc xa xb => first | exact h.elim | exact hw.elim | exact hr.elim | exact rr.elim | exact rx.elim | exact h3.elim | exact c3.elim | exact c.elim | exact hab.elim | exact q.elim | (simp [peek] at hp; done) | (simp [frz] at e; done) | (simp [frz] at e1; done) | (simp [argOf] at ax; done) | (simp [argOf] at e1; done) | (simp [isBx] at hab; done) | (simp [argOf] at h; done) | (simp [peek] at e; done) | (simp [isBx] at hbx; done) | exact h | exact hw | exact r | (cases e; done) | (cases e2; done) | rfl | (simp at e; done) | (simp at h; done)
    | d y => simp only [putV, frz, Option.some.injEq] at e; exact ⟨y, ds1, rfl, e.symm⟩
    | box => simp [putV, frz] at e
    | slot j =>
      simp only [putV] at e
      cases e1 : frz ds1 (.slot j) with
      | none => rw [e1] at e; simp at e
      | some q =>
        obtain ⟨d, ds'⟩ := q
        rw [e1] at e
        simp only [Option.some.injEq] at e
        exact ⟨d, ds', rfl, e.symm⟩
  cases x with
  | own xs =>
    simp only [putV, Option.some.injEq] at e
    subst e
    obtain ⟨p, vs, ev, h1, h2, h3, h4, h5⟩ := rx
    subst ev
    exact ⟨O1, s1.hs R, R1.setO i h1 h3 (fun j hj => h2 (s1.mutO R p ⟨j, hj⟩)) h4 h5⟩
  | exc xa xb => first | exact h.elim | exact hw.elim | exact hr.elim | exact rr.elim | exact rx.elim | exact h3.elim | exact c3.elim | exact c.elim | exact hab.elim | exact q.elim | (simp [peek] at hp; done) | (simp [frz] at e; done) | (simp [frz] at e1; done) | (simp [argOf] at ax; done) | (simp [argOf] at e1; done) | (simp [isBx] at hab; done) | (simp [argOf] at h; done) | (simp [peek] at e; done) | (simp [isBx] at hbx; done) | exact h | exact hw | exact r | (cases e; done) | (cases e2; done) | rfl | (simp at e; done) | (simp at h; done)
  | d y => exact gen2 fun _ => nofun
  | box => exact gen2 fun _ => nofun
  | slot j => exact gen2 fun _ => nofun
def dSet (i : Nat) (te : DTE) : DTS := fun E ds => te ds fun x ds1 => match putV ds1 i x with
  | some ds2 => E.nx ds2
  | none => False
theorem ds_asg {i : Nat} {st : Stmt} (h : PS X st (tAsg (lift X.K F te) (gName i))) : DSt X F st (dSet i te) := PS_imp h fun D σ H ⟨O, ds, E, R, ht, k⟩ =>
  ⟨O, ds, _, R, ht, fun x ds1 v H1 O1 s1 R1 rx hx => by
    cases e : putV ds1 i x with
    | none => rw [e] at hx; exact hx.elim
    | some ds2 =>
      rw [e] at hx
      obtain ⟨O2, hs, R2⟩ := put_ok R s1 R1 rx e
      exact k.nx O2 ds2 _ H1 hs R2 hx⟩
theorem ds_set {i : Nat} {x : Str} {pos' : Pos} (hN : X.N.Nodup) (hi : X.N[i]? = some x) (hx : Loc X.env.scope x) (he : DE X F e te) (hs : swapsWith e (some (.Name x pos')) pos.line X.env = pure false := by rfl)
    (hf : X.fn x = true ∨ X.env.scope.names.lookup x = some .local := by first | exact .inl rfl | exact .inr rfl | assumption) : DSt X F (.Assign [.Name x pos'] e pos) (dSet i te) := ds_asg (ps_set hN hi hx he hs hf)
/-! while -/
def dWhile (c : DTT) (tb : DTS) : DTS := fun E ds => ∃ W : Nat → DS → Prop, (∃ m, W m ds) ∧ ∀ m ds, W m ds → c ds fun b ds1 => match b with
  | true => tb { E with nx := fun ds' => ∃ m', m' < m ∧ W m' ds', ct := fun ds' => ∃ m', m' < m ∧ W m' ds', bk := E.nx } ds1
  | false => E.nx ds1
theorem ds_while {tc : DTT} (hp : PassesOwn (model X.prog X.w) X.A X.env X.xe) (hc : DT X F c tc) (hb : DSs X F sts t) : DSt X F (.While c sts [] pos) (dWhile tc t) := PS_imp (ps_while hp hc hb) fun D σ H ⟨O, ds, E, R, ht, k⟩ => by
  obtain ⟨W, ⟨m, w0⟩, turn⟩ := ht
  refine ⟨fun m σ' H' => ∃ O' ds', HS O H O' H' ∧ Rep X.K F H' O' σ' ds' ∧ W m ds', ⟨m, O, ds, HS.refl, R, w0⟩, ?_⟩
  rintro m σ1 H1 ⟨O1, ds1, h1, R1, w1⟩
  refine ⟨O1, ds1, _, R1, turn m ds1 w1, fun b ds2 H2 O2 s2 R2 hx => ?_⟩
  have h2 := h1.trans (s2.hs R1)
  cases b with
  | true =>
    refine iteT ⟨fun σ' H' => ∃ m', m' < m ∧ ∃ O' ds', HS O H O' H' ∧ Rep X.K F H' O' σ' ds' ∧ W m' ds', fun σ' H' ⟨m', lt, w⟩ => ⟨m', lt, w⟩, O2, ds2, _, R2, hx, ?_⟩
    exact ⟨fun O' ds' σ' H' a R' ⟨m', lt, w⟩ => ⟨m', lt, O', ds', h2.trans a, R', w⟩, (k.later h2).rt, fun O' ds' σ' H' a R' q => (k.later h2).nx O' ds' σ' H' a R' q, fun O' ds' σ' H' a R' ⟨m', lt, w⟩ => ⟨m', lt, O', ds', h2.trans a, R', w⟩⟩
  | false => exact iteF ((k.later h2).nx O2 ds2 σ1 H2 HS.refl R2 hx)
end
end SF

/-! SL5: what is walked, targets, for, comprehensions. -/
namespace SF
open PySem PySem.Spec PyProof.Rows L2

theorem PI_imp {X : Cx} {tg it : Expr} {t t' : TI} (h : PI X tg it t) (hi : ∀ σ H R, t' σ H R → t σ H R) : PI X tg it t' := ⟨fun pins s σ H R I q => h.run pins s σ H R I (hi _ _ _ q)⟩
/-- an item: strong (as data), or as far as it can be looked at -/
def Im (s : Bool) (K : Fg) (H : Hp) (O : List Addr) (v : V) (d : D) : Prop := match s with
  | true => Rp K H O v d
  | false => ∃ a vs xs, v = .ref a ∧ d = .tuple xs ∧ SqT K H a vs ∧ RpL K H O vs xs
theorem Im.tuple {s : Bool} {K : Fg} {H : Hp} {O : List Addr} {v : V} {xs : List D} (h : Im s K H O v (.tuple xs)) : ∃ a vs, v = .ref a ∧ SqT K H a vs ∧ RpL K H O vs xs := by
  cases s with
  | true => exact Vw.tuple (.inl h)
  | false =>
    obtain ⟨a, vs, ys, e, e2, h1, h2⟩ := h
    cases e2
    exact ⟨a, vs, e, h1, h2⟩
theorem Im.list {s : Bool} {K : Fg} {H : Hp} {O : List Addr} {v : V} {xs : List D} (h : Im s K H O v (.list xs)) : ∃ a vs, v = .ref a ∧ H a = some (.lst vs) ∧ RpL K H O vs xs := by
  cases s with
  | true => exact Vw.list (.inl h)
  | false =>
    obtain ⟨a, vs, ys, e, e2, h1, h2⟩ := h
    cases e2
structure ItOk (s : Bool) (K : Fg) (J : It) (its : List D) (O : List Addr) (H : Hp) : Prop where
  len : its.length ≤ sizeLine
  go : ∀ H2 O2, LO O2 H2 → HS O H O2 H2 → ∀ i, i < its.length → J.go i H2 ∧ ∀ x H3, J.yld i H2 x H3 → ∃ d, its[i]? = some d ∧ Same H2 H3 ∧ Im s K H3 O2 x d
  stop : ∀ H2 O2, LO O2 H2 → HS O H O2 H2 → J.stop its.length H2
abbrev DTI := DS → (List D → DS → Prop) → Prop
def liftI (s : Bool) (K : Fg) (F : Fx) (w : DTI) : TI := fun σ H R => ∃ O ds Qa, Rep K F H O σ ds ∧ w ds Qa ∧
  ∀ its ds' H' O' J, Step σ H O ds H' O' ds' → Rep K F H' O' σ ds' → ItOk s K J its O' H' → Qa its ds' → R J H'
abbrev DI (s : Bool) (X : Cx) (F : Fx) (tg it : Expr) (w : DTI) : Prop := PI X tg it (liftI s X.K F w)
/-! ### sequences -/
section
variable {X : Cx} {F : Fx} {tg e a b : Expr} {te : DTE} {ta : DTA} {p pos : Pos}
def iSq (K : Fg) (tl : TE) : TI := fun σ H R => tl σ H fun x H1 => ∃ a xs, x = .ref a ∧ ((SqL K H1 a xs ∧ (xs.length ≤ sizeLine → R (Itl K a) H1)) ∨ (SqT K H1 a xs ∧ (xs.length ≤ sizeLine → R (Itt K a) H1)))
theorem pi_sq {l : Expr} {tl : TE} (hl : PE X l tl) : PI X tg l (iSq X.K tl) := by
  constructor
  intro pins s σ H R I h
  refine thn (hl.run pins s σ H _ I h) ?_
  rintro v s1 ⟨x, H1, I1, r1, a, xs, e, q⟩
  subst e
  cases r1
  have fp : ∀ b ∈ [s1.heap.objs.size], FpOk X pins H1 b := fun b hb => by
    obtain rfl : b = s1.heap.objs.size := by simpa using hb
    exact I1.fpOk (Nat.le_refl _) I1.fresh
  rcases q with ⟨hs, q⟩ | ⟨hs, q⟩
  · obtain ⟨its, rv, pl, hz⟩ := I1.list hs
    exact wpAny_pyIter_list pl.isList ⟨_, [s1.heap.objs.size], _, _, H1, rfl, I1.kept (t' := s1.toks) (fun b o e => Heap.get?_push_of_some _ e), turn_list a _, ⟨_, Heap.get?_push_size _ rfl, rfl, rfl⟩, fp, q hz⟩
  · obtain ⟨its, rv, pl, hz⟩ := I1.tuple hs
    exact wpAny_pyIter_tuple (show s1.heap.IsTuple a its.toArray from pl) ⟨_, [s1.heap.objs.size], _, _, H1, rfl, I1.kept (t' := s1.toks) (fun b o e => Heap.get?_push_of_some _ e), turn_tuple a _, ⟨_, Heap.get?_push_size _ rfl, rfl, rfl⟩, fp, q hz⟩
def seqD : D → Option (List D)
  | .list xs => some xs
  | .tuple xs => some xs
  | _ => none
def dSq (te : DTE) : DTI := fun ds Q => te ds fun x ds1 => match frz ds1 x with
  | some (.list xs, ds2) => Q xs ds2
  | some (.tuple xs, ds2) => Q xs ds2
  | _ => False
theorem hs_rp {K : Fg} {H H2 : Hp} {O O2 : List Addr} {v : V} {d : D} (lo : LO O H) (h : HS O H O2 H2) (r : Rp K H O v d) : Rp K H2 O2 v d := Rp.mv lo h.kp h.gr r
theorem hs_ex {K : Fg} {H H2 : Hp} {O O2 : List Addr} {v : V} {nm : Str} {fo : Option (Str × D)} (lo : LO O H) (h : HS O H O2 H2) (r : ExS K H O v nm fo) : ExS K H2 O2 v nm fo := ExS.mv lo h.kp h.gr r
theorem hs_rpl {K : Fg} {H H2 : Hp} {O O2 : List Addr} {vs : List V} {xs : List D} (lo : LO O H) (h : HS O H O2 H2) (r : RpL K H O vs xs) : RpL K H2 O2 vs xs := RpL.mv lo h.kp h.gr r
theorem itok_list {K : Fg} {H : Hp} {O : List Addr} {a : Addr} {vs : List V} {xs : List D} (lo : LO O H) (h : LsA H O a vs) (r : RpL K H O vs xs) (hz : vs.length ≤ sizeLine) : ItOk true K (Itl K a) xs O H where
  len := by have := r.length; omega
  go := fun H2 O2 lo2 hs i hi => by
    have h2 : SqL K H2 a vs := .inl (.inl (hs.kp a _ h.1 h.2))
    have r2 := hs_rpl lo hs r
    obtain ⟨v, ev, rv⟩ := r2.get (List.getElem?_eq_getElem hi)
    refine ⟨⟨vs, v, h2, ev⟩, fun x H3 ⟨e1, e2⟩ => ?_⟩
    subst e1
    have := e2 vs h2
    rw [ev] at this; cases this
    exact ⟨_, List.getElem?_eq_getElem hi, Same.refl _, rv⟩
  stop := fun H2 O2 lo2 hs => ⟨vs, .inl (.inl (hs.kp a _ h.1 h.2)), by have := r.length; omega⟩
theorem itok_tuple {K : Fg} {H : Hp} {O : List Addr} {a : Addr} {vs : List V} {xs : List D} (lo : LO O H) (h : SqT K H a vs) (r : RpL K H O vs xs) (hz : vs.length ≤ sizeLine) : ItOk true K (Itt K a) xs O H where
  len := by have := r.length; omega
  go := fun H2 O2 lo2 hs i hi => by
    have h2 : SqT K H2 a vs := SqT.mv lo hs.kp h
    have r2 := hs_rpl lo hs r
    obtain ⟨v, ev, rv⟩ := r2.get (List.getElem?_eq_getElem hi)
    refine ⟨⟨vs, v, h2, ev⟩, fun x H3 ⟨e1, e2⟩ => ?_⟩
    subst e1
    have := e2 vs h2
    rw [ev] at this; cases this
    exact ⟨_, List.getElem?_eq_getElem hi, Same.refl _, rv⟩
  stop := fun H2 O2 lo2 hs => ⟨vs, SqT.mv lo hs.kp h, by have := r.length; omega⟩
theorem di_sq (h : DE X F e te) : DI true X F tg e (dSq te) := PI_imp (pi_sq h) fun σ H Q ⟨O, ds, Qa, R, ht, hq⟩ => ⟨O, ds, _, R, ht, fun x ds1 v H1 O1 s1 R1 rx hx => by
  split at hx
  · rename_i xs ds2 e
    obtain ⟨O2, s2, R2, r, _, _⟩ := frz_ok R s1 R1 rx e
    cases r with
    | lst hl rl => exact ⟨_, _, rfl, .inl ⟨.inl (.inl hl.1), fun hz => hq xs ds2 H1 O2 _ s2 R2 (itok_list R2.lo hl rl hz) hx⟩⟩
  · rename_i xs ds2 e
    obtain ⟨O2, s2, R2, r, _, _⟩ := frz_ok R s1 R1 rx e
    cases r with
    | tup hl rl => exact ⟨_, _, rfl, .inr ⟨TpA.seq hl, fun hz => hq xs ds2 H1 O2 _ s2 R2 (itok_tuple R2.lo (TpA.seq hl) rl hz) hx⟩⟩
  · exact hx.elim⟩
def rangeD (lo : Int) (n : Nat) : List D := (List.range n).map fun i => .int (lo + (i : Nat))
theorem rangeD_get {lo : Int} {n i : Nat} (h : i < n) : (rangeD lo n)[i]? = some (.int (lo + (i : Nat))) := by
  unfold rangeD
  rw [List.getElem?_map, List.getElem?_range h]
  rfl
theorem rangeD_len {lo : Int} {n : Nat} : (rangeD lo n).length = n := by unfold rangeD; simp
theorem itok_range {K : Fg} {H : Hp} {O : List Addr} {lo : Int} {n : Nat} (hn : n ≤ 16777216) : ItOk true K (Itr lo n) (rangeD lo n) O H where
  len := by rw [rangeD_len, sizeLine_eq]; exact hn
  go := fun H2 O2 lo2 hs i hi => by
    rw [rangeD_len] at hi
    refine ⟨hi, fun x H3 ⟨e1, e2⟩ => ?_⟩
    subst e1 e2
    exact ⟨_, rangeD_get hi, Same.refl _, .int _⟩
  stop := fun H2 O2 lo2 hs => by rw [rangeD_len]; exact Nat.le_refl _
def dRng1 (ta : DTA) : DTI := fun ds Q => ta ds fun xs ds1 => match peekL ds1 xs with
  | some [.int j] => j ≤ 16777216 ∧ -4611686018427387904 ≤ j ∧ Q (rangeD 0 j.toNat) ds1
  | _ => False
def dRng2 (ta : DTA) : DTI := fun ds Q => ta ds fun xs ds1 => match peekL ds1 xs with
  | some [.int i, .int j] => (j - i ≤ 16777216 ∧ -4611686018427387904 ≤ i ∧ i < 4611686018427387904 ∧ -4611686018427387904 ≤ j ∧ j < 4611686018427387904) ∧ Q (rangeD i (j - i).toNat) ds1
  | _ => False
theorem di_range1 (hg : Gl X "range") (hm : X.mg "range" = none) (ha : DA X F [a] ta) (hs : starEach [a] X.env = [(false, eval a X.env)] := by rfl) : DI true X F tg (.Call (.Name "range" p) [a] [] pos) (dRng1 ta) :=
  PI_imp (pi_range1 hg hm ha hs) fun σ H Q ⟨O, ds, Qa, R, ht, hq⟩ => ⟨O, ds, _, R, ht, fun xs ds1 vs H1 O1 s1 R1 rx hx => by
    split at hx
    · rename_i j e
      have w := RpVs.vw R1 rx.1 e
      cases w with
      | cons w1 w2 =>
        cases w2
        rw [w1.int]
        refine ⟨j, rfl, by omega, by omega, hq _ ds1 H1 O1 _ s1 R1 (itok_range (by omega)) hx.2.2⟩
    · exact hx.elim⟩
theorem di_range2 (hg : Gl X "range") (hm : X.mg "range" = none) (ha : DA X F [a, b] ta) (hs : starEach [a, b] X.env = [(false, eval a X.env), (false, eval b X.env)] := by rfl) (hs2 : starEach [b] X.env = [(false, eval b X.env)] := by rfl) : DI true X F tg (.Call (.Name "range" p) [a, b] [] pos) (dRng2 ta) :=
  PI_imp (pi_range2 hg hm ha hs hs2) fun σ H Q ⟨O, ds, Qa, R, ht, hq⟩ => ⟨O, ds, _, R, ht, fun xs ds1 vs H1 O1 s1 R1 rx hx => by
    split at hx
    · rename_i i j e
      have w := RpVs.vw R1 rx.1 e
      cases w with
      | cons w1 w2 =>
        cases w2 with
        | cons w2 w3 =>
          cases w3
          rw [w1.int, w2.int]
          refine ⟨i, j, rfl, by omega, hq _ ds1 H1 O1 _ s1 R1 (itok_range (by omega)) hx.2⟩
    · exact hx.elim⟩
end
/-! ### targets -/
abbrev DTG := D → DS → (DS → Prop) → Prop
abbrev DTGs := List D → DS → (DS → Prop) → Prop
/-- only the slots T change -/
def Only' (T : List Nat) (σ σ' : St) : Prop := σ'.length = σ.length ∧ ∀ i : Nat, i ∉ T → σ'[i]? = σ[i]?
structure TgS (O : List Addr) (H : Hp) (O' : List Addr) (σ : St) (ds : DS) (σ' : St) (ds' : DS) : Prop where
  hs : HS O H O' H
  sub : ∀ p ∈ O, p ∈ O'
  mu : ∀ j p, MutAt σ' ds' j p → MutAt σ ds j p
  bx : ∀ j p, BoxS σ' ds' j p → BoxS σ ds j p
  n : ds'.n = ds.n
  sl : ∀ (i : Nat) dv, ds.sl[i]? = some (some dv) → ∃ dv', ds'.sl[i]? = some (some dv')
theorem TgS.refl {O : List Addr} {H : Hp} {σ : St} {ds : DS} : TgS O H O σ ds σ ds := ⟨HS.refl, fun _ h => h, fun _ _ h => h, fun _ _ h => h, rfl, fun _ dv h => ⟨dv, h⟩⟩
theorem TgS.trans {O O1 O2 : List Addr} {H : Hp} {σ σ1 σ2 : St} {ds ds1 ds2 : DS} (a : TgS O H O1 σ ds σ1 ds1) (b : TgS O1 H O2 σ1 ds1 σ2 ds2) : TgS O H O2 σ ds σ2 ds2 :=
  ⟨a.hs.trans b.hs, fun p h => b.sub p (a.sub p h), fun j p h => a.mu j p (b.mu j p h), fun j p h => a.bx j p (b.bx j p h), b.n.trans a.n, fun i dv h => by obtain ⟨dv1, h1⟩ := a.sl i dv h; exact b.sl i dv1 h1⟩
def liftG (s : Bool) (T : List Nat) (K : Fg) (F : Fx) (g : DTG) : TG := fun v σ H Q => ∃ O ds d Qa, Rep K F H O σ ds ∧ Im s K H O v d ∧ g d ds Qa ∧ ∀ O' ds' σ', TgS O H O' σ ds σ' ds' → Rep K F H O' σ' ds' → Only' T σ σ' → Qa ds' → Q σ' H
abbrev DG (s : Bool) (T : List Nat) (X : Cx) (F : Fx) (tg : Expr) (g : DTG) : Prop := PG X tg (liftG s T X.K F g)
def liftGs (T : List Nat) (K : Fg) (F : Fx) (g : DTGs) : TGs := fun vs σ H Q => ∃ O ds xs Qa, Rep K F H O σ ds ∧ RpL K H O vs xs ∧ g xs ds Qa ∧ ∀ O' ds' σ', TgS O H O' σ ds σ' ds' → Rep K F H O' σ' ds' → Only' T σ σ' → Qa ds' → Q σ' H
abbrev DGs (T : List Nat) (X : Cx) (F : Fx) (es : List Expr) (g : DTGs) : Prop := PGs X es (liftGs T X.K F g)
theorem PGs_imp {X : Cx} {es : List Expr} {t t' : TGs} (h : PGs X es t) (hi : ∀ v σ H Q, t' v σ H Q → t v σ H Q) : PGs X es t' := ⟨fun pins s σ H v u Q I r q => h.run pins s σ H v u Q I r (hi _ _ _ _ q)⟩
section
variable {X : Cx} {F : Fx} {e : Expr} {es : List Expr} {pos : Pos}
def gdName (i : Nat) : DTG := fun d ds Q => Q ⟨ds.sl.set i (some (.d d)), ds.n⟩
theorem dg_of {i : Nat} (h : PG X e (gName i)) : DG true [i] X F e (gdName i) := PG_imp h fun v σ H Q ⟨O, ds, d, Qa, R, r, hg, hq⟩ =>
  hq O ⟨ds.sl.set i (some (.d d)), ds.n⟩ (σ.set i (some v)) ⟨HS.refl, fun _ h => h, fun j p ⟨a, dv, b, c⟩ => by
    rcases sl_set_of b with ⟨e1, e2⟩ | ⟨e1, e2⟩
    · subst e2; exact c.elim
    · rw [List.getElem?_set_ne e1] at a
      exact ⟨a, dv, e2, c⟩, fun j p ⟨a, b⟩ => by
    rcases sl_set_of b with ⟨e1, e2⟩ | ⟨e1, e2⟩
    · cases e2
    · rw [List.getElem?_set_ne e1] at a
      exact ⟨a, e2⟩, rfl, fun j dv h => by
    by_cases e : i = j
    · subst e
      exact ⟨.d d, by rw [List.getElem?_set_self (List.getElem?_eq_some_iff.mp h).1]⟩
    · exact ⟨dv, by rw [List.getElem?_set_ne e]; exact h⟩⟩ (R.setD i r) ⟨by simp, fun j hj => by rw [List.getElem?_set_ne (fun z => hj (by simp [z]))]⟩ hg
theorem dg_name {i : Nat} {x : Str} (hN : X.N.Nodup) (hi : X.N[i]? = some x) (hx : Loc X.env.scope x) (hf : X.fn x = true ∨ X.env.scope.names.lookup x = some .local := by first | exact .inl rfl | exact .inr rfl | assumption) : DG true [i] X F (.Name x pos) (gdName i) :=
  dg_of (pg_name hN hi hx hf)
def gdNil : DTGs := fun xs ds Q => match xs with
  | [] => Q ds
  | _ => False
def gdCons (g : DTG) (r : DTGs) : DTGs := fun xs ds Q => match xs with
  | x :: ys => g x ds fun ds1 => r ys ds1 Q
  | [] => False
theorem dgs_nil : DGs [] X F [] gdNil := PGs_imp pgs_nil fun vs σ H Q ⟨O, ds, xs, Qa, R, r, hg, hq⟩ => by
  cases xs with
  | nil => cases r; exact ⟨rfl, hq O ds σ TgS.refl R ⟨rfl, fun _ _ => rfl⟩ hg⟩
  | cons x ys => exact hg.elim
theorem dgs_cons {T T' : List Nat} {g : DTG} {r : DTGs} (h1 : DG true T X F e g) (h2 : DGs T' X F es r) (hs : (assignEach (e :: es) X.env).map (·.2) = assign e X.env :: (assignEach es X.env).map (·.2) := by rfl) : DGs (T ++ T') X F (e :: es) (gdCons g r) :=
  PGs_imp (pgs_cons h1 h2 hs) fun vs σ H Q ⟨O, ds, xs, Qa, R, rl, hg, hq⟩ => by
    cases xs with
    | nil => exact hg.elim
    | cons x ys =>
      cases rl with
      | cons rv rr =>
        refine ⟨_, _, rfl, O, ds, x, _, R, rv, hg, fun O1 ds1 σ1 a1 R1 l1 h1 => ⟨O1, ds1, ys, _, R1, hs_rpl R.lo a1.hs rr, h1, fun O2 ds2 σ2 a2 R2 l2 h2 => ?_⟩⟩
        refine hq O2 ds2 σ2 (a1.trans a2) R2 ⟨l2.1.trans l1.1, fun i hi => ?_⟩ h2
        rw [l2.2 i fun z => hi (List.mem_append_right _ z), l1.2 i fun z => hi (List.mem_append_left _ z)]
theorem PG_or {t u : TG} (h : PG X e t) (h' : PG X e u) : PG X e (fun v σ H Q => t v σ H Q ∨ u v σ H Q) := ⟨fun pins s σ H v w Q I r q => by
  rcases q with q | q
  · exact h.run pins s σ H v w Q I r q
  · exact h'.run pins s σ H v w Q I r q⟩
def eqLen (n m : Nat) (P : Prop) : Prop := match Nat.beq n m with
  | true => P
  | false => False
theorem eqLen_ok {n m : Nat} {P : Prop} (h : eqLen n m P) : n = m ∧ P := by
  unfold eqLen at h
  split at h
  · rename_i e; exact ⟨Nat.eq_of_beq_eq_true e, h⟩
  · exact h.elim
def gdTup (n : Nat) (g : DTGs) : DTG := fun d ds Q => match d with
  | .tuple xs => eqLen xs.length n (g xs ds Q)
  | .list xs => eqLen xs.length n (g xs ds Q)
  | _ => False
theorem dg_tup {s : Bool} {T : List Nat} {k n : Nat} {g : DTGs} (hc : X.calm = true) (h : DGs T X F es g) (hn : (assignEach es X.env).length = n := by rfl) (hst : (assignEach es X.env).findIdx? (·.1) = none := by rfl) : DG s T X F (.Tuple es k pos) (gdTup n g) :=
  PG_imp (PG_or (pg_tup hc h hn hst) (pg_unl hc h hn hst)) fun v σ H Q ⟨O, ds, d, Qa, R, r, hg, hq⟩ => by
    cases d with
    | tuple xs =>
      obtain ⟨p, vs, e, h1, h2⟩ := r.tuple
      obtain ⟨hl, hg⟩ := eqLen_ok hg
      exact .inl ⟨p, vs, e, h1, by rw [h2.length]; exact hl, O, ds, xs, Qa, R, h2, hg, hq⟩
    | list xs =>
      obtain ⟨p, vs, e, h1, h2⟩ := r.list
      obtain ⟨hl, hg⟩ := eqLen_ok hg
      exact .inr ⟨p, vs, e, .inl (.inl h1), by rw [h2.length]; exact hl, O, ds, xs, Qa, R, h2, hg, hq⟩
    | _ => exact hg.elim
end
/-! ### for -/
section
variable {X : Cx} {F : Fx} {tg it : Expr} {body : List Stmt} {pos : Pos}
def dFor (w : DTI) (g : DTG) (tb : DTS) : DTS := fun E ds => w ds fun its ds1 => ∃ W : Nat → DS → Prop, W 0 ds1 ∧
  (∀ (i : Nat) d ds2, its[i]? = some d → W i ds2 → g d ds2 fun ds3 => tb { E with nx := W (i + 1), ct := W (i + 1), bk := E.nx } ds3) ∧ ∀ ds2, W its.length ds2 → E.nx ds2
theorem Im.mv {s : Bool} {K : Fg} {H H2 : Hp} {O O2 : List Addr} {v : V} {d : D} (h : Im s K H O v d) (e : O2 = O) (e2 : H2 = H) : Im s K H2 O2 v d := by subst e e2; exact h
theorem ds_for {s : Bool} {T : List Nat} {w : DTI} {g : DTG} {tb : DTS} (hp : PassesOwn (model X.prog X.w) X.A X.env X.xe) (hc : X.calm = true) (hi : DI s X F tg it w) (hg : DG s T X F tg g) (hb : DSs X F body tb)
    (hs : ∀ x, foldedSetIterable it X.env x = pure x := by intro _; rfl) : DSt X F (.For tg it body [] pos) (dFor w g tb) := PS_imp (ps_for hp hc hi hg hb hs) fun D σ H ⟨O, ds, E, R, ht, k⟩ =>
  ⟨O, ds, _, R, ht, fun its ds1 H1 O1 J s1 R1 io ⟨W, w0, turn, fin⟩ => by
    have a1 := s1.hs R
    refine ⟨fun i m σ2 H2 => m = its.length - i ∧ i ≤ its.length ∧ ∃ O2 ds2, HS O1 H1 O2 H2 ∧ Rep X.K F H2 O2 σ2 ds2 ∧ W i ds2, ⟨its.length, by simp, Nat.zero_le _, O1, ds1, HS.refl, R1, w0⟩, ?_⟩
    rintro i m σ2 H2 ⟨rfl, hi, O2, ds2, a2, R2, w2⟩
    by_cases hlt : i < its.length
    · obtain ⟨go, yl⟩ := io.go H2 O2 R2.lo a2 i hlt
      refine .inr ⟨go, fun σ' H' => ∃ O' ds', HS O1 H1 O' H' ∧ Rep X.K F H' O' σ' ds' ∧ W (i + 1) ds', fun σ' H' ⟨O', ds', b1, b2, b3⟩ => ⟨its.length - (i + 1), by omega, rfl, hlt, O', ds', b1, b2, b3⟩, fun x H3 hy => ?_⟩
      obtain ⟨d, ed, sm, im⟩ := yl x H3 hy
      have R3 : Rep X.K F H3 O2 σ2 ds2 := R2.grow sm grow_refl (fun _ h => h) (lo_same R2.lo sm)
      have a3 : HS O2 H2 O2 H3 := (Step.grow (σ := σ2) (ds := ds2) sm grow_refl fun _ h => h).hs R2
      have a23 := a2.trans a3
      refine ⟨O2, ds2, d, _, R3, im, turn i d ds2 ed w2, fun O4 ds4 σ4 a4 R4 _ h4 => ⟨O4, ds4, _, R4, h4, ?_⟩⟩
      have a24 := a23.trans a4.hs
      have kk := k.later (a1.trans a24)
      exact ⟨fun O' ds' σ' H' b R' q => ⟨O', ds', a24.trans b, R', q⟩, kk.rt, kk.nx, fun O' ds' σ' H' b R' q => ⟨O', ds', a24.trans b, R', q⟩⟩
    · have e : i = its.length := by omega
      subst e
      exact .inl ⟨io.stop H2 O2 R2.lo a2, k.nx O2 ds2 σ2 H2 (a1.trans a2) R2 (fin ds2 w2)⟩⟩
/-! ### comprehensions -/
def wipeD (sl : List (Option DV)) : List Nat → List (Option DV)
  | [] => sl
  | v :: vs => (wipeD sl vs).set v none
theorem wipeD_len (sl : List (Option DV)) : ∀ vs, (wipeD sl vs).length = sl.length
  | [] => rfl
  | v :: vs => by simp [wipeD, wipeD_len sl vs]
theorem wipeD_some {sl : List (Option DV)} {i : Nat} {x : DV} : ∀ {vs : List Nat}, (wipeD sl vs)[i]? = some (some x) → sl[i]? = some (some x) ∧ i ∉ vs
  | [], h => ⟨h, by simp⟩
  | v :: vs, h => by
    unfold wipeD at h
    by_cases e : v = i
    · subst e
      by_cases hv : v < (wipeD sl vs).length
      · rw [List.getElem?_set_self hv] at h; cases h
      · rw [List.getElem?_eq_none (by simpa using hv)] at h; cases h
    · rw [List.getElem?_set_ne e] at h
      obtain ⟨h1, h2⟩ := wipeD_some h
      exact ⟨h1, by simp [h2, Ne.symm e]⟩
theorem wipe_eq {σ σ2 : St} {vs : List Nat} (hl : σ2.length = σ.length) (h : ∀ i : Nat, i ∉ vs → σ2[i]? = σ[i]?) : wipe σ2 vs = wipe σ vs := by
  apply List.ext_getElem?
  intro i
  have inn : ∀ (σ : St) (vs : List Nat), i ∈ vs → i < σ.length → (wipe σ vs)[i]? = some none := by
    intro σ vs
    induction vs with
    | nil => intro h; simp at h
    | cons v vs ih =>
      intro hi hl
      unfold wipe
      by_cases e : v = i
      · subst e
        rw [List.getElem?_set_self (by rw [wipe_length]; exact hl)]
      · rw [List.getElem?_set_ne e]
        exact ih ((List.mem_cons.mp hi).resolve_left (Ne.symm e)) hl
  by_cases hi : i ∈ vs
  · by_cases hlt : i < σ.length
    · rw [inn σ vs hi hlt, inn σ2 vs hi (by omega)]
    · rw [List.getElem?_eq_none (by rw [wipe_length]; omega), List.getElem?_eq_none (by rw [wipe_length]; omega)]
  · rw [wipe_out hi, wipe_out hi, h i hi]
theorem Rep.fit {K : Fg} {H : Hp} {O : List Addr} {σ σ' : St} {ds : DS} (R : Rep K F H O σ ds) (vs : List Nat) (hl : σ'.length = σ.length) (h : ∀ i : Nat, i ∉ vs → σ'[i]? = σ[i]?) : Rep K F H O σ' ⟨wipeD ds.sl vs, ds.n⟩ := by
  have mut_of : ∀ j q, MutAt σ' ⟨wipeD ds.sl vs, ds.n⟩ j q → MutAt σ ds j q := fun j q ⟨a, dv, b, c⟩ => by
    obtain ⟨h1, h2⟩ := wipeD_some b
    rw [h j h2] at a
    exact ⟨a, dv, h1, c⟩
  have box_of : ∀ j q, BoxS σ' ⟨wipeD ds.sl vs, ds.n⟩ j q → BoxS σ ds j q := fun j q ⟨a, b⟩ => by
    obtain ⟨h1, h2⟩ := wipeD_some b
    rw [h j h2] at a
    exact ⟨a, h1⟩
  refine ⟨R.lo, R.sub, R.ext, fun j dv hj => ?_, fun j k q a b => R.mu j k q (mut_of j q a) (mut_of k q b), fun j q a => R.new j q (mut_of j q a), fun j q ys a b => ?_, R.bx, fun j q hb => R.bu j q (box_of j q hb), fun j k q r h1 h2 => R.b1 j k q r (box_of j q h1) (box_of k r h2), R.fo, R.bo, by rw [wipeD_len, R.len, hl]⟩
  · obtain ⟨h1, h2⟩ := wipeD_some hj
    obtain ⟨w, ew, r⟩ := R.sl j dv h1
    exact ⟨w, by rw [h j h2]; exact ew, r⟩
  · obtain ⟨h1, h2⟩ := wipeD_some b
    rw [h j h2] at a
    exact R.newO j q ys a h1
def restD (sl old : List (Option DV)) : List Nat → List (Option DV)
  | [] => sl
  | v :: vs => (restD sl old vs).set v (old.getD v none)
theorem restD_len (sl old : List (Option DV)) : ∀ vs, (restD sl old vs).length = sl.length
  | [] => rfl
  | v :: vs => by simp [restD, restD_len sl old vs]
theorem restD_out {sl old : List (Option DV)} {i : Nat} : ∀ {vs : List Nat}, i ∉ vs → (restD sl old vs)[i]? = sl[i]?
  | [], _ => rfl
  | v :: vs, h => by
    unfold restD
    rw [List.getElem?_set_ne (fun z => h (by simp [z])), restD_out (fun z => h (List.mem_cons_of_mem _ z))]
theorem restD_in {sl old : List (Option DV)} {i : Nat} (hl : sl.length = old.length) : ∀ {vs : List Nat}, i ∈ vs → (restD sl old vs)[i]? = old[i]?
  | [], h => by simp at h
  | v :: vs, h => by
    unfold restD
    by_cases e : v = i
    · subst e
      by_cases hv : v < sl.length
      · rw [List.getElem?_set_self (by rw [restD_len]; exact hv), List.getD_eq_getElem?_getD, List.getElem?_eq_getElem (by omega)]
        rfl
      · rw [List.getElem?_eq_none (by rw [List.length_set, restD_len]; omega), List.getElem?_eq_none (by omega)]
    · rw [List.getElem?_set_ne e]
      exact restD_in hl ((List.mem_cons.mp h).resolve_left (Ne.symm e))
def noBox (sl : List (Option DV)) : List Nat → Bool
  | [] => true
  | v :: vs => (match sl.getD v none with | some .box => false | _ => true) && noBox sl vs
theorem noBox_ok {sl : List (Option DV)} {i : Nat} : ∀ {vs : List Nat}, noBox sl vs = true → i ∈ vs → sl[i]? ≠ some (some .box)
  | [], _, h => by simp at h
  | v :: vs, hb, h => by
    simp only [noBox, Bool.and_eq_true] at hb
    intro e
    rcases List.mem_cons.mp h with z | z
    · subst z
      have : sl.getD i none = some .box := by rw [List.getD_eq_getElem?_getD, e]; rfl
      rw [this] at hb
      simp at hb
    · exact noBox_ok hb.2 z e
@[irreducible] def dLc (w : DTI) (g : DTG) (tt : DTT) (te : DTE) (vs : List Nat) : DTE := fun ds Q => w ds fun its ds1 => match noBox ds1.sl vs with
  | false => False
  | true => ∃ P : Nat → List D → DS → Prop, P 0 [] ⟨wipeD ds1.sl vs, ds1.n⟩ ∧
    (∀ (i : Nat) d acc ds2, its[i]? = some d → P i acc ds2 → g d ds2 fun ds3 => tt ds3 fun b ds4 => match b with
      | true => te ds4 fun y ds5 => match frz ds5 y with
        | some (z, ds6) => P (i + 1) (acc ++ [z]) ⟨wipeD ds6.sl vs, ds6.n⟩
        | none => False
      | false => P (i + 1) acc ⟨wipeD ds4.sl vs, ds4.n⟩) ∧
    ∀ acc ds2, P its.length acc ds2 → Q (.own acc) ⟨restD ds2.sl ds1.sl vs, ds2.n⟩
theorem Rep.updT {K : Fg} {H : Hp} {O : List Addr} {σ : St} {ds : DS} {p : Addr} {ws : List V} (R : Rep K F H O σ ds) (ho : p ∈ O) (hm : ∀ j, ¬ MutAt σ ds j p) (hn : F.Hin p = none) : Rep K F (upd H p (.lst ws)) O σ ds ∧ Keep O H (upd H p (.lst ws)) := by
  have nb : ∀ q ∈ F.B, q ≠ p := fun q hq z => R.fo q (R.bo q hq) (z ▸ hn)
  have kp : Keep O H (upd H p (.lst ws)) := fun a o h n => by rw [upd_ne (fun z : a = p => n (z ▸ ho))]; exact h
  refine ⟨⟨fun q hq => ?_, R.sub, fun a o h n => ?_, fun j dv hj => ?_, R.mu, R.new, R.newO, fun q hq => ?_, R.bu, R.b1, R.fo, R.bo, R.len⟩, kp⟩
  · by_cases e : q = p
    · subst e; exact ⟨ws, upd_same⟩
    · rw [upd_ne e]; exact R.lo q hq
  · rw [upd_ne (fun z : a = p => by subst z; rw [hn] at h; cases h)]
    exact R.ext a o h n
  · obtain ⟨w, ew, r⟩ := R.sl j dv hj
    refine ⟨w, ew, ?_⟩
    cases dv with
    | exc xa xb => exact ExS.mv R.lo kp grow_refl r
    | d x => exact Rp.mv R.lo kp grow_refl r
    | own ys =>
      obtain ⟨q, us, e3, a1, a2, a3⟩ := r
      subst e3
      exact ⟨q, us, rfl, a1, by rw [upd_ne (fun z : q = p => hm j ⟨z ▸ ew, _, hj, trivial⟩)]; exact a2, RpL.mv R.lo kp grow_refl a3⟩
    | box =>
      obtain ⟨q, e3, a1, x, y, c, a2, a3⟩ := r
      subst e3
      exact ⟨q, rfl, a1, x, y, c, by rw [upd_ne (fun z : q = p => hm j ⟨z ▸ ew, _, hj, trivial⟩)]; exact a2, a3⟩
    | slot k => exact r
  · obtain ⟨x, y, c, h, r⟩ := R.bx q hq
    exact ⟨x, y, c, by rw [upd_ne (nb q hq)]; exact h, r⟩
end
end SF

/-! SL6: list comprehensions over data. -/
namespace SF
open PySem PySem.Spec PyProof.Rows L2
section
variable {K : Fg} {F : Fx} {H H1 : Hp} {O O1 : List Addr} {σ : St} {ds ds1 : DS}
def Clear (vs : List Nat) (ds : DS) : Prop := ∀ i ∈ vs, ∀ dv, ds.sl[i]? ≠ some (some dv)
theorem wipeD_clear (sl : List (Option DV)) (n : Nat) (vs : List Nat) : Clear vs ⟨wipeD sl vs, n⟩ := fun i hi dv h => (wipeD_some h).2 hi
theorem wipeD_keep {sl : List (Option DV)} {i : Nat} : ∀ {vs : List Nat}, i ∉ vs → (wipeD sl vs)[i]? = sl[i]?
  | [], _ => rfl
  | v :: vs, h => by
    unfold wipeD
    rw [List.getElem?_set_ne (fun z => h (by simp [z])), wipeD_keep (fun z => h (List.mem_cons_of_mem _ z))]
/-- a step seen at slots that agree outside vs -/
theorem Step.fit {σ2 σw : St} {vs : List Nat} {ds0 ds3 ds6 : DS} {H6 : Hp} {O6 : List Addr} (s : Step σ2 H O ds3 H6 O6 ds6) (h : ∀ i : Nat, i ∉ vs → σ2[i]? = σw[i]?) (hc : Clear vs ds0)
    (hm : ∀ j p, MutAt σ2 ds3 j p → MutAt σw ds0 j p) (hb : ∀ j p, BoxS σ2 ds3 j p → BoxS σw ds0 j p) (hs : ∀ (i : Nat) dv, ds0.sl[i]? = some (some dv) → ∃ dv', ds3.sl[i]? = some (some dv')) : Step σw H O ds0 H6 O6 ⟨wipeD ds6.sl vs, ds6.n⟩ where
  o1 := s.o1
  o2 := fun p hp n => s.o2 p hp fun i hi => n i (hm i p hi)
  kp := fun a o ha n => s.kp a o ha fun i hi => n i (hm i a hi)
  dm := s.dm
  sl := fun i dv hi => by
    obtain ⟨dv1, h1⟩ := hs i dv hi
    obtain ⟨dv2, h2⟩ := s.sl i dv1 h1
    exact ⟨dv2, by show (wipeD ds6.sl vs)[i]? = _; rw [wipeD_keep (fun z => hc i z dv hi)]; exact h2⟩
  mu := fun i p ⟨a, dv, b, c⟩ => by
    obtain ⟨b1, b2⟩ := wipeD_some b
    rw [← h i b2] at a
    exact hm i p (s.mu i p ⟨a, dv, b1, c⟩)
  bx := fun i p ⟨a, b⟩ => by
    obtain ⟨b1, b2⟩ := wipeD_some b
    rw [← h i b2] at a
    exact hb i p (s.bx i p ⟨a, b1⟩)
end
section
variable {X : Cx} {F : Fx} {tg it elt : Expr} {pos : Pos}
theorem lc_lift {s : Bool} {T : List Nat} {w : DTI} {g : DTG} {tt : DTT} {te : DTE} {vs : List Nat} {K : Fg} (hT : ∀ i ∈ T, i ∈ vs) {σ : St} {H : Hp} {Q : VK} (h : lift K F (dLc w g tt te vs) σ H Q) :
    tLc (liftI s K F w) (liftG s T K F g) (liftT K F tt) (lift K F te) vs σ H Q := by
  obtain ⟨O, ds, Qa, R, ht, hq⟩ := h
  unfold dLc at ht
  refine ⟨O, ds, _, R, ht, fun its ds1 H1 O1 J s1 R1 io hx => ?_⟩
  intro D hD
  split at hx
  · exact hx.elim
  rename_i hbx
  obtain ⟨P, p0, turn, fin⟩ := hx
  have hDin := R1.hin hD
  have wl : (wipe σ vs).length = σ.length := wipe_length σ vs
  have wo : ∀ i : Nat, i ∉ vs → (wipe σ vs)[i]? = σ[i]? := fun i hi => wipe_out hi
  have sm := same_new (o := .lst []) hD
  have gr := grow_new (O := O1) hD
  have sub : ∀ q ∈ O1, q ∈ D :: O1 := fun q h => List.mem_cons_of_mem _ h
  have R1' := R1.grow sm gr sub (lo_new R1.lo hD)
  have Rw : Rep K F (upd H1 D (.lst [])) (D :: O1) (wipe σ vs) ⟨wipeD ds1.sl vs, ds1.n⟩ := R1'.fit vs wl wo
  have nD1 : ∀ j, ¬ MutAt σ ds1 j D := fun j hj => by
    obtain ⟨xs, e⟩ := R1.lo D (R1.mutO hj)
    rw [hD] at e; cases e
  have mw : ∀ j p, MutAt (wipe σ vs) ⟨wipeD ds1.sl vs, ds1.n⟩ j p → MutAt σ ds1 j p ∧ j ∉ vs := fun j p ⟨a, dv, b, c⟩ => by
    obtain ⟨b1, b2⟩ := wipeD_some b
    rw [wo j b2] at a
    exact ⟨⟨a, dv, b1, c⟩, b2⟩
  have nDw : ∀ j, ¬ MutAt (wipe σ vs) ⟨wipeD ds1.sl vs, ds1.n⟩ j D := fun j hj => nD1 j (mw j D hj).1
  have hs0 : HS O1 H1 (D :: O1) (upd H1 D (.lst [])) := (Step.grow (σ := σ) (ds := ds1) sm gr sub).hs R1
  refine ⟨fun i m H2 => m = its.length - i ∧ i ≤ its.length ∧ ∃ O2 ds2 acc av, Step (wipe σ vs) (upd H1 D (.lst [])) (D :: O1) ⟨wipeD ds1.sl vs, ds1.n⟩ (upd H2 D (.lst [])) O2 ds2 ∧ HS O1 H1 O2 H2 ∧ Rep K F H2 O2 (wipe σ vs) ds2 ∧ H2 D = some (.lst av) ∧ RpL K H2 O2 av acc ∧ acc.length ≤ i ∧ Clear vs ds2 ∧ P i acc ds2,
    ⟨its.length, by simp, Nat.zero_le _, D :: O1, _, [], [], by rw [upd_upd]; exact Step.refl, hs0, Rw, upd_same, .nil, Nat.le_refl _, wipeD_clear _ _ _, p0⟩, ?_⟩
  rintro i m H2 ⟨rfl, hi, O2, ds2, acc, av, st, a2, R2, eD, rl, hal, hcl, p2⟩
  have memD : D ∈ O2 := st.o2 D List.mem_cons_self nDw
  have nD2 : ∀ j, ¬ MutAt (wipe σ vs) ds2 j D := fun j hj => nDw j (st.mu j D hj)
  by_cases hlt : i < its.length
  · obtain ⟨go, yl⟩ := io.go H2 O2 R2.lo a2 i hlt
    refine .inr ⟨go, fun H' => ∃ O2 ds2 acc av, Step (wipe σ vs) (upd H1 D (.lst [])) (D :: O1) ⟨wipeD ds1.sl vs, ds1.n⟩ (upd H' D (.lst [])) O2 ds2 ∧ HS O1 H1 O2 H' ∧ Rep K F H' O2 (wipe σ vs) ds2 ∧ H' D = some (.lst av) ∧ RpL K H' O2 av acc ∧ acc.length ≤ i + 1 ∧ Clear vs ds2 ∧ P (i + 1) acc ds2,
      fun H' hN => ⟨its.length - (i + 1), by omega, rfl, hlt, hN⟩, fun x H3 hy => ?_⟩
    obtain ⟨d, ed, sm3, im⟩ := yl x H3 hy
    have R3 : Rep K F H3 O2 (wipe σ vs) ds2 := R2.grow sm3 grow_refl (fun _ h => h) (lo_same R2.lo sm3)
    have st3 : Step (wipe σ vs) H2 O2 ds2 H3 O2 ds2 := Step.grow sm3 grow_refl fun _ h => h
    have eD3 : H3 D = some (.lst av) := sm3 _ _ eD
    have rl3 : RpL K H3 O2 av acc := RpL.mv R2.lo (same_keep sm3) grow_refl rl
    refine ⟨O2, ds2, d, _, R3, im, turn i d acc ds2 ed p2, fun O4 ds4 σ4 tg4 R4 on4 h4 => ?_⟩
    have ag4 : ∀ j : Nat, j ∉ vs → σ4[j]? = (wipe σ vs)[j]? := fun j hj => on4.2 j fun z => hj (hT j z)
    have memD4 : D ∈ O4 := tg4.sub D memD
    have nD4 : ∀ j, ¬ MutAt σ4 ds4 j D := fun j hj => nD2 j (tg4.mu j D hj)
    have rl4 : RpL K H3 O4 av acc := hs_rpl R3.lo tg4.hs rl3
    refine ⟨wipe_eq (on4.1.trans wl) fun j hj => by rw [ag4 j hj, wo j hj], ?_⟩
    -- from the start of the turn to a state behind
    have bring : ∀ {H6 : Hp} {O6 : List Addr} {ds6 : DS}, Step σ4 H3 O4 ds4 H6 O6 ds6 → Rep K F H6 O6 σ4 ds6 →
        Step (wipe σ vs) (upd H1 D (.lst [])) (D :: O1) ⟨wipeD ds1.sl vs, ds1.n⟩ (upd H6 D (.lst [])) O6 ⟨wipeD ds6.sl vs, ds6.n⟩ ∧ HS O1 H1 O6 H6 ∧ Rep K F H6 O6 (wipe σ vs) ⟨wipeD ds6.sl vs, ds6.n⟩ ∧ H6 D = some (.lst av) ∧ RpL K H6 O6 av acc ∧ D ∈ O6 ∧ ∀ j, ¬ MutAt (wipe σ vs) ⟨wipeD ds6.sl vs, ds6.n⟩ j D := by
      intro H6 O6 ds6 s6 R6
      have s46 : Step (wipe σ vs) H3 O4 ds2 H6 O6 ⟨wipeD ds6.sl vs, ds6.n⟩ := s6.fit ag4 hcl tg4.mu tg4.bx tg4.sl
      have sT : Step (wipe σ vs) H3 O2 ds2 H3 O4 ds2 := ⟨tg4.hs.gr, fun p hp _ => tg4.sub p hp, fun _ _ h _ => h, fun _ h => h, fun _ dv h => ⟨dv, h⟩, fun _ _ h => h, fun _ _ h => h⟩
      have s26 := (st3.trans sT).trans s46
      have R6w := R6.fit (σ' := wipe σ vs) vs (by rw [on4.1]) fun j hj => (ag4 j hj).symm
      have eD6 := s26.kp D _ eD nD2
      have m6 : D ∈ O6 := s6.o2 D memD4 nD4
      refine ⟨⟨fun p hp => ?_, fun p hp n => ?_, fun a o ha n => ?_, fun a ha => ?_, fun j dv hj => ?_, fun j p hj => st.mu j p (s26.mu j p hj), fun j p hj => st.bx j p (s26.bx j p hj)⟩, a2.trans (s26.hs R2), R6w, eD6, ?_, m6, fun j hj => nD2 j (s26.mu j D hj)⟩
      · rcases s26.o1 p hp with h | h
        · exact st.o1 p h
        · right
          cases e : upd H1 D (.lst []) p with
          | none => rfl
          | some o =>
            have q := st.dm p (by rw [e]; simp)
            by_cases z : p = D
            · subst z; rw [eD] at h; cases h
            · rw [upd_ne z] at q; exact absurd h q
      · exact s26.o2 p (st.o2 p hp n) fun j hj => n j (st.mu j p hj)
      · by_cases z : a = D
        · subst z; rw [upd_same] at ha ⊢; exact ha
        · have q := st.kp a o ha n
          rw [upd_ne z] at q ⊢
          exact s26.kp a o q fun j hj => n j (st.mu j a hj)
      · by_cases z : a = D
        · subst z; rw [upd_same]; simp
        · have q := st.dm a ha
          rw [upd_ne z] at q ⊢
          exact s26.dm a q
      · obtain ⟨dv1, e1⟩ := st.sl j dv hj
        exact s26.sl j dv1 e1
      · exact RpL.mv R4.lo (s6.keepO R4) s6.o1 rl4
    refine ⟨O4, ds4, _, R4, h4, fun b ds5 H5 O5 s5 R5 h5 => ?_⟩
    cases b with
    | false =>
      refine iteF ?_
      obtain ⟨b1, b2, b3, b4, b5, b6, b7⟩ := bring s5 R5
      exact ⟨O5, _, acc, av, b1, b2, b3, b4, b5, by omega, wipeD_clear _ _ _, h5⟩
    | true =>
      refine iteT ⟨O5, ds5, _, R5, h5, fun y ds6 v H6 O6 s6 R6 ry h6 => ?_⟩
      cases e : frz ds6 y with
      | none => rw [e] at h6; exact h6.elim
      | some q =>
        obtain ⟨z, ds7⟩ := q
        rw [e] at h6
        obtain ⟨O7, s7, R7, rz, _, _⟩ := frz_ok R5 s6 R6 ry e
        obtain ⟨b1, b2, b3, b4, b5, b6, b7⟩ := bring (s5.trans s7) R7
        refine ⟨av, b4, ?_, ?_⟩
        · have h1 := b5.length
          have h2 := io.len
          omega
        · obtain ⟨R8, k8⟩ := b3.updT (ws := av ++ [v]) b6 b7 hDin
          refine ⟨O7, _, acc ++ [z], av ++ [v], by rw [upd_upd]; exact b1, b2.trans ⟨k8, grow_refl, fun a ha => ?_⟩, R8, upd_same, ?_, by rw [List.length_append, List.length_singleton]; omega, wipeD_clear _ _ _, h6⟩
          · by_cases za : a = D
            · subst za; rw [upd_same]; simp
            · rw [upd_ne za]; exact ha
          · exact RpL.mv b3.lo k8 grow_refl (RpL.append b5 (RpL.one rz))
  · have e : i = its.length := by omega
    subst e
    refine .inl ⟨io.stop H2 O2 R2.lo a2, ?_⟩
    have q := fin acc ds2 p2
    have l2 : ds2.sl.length = ds1.sl.length := by rw [R2.len, R1.len, wl]
    have ke : ∀ a o, H1 a = some o → (∀ j, ¬ MutAt (wipe σ vs) ⟨wipeD ds1.sl vs, ds1.n⟩ j a) → H2 a = some o := fun a o ha n => by
      have nz : a ≠ D := ne_of_none ha hD
      have q := st.kp a o (by rw [upd_ne nz]; exact ha) n
      rwa [upd_ne nz] at q
    have mo : ∀ j p, MutAt σ ⟨restD ds2.sl ds1.sl vs, ds2.n⟩ j p → MutAt σ ds1 j p := fun j p ⟨a, dv, b, c⟩ => by
      by_cases hj : j ∈ vs
      · have b' : (restD ds2.sl ds1.sl vs)[j]? = some (some dv) := b
        rw [restD_in l2 hj] at b'
        exact ⟨a, dv, b', c⟩
      · have b' : (restD ds2.sl ds1.sl vs)[j]? = some (some dv) := b
        rw [restD_out hj] at b'
        exact (mw j p (st.mu j p ⟨by rw [wo j hj]; exact a, dv, b', c⟩)).1
    have bo : ∀ j p, BoxS σ ⟨restD ds2.sl ds1.sl vs, ds2.n⟩ j p → BoxS σ ds1 j p := fun j p ⟨a, b⟩ => by
      have b' : (restD ds2.sl ds1.sl vs)[j]? = some (some .box) := b
      by_cases hj : j ∈ vs
      · rw [restD_in l2 hj] at b'
        exact ⟨a, b'⟩
      · rw [restD_out hj] at b'
        obtain ⟨b1, b2⟩ := st.bx j p ⟨by rw [wo j hj]; exact a, b'⟩
        exact ⟨a, (wipeD_some b2).1⟩
    have inw : ∀ j p, j ∈ vs → MutAt σ ds1 j p → ∀ k, ¬ MutAt (wipe σ vs) ⟨wipeD ds1.sl vs, ds1.n⟩ k p := fun j p hj hm k hk => by
      obtain ⟨h1, h2⟩ := mw k p hk
      exact h2 (R1.mu j k p hm h1 ▸ hj)
    have mO : ∀ j p, j ∈ vs → MutAt σ ds1 j p → p ∈ O2 := fun j p hj hm => st.o2 p (List.mem_cons_of_mem _ (R1.mutO hm)) (inw j p hj hm)
    refine hq (.own acc) ⟨restD ds2.sl ds1.sl vs, ds2.n⟩ (.ref D) H2 O2 (s1.trans ⟨a2.gr, fun p hp n => ?_, fun a o ha n => ke a o ha fun j hj => n j (mw j a hj).1, a2.dm, fun j dv hj => ?_, mo, bo⟩) ?_ ?_ q
    · exact st.o2 p (List.mem_cons_of_mem _ hp) fun j hj => n j (mw j p hj).1
    · by_cases hv : j ∈ vs
      · exact ⟨dv, by show (restD ds2.sl ds1.sl vs)[j]? = _; rw [restD_in l2 hv]; exact hj⟩
      · obtain ⟨dv', e'⟩ := st.sl j dv (by show (wipeD ds1.sl vs)[j]? = _; rw [wipeD_keep hv]; exact hj)
        exact ⟨dv', by show (restD ds2.sl ds1.sl vs)[j]? = _; rw [restD_out hv]; exact e'⟩
    · refine ⟨R2.lo, R2.sub, R2.ext, fun j dv hj => ?_, fun j k p h1 h2 => R1.mu j k p (mo j p h1) (mo k p h2), fun j p h1 => R1.new j p (mo j p h1), fun j p ys h1 h2 => ?_, R2.bx, fun j p hb => R1.bu j p (bo j p hb), fun j k p r h1 h2 => R1.b1 j k p r (bo j p h1) (bo k r h2), R2.fo, R2.bo, by show (restD ds2.sl ds1.sl vs).length = _; rw [restD_len, l2, R1.len]⟩
      · by_cases hv : j ∈ vs
        · have hj' : (restD ds2.sl ds1.sl vs)[j]? = some (some dv) := hj
          rw [restD_in l2 hv] at hj'
          obtain ⟨w', ew, r⟩ := R1.sl j dv hj'
          refine ⟨w', ew, ?_⟩
          cases dv with
          | exc xa xb => exact hs_ex R1.lo a2 r
          | d y => exact hs_rp R1.lo a2 r
          | own ys =>
            obtain ⟨p, us, e3, c1, c2, c3⟩ := r
            subst e3
            have hm : MutAt σ ds1 j p := ⟨ew, _, hj', trivial⟩
            exact ⟨p, us, rfl, mO j p hv hm, ke p _ c2 (inw j p hv hm), hs_rpl R1.lo a2 c3⟩
          | box => exact absurd hj' (noBox_ok hbx hv)
          | slot k => exact r
        · have hj' : (restD ds2.sl ds1.sl vs)[j]? = some (some dv) := hj
          rw [restD_out hv] at hj'
          obtain ⟨w', ew, r⟩ := R2.sl j dv hj'
          exact ⟨w', by rw [← wo j hv]; exact ew, r⟩
      · by_cases hv : j ∈ vs
        · have hj' : (restD ds2.sl ds1.sl vs)[j]? = some (some (.own ys)) := h2
          rw [restD_in l2 hv] at hj'
          exact R1.newO j p ys h1 hj'
        · have hj' : (restD ds2.sl ds1.sl vs)[j]? = some (some (.own ys)) := h2
          rw [restD_out hv] at hj'
          exact R2.newO j p ys (by rw [wo j hv]; exact h1) hj'
    · refine ⟨D, av, rfl, memD, s1.fresh R hD, hDin, eD, rl⟩
end
end SF

/-! SL7: comprehensions as rules; defs, their promises over data, calls. -/
namespace SF
open PySem PySem.Spec PyProof.Rows L2
section
variable {X : Cx} {F : Fx} {tg it elt : Expr} {pos : Pos}
theorem PTs_imp {X : Cx} {es : List Expr} {t t' : TT} (h : PTs X es t) (hi : ∀ σ H Q, t' σ H Q → t σ H Q) : PTs X es t' := ⟨fun pins s σ H Q I q => h.run pins s σ H Q I (hi _ _ _ q)⟩
def dYes : DTT := fun ds Q => Q true ds
abbrev DTs (X : Cx) (F : Fx) (es : List Expr) (t : DTT) : Prop := PTs X es (liftT X.K F t)
theorem dts_nil : DTs X F [] dYes := PTs_imp pts_nil fun σ H Q ⟨O, ds, Qa, R, ht, hq⟩ => hq true ds H O Step.refl R ht
theorem dts_one {c : Expr} {t : DTT} (h : DT X F c t) : DTs X F [c] t := pts_one h
theorem de_lc {s : Bool} {T : List Nat} {w : DTI} {g : DTG} {tt : DTT} {te : DTE} {ifs : List Expr} {scope : Scope} {own : List (Str × Nat)} (hc : X.calm = true) (hN : X.N.Nodup) (hi : DI s X F tg it w) (ok : BlkOk X.N X.env.scope scope own)
    (hT : ∀ i ∈ T, i ∈ own.map (·.2))
    (hg : ∀ (s0 : Shared) (H : Hp) (C : Addr) (cl : List (Str × Addr)) (fp : List Addr), DG s T (X.blk s0 H scope (compEnvC scope cl C X.env) fp) F tg g)
    (ht : ∀ (s0 : Shared) (H : Hp) (C : Addr) (cl : List (Str × Addr)) (fp : List Addr), DTs (X.blk s0 H scope (compEnvC scope cl C X.env) fp) F ifs tt)
    (he : ∀ (s0 : Shared) (H : Hp) (C : Addr) (cl : List (Str × Addr)) (fp : List Addr), DE (X.blk s0 H scope (compEnvC scope cl C X.env) fp) F elt te)
    (hs : ∀ x, foldedSetIterable it X.env x = pure x := by intro _; rfl) : DE X F (.ListComp elt [⟨tg, it, ifs, 0⟩] scope pos) (dLc w g tt te (own.map (·.2))) :=
  PE_imp (pe_lc hc hN hi ok hg ht he hs) fun σ H Q h => lc_lift hT h
theorem ds_setLc {i : Nat} {y : Str} {py spos : Pos} {s : Bool} {T : List Nat} {w : DTI} {g : DTG} {tt : DTT} {te : DTE} {ifs : List Expr} {scope : Scope} {own : List (Str × Nat)} (hc : X.calm = true) (hN : X.N.Nodup) (hy : X.N[i]? = some y) (hyl : X.env.scope.names.lookup y = some .local)
    (hsw : swapsWith (.ListComp elt [⟨tg, it, ifs, 0⟩] scope pos) (some (.Name y py)) spos.line X.env = pure true) (hi : DI s X F tg it w) (ok : BlkOk X.N X.env.scope scope own)
    (hT : ∀ i ∈ T, i ∈ own.map (·.2))
    (hg : ∀ (s0 : Shared) (H : Hp) (C : Addr) (cl : List (Str × Addr)) (fp : List Addr), DG s T (X.blk s0 H scope (compEnvC scope cl C X.env) fp) F tg g)
    (ht : ∀ (s0 : Shared) (H : Hp) (C : Addr) (cl : List (Str × Addr)) (fp : List Addr), DTs (X.blk s0 H scope (compEnvC scope cl C X.env) fp) F ifs tt)
    (he : ∀ (s0 : Shared) (H : Hp) (C : Addr) (cl : List (Str × Addr)) (fp : List Addr), DE (X.blk s0 H scope (compEnvC scope cl C X.env) fp) F elt te)
    (hs : ∀ x, foldedSetIterable it X.env x = pure x := by intro _; rfl) : DSt X F (.Assign [.Name y py] (.ListComp elt [⟨tg, it, ifs, 0⟩] scope pos) spos) (dSet i (dLc w g tt te (own.map (·.2)))) :=
  ds_asg (PS_imp (ps_setLc hc hN hy hyl hsw hi ok hg ht he hs) fun D σ H h => lc_lift hT h)
end

/-- a comprehension, by what is true ahead of each turn -/
theorem lc_in {w : DTI} {g : DTG} {tt : DTT} {te : DTE} {vs : List Nat} {ds ds1 : DS} {its : List D} {Q : DV → DS → Prop} (hw : ∀ K : List D → DS → Prop, K its ds1 → w ds K) (hb : noBox ds1.sl vs = true) (P : Nat → List D → DS → Prop) (h0 : P 0 [] ⟨wipeD ds1.sl vs, ds1.n⟩)
    (hs : ∀ (i : Nat) d acc ds2, its[i]? = some d → P i acc ds2 → g d ds2 fun ds3 => tt ds3 fun b ds4 => match b with
      | true => te ds4 fun y ds5 => match frz ds5 y with
        | some (z, ds6) => P (i + 1) (acc ++ [z]) ⟨wipeD ds6.sl vs, ds6.n⟩
        | none => False
      | false => P (i + 1) acc ⟨wipeD ds4.sl vs, ds4.n⟩)
    (hf : ∀ acc ds2, P its.length acc ds2 → Q (.own acc) ⟨restD ds2.sl ds1.sl vs, ds2.n⟩) : dLc w g tt te vs ds Q := by
  unfold dLc
  refine hw _ ?_
  rw [hb]
  exact ⟨P, h0, hs, hf⟩

/-! ### defs -/
structure RoomG (k : Nat) (A : Around) : Prop where
  rm : Room k A
  gd : A.guards = some []
theorem RoomG.mono {j k : Nat} {A : Around} (r : RoomG k A) (h : j ≤ k) : RoomG j A := ⟨r.rm.mono h, r.gd⟩
/-- a def keeps its promise where there is room and no repr is under way -/
structure FnG (P : Program) (w : World) (K : Fg) (mg : Str → Option Value) (base : Heap) (CX : CXT) (k : Nat) (f : Addr) (fd : FuncData) (ps : List Str) (sp : Sp) : Prop where
  len : ∀ vs H Q E, sp vs H Q E → vs.length = ps.length
  run : ∀ (A : Around) (outer : List Env) (s : Shared) (H : Hp) (args : Args) (us : List Value) (vs : List V) (Q : VK) (E : XK), RoomG k A → Env0 P w K mg base A outer s H → BindsTo s fd args (ps.zip us) → Vals vs us → sp vs H Q E →
    codeAny (model P w) A (.call (.ref f) args) (CR CX outer P w H s Q E) s
theorem FnG.mono {P : Program} {w : World} {K : Fg} {mg : Str → Option Value} {base : Heap} {CX : CXT} {j k : Nat} {f : Addr} {fd : FuncData} {ps : List Str} {sp : Sp} (G : FnG P w K mg base CX j f fd ps sp) (h : j ≤ k) : FnG P w K mg base CX k f fd ps sp :=
  ⟨G.len, fun A outer s H args us vs Q E hr => G.run A outer s H args us vs Q E (hr.mono h)⟩
section
variable {P : Program} {w : World} {K : Fg} {mg : Str → Option Value} {base : Heap} {CX : CXT}
/-- a def by its body -/
theorem fnG_of {x qual : Str} {st : Stmt} {f : Addr} {fd : FuncData} {N ps : List Str} {k : Nat} {sp : Sp} (Fu : Fun K x qual st f fd) (S : FnScope N ps (defScope st)) (len : ∀ vs H Q E, sp vs H Q E → vs.length = ps.length)
    (hbody : ∀ (cdv : Value) (A : Around) (outer : List Env) (s : Shared) (H : Hp) (vs : List V) (Q : VK) (E : XK), RoomG k (A.deeper (envOfC qual (defScope st) s.heap.objs.size f cdv)) → sp vs H Q E →
      ∃ t, PSs (cxOf CX P w K mg base N qual (defScope st) f cdv A outer s H E) (defBody st) t ∧ t { nx := fun _ H' => Q .non H', rt := Q } (start N vs) H) : FnG P w K mg base CX (k + 1) f fd ps sp := by
  obtain ⟨oc, od, kV, doc, pm, an, cdv, ct, osl, efd, lk, hcd⟩ := Fu.ex
  constructor
  · exact len
  intro A outer s H args us vs Q E hr e0 hb r hsp
  subst efd
  have old : ∀ b o, base.get? b = some o → s.heap.get? b = some o := fun b o e => (e0.bs b o e).1
  have KX : K.In s.heap := e0.mod.kin.keeps old
  have lim : s.heap.NoLimit := e0.mod.nolimit.keeps old
  refine codeAny_call_function hr.rm.depth (KX _ _ lk) rfl S.co S.gen rfl (PySem.W.codeRec_of KX hcd) (hb _ _ _ _ ?_)
  refine wpAny_newFunctionEnv_cells S.kind ?_ ?_
  · rintro ⟨n, v⟩ hy
    exact (S.par n (List.of_mem_zip hy).1).elim .inl fun q => .inr ⟨q, PySem.W.cellsFrom_some _ _ _ (.inl q)⟩
  rintro env rfl s1 x1
  obtain ⟨t, ht, hq⟩ := hbody cdv A outer s H vs Q E ⟨hr.rm.deeper _, hr.gd⟩ hsp
  have I := inv_start (CX := CX) (E := E) S hr.rm.hd e0 (len _ _ _ _ hsp) r x1
  refine ⟨lim.keeps x1.toInCall.keep, codeAny_func (wpAny_mono (ht.run [] s1 _ H _ I hq) ?_ fun e s' z => z)⟩
  intro fl s' hs
  cases fl with
  | ret u => obtain ⟨v, σ', H', J, rv, q⟩ := hs; exact ⟨v, H', J.os, J.bare, J.base, J.hok, rv, q⟩
  | next => obtain ⟨σ', H', J, q⟩ := hs; exact ⟨.non, H', J.os, J.bare, J.base, J.hok, rfl, q⟩
  | brk => obtain ⟨_, _, _, q⟩ := hs; exact q.elim
  | cont => obtain ⟨_, _, _, q⟩ := hs; exact q.elim
end
section
variable {X : Cx} {CX : CXT} {k : Nat} {f : Addr} {fd : FuncData} {ps ks : List Str} {sp : Sp} {E : XK} {x : Str} {p pos : Pos} {e : Expr} {es : List Expr} {kws : List Keyword} {t tk : TA}
theorem callG {pins : List (Addr × Obj)} {σ : St} {H : Hp} {s : Shared} {Q : VK} {us : List Value} {vs : List V} {args : Args} (G : FnG X.prog X.w X.K X.mg X.base CX k f fd ps sp) (hr : RoomG k X.A) (hx : Passes CX X E) (I : Inv X pins σ H s)
    (hb : BindsTo s fd args (ps.zip us)) (r : Vals vs us) (h : sp vs H Q E) : codeAny (model X.prog X.w) X.A (.call (.ref f) args) (fun r s' => match r with | .ok (.ret u) => EP X pins σ Q u s' | .ok _ => False | .error e => X.xe e s') s := by
  refine codeAny_mono (G.run X.A X.stack s H args us vs Q E hr I.env0 hb r h) ?_
  intro r s' hq
  cases r with
  | error e => exact hx pins σ H s e s' I hq
  | ok fl =>
    cases fl with
    | ret u => exact I.after hq
    | next => exact hq
    | brk => exact hq
    | cont => exact hq
theorem wp_callG {pins : List (Addr × Obj)} {σ : St} {H : Hp} {s : Shared} {Q : VK} {us : List Value} {kw : List (Str × Value)} {vs : List V} {bs : List Value} (G : FnG X.prog X.w X.K X.mg X.base CX k f fd ps sp) (hr : RoomG k X.A) (hx : Passes CX X E) (I : Inv X pins σ H s)
    (hb : BindsTo s fd ⟨us, kw⟩ (ps.zip bs)) (r : Vals vs bs) (h : sp vs H Q E) : wpAny (model X.prog X.w) X.A (call (.ref f) us kw) (EP X pins σ Q) X.xe s := by
  refine wpAny_call (codeAny_mono (callG G hr hx I hb r h) ?_)
  intro r s' hq
  cases r with
  | error e => exact hq
  | ok fl =>
    cases fl with
    | ret u => exact hq
    | next => exact hq.elim
    | brk => exact hq.elim
    | cont => exact hq.elim
/-- f(e, ..): the written arguments, then the defaults -/
theorem pe_callG {dvs : List V} {dd : List Value} (G : FnG X.prog X.w X.K X.mg X.base CX k f fd ps sp) (hr : RoomG k X.A) (hg : Gl X x) (hm : X.mg x = some (.ref f)) (hk : PySem.W.keepIn X.K (.ref f) = true) (hb : Binds X.K fd ps dd) (hd : Vals dvs dd) (hx : Passes CX X E)
    (ha : PA X (e :: es) t) (hdb : (x == ("__debug__" : Str)) = false := by decide) (he : starEach (e :: es) X.env = (false, eval e X.env) :: starEach es X.env := by rfl) (hpl : (backTo pos (starEach es X.env)).any (·.1) = false := by rfl) :
    PE X (.Call (.Name x p) (e :: es) [] pos) (tCall sp dvs E t) := by
  constructor
  intro pins s σ H Q I h
  refine wpAny_Call_Name_kw (ld_glob I hg hm (PySem.W.callWith_K (h₀ := X.base) I.ok.mod.kin hk (thn (ha.run pos pins s σ H _ I h) ?_) he hpl) hdb)
  rintro us s1 ⟨vs, H1, I1, r, q⟩
  have r2 := r.append hd
  exact ⟨I1.kIn, wp_callG G hr hx I1 (hb s1 us I1.kIn (by rw [← r2.length]; exact G.len _ _ _ _ q)) r2 q⟩
/-- f(k = v, ..) -/
theorem pe_callGK0 {g : List Value → List Value} {gV : List V → List V} (G : FnG X.prog X.w X.K X.mg X.base CX k f fd ps sp) (hr : RoomG k X.A) (hg : Gl X x) (hm : X.mg x = some (.ref f)) (hk : PySem.W.keepIn X.K (.ref f) = true)
    (hto : ∀ (s : Shared) (ws : List Value), X.K.In s.heap → (g ws).length = ps.length → BindsTo s fd ⟨[], ks.zip ws⟩ (ps.zip (g ws))) (hrel : ∀ {zs : List V} {ws : List Value}, Vals zs ws → Vals (gV zs) (g ws)) (hx : Passes CX X E)
    (hkw : PK X kws tk) (hall : (backToKw pos (keywordEach kws X.env)).all (·.1.isSome) = true := by rfl) (hks : (backToKw pos (keywordEach kws X.env)).filterMap (·.1) = ks := by rfl)
    (hdb : (x == ("__debug__" : Str)) = false := by decide) (hpl : (backToKw pos (keywordEach kws X.env)).any (·.1.isNone) = false := by rfl) :
    PE X (.Call (.Name x p) [] kws pos) (fun σ H Q => tk σ H fun zs H2 => sp (gV zs) H2 Q E) := by
  constructor
  intro pins s σ H Q I h
  refine wpAny_Call_Name_kw (ld_glob I hg hm (PySem.W.callWith_KW0 (h₀ := X.base) I.ok.mod.kin hk hall (thn (hkw.run pos pins s σ H _ I h) ?_) hpl) hdb)
  rintro ws s2 ⟨zs, H2, I2, rz, q2⟩
  have r2 := hrel rz
  refine ⟨I2.kIn, ?_⟩
  rw [hks]
  exact wp_callG G hr hx I2 (hto s2 ws I2.kIn (by rw [← r2.length]; exact G.len _ _ _ _ q2)) r2 q2
end
end SF

/-! SL8: promises over data; calls of such defs. -/
namespace SF
open PySem PySem.Spec PyProof.Rows L2

/-- a call that lets nothing out -/
theorem passX {X : Cx} : Passes (L2.CX X.prog X.w) X E0 := fun _ _ _ _ _ _ _ ⟨_, _, _, _, _, _, _, _, _, _, _, _, z⟩ => z.elim
abbrev DXK := Str → Option (Str × D) → Nat → Prop
/-- a promise over data: arguments (data, or the box), the draws left; what is wanted of the result and of an error -/
abbrev DSp := List DV → Nat → (DV → Nat → Prop) → DXK → Prop
def ArgD (K : Fg) (H : Hp) (B O : List Addr) (v : V) : DV → Prop
  | .d x => Rp K H O v x
  | .box => ∃ b, B = [b] ∧ v = .ref b
  | _ => False
def XcAt (mg : Str → Option Value) (K : Fg) (H : Hp) (O : List Addr) (nm : Str) (fo : Option (Str × D)) (cv : Value) (od : Option Addr) : Prop :=
  ∃ c, Cl K nm c ∧ cv = .ref c ∧ Fld K H O od fo
def spD (K : Fg) (mg : Str → Option Value) (dsp : DSp) : Sp := fun vs H Q E => ∃ (B O : List Addr) (args : List DV) (n : Nat) (Qa : DV → Nat → Prop) (Ea : DXK),
  LO O H ∧ (∀ b ∈ B, b ∈ O ∧ BoxAt H b n) ∧ Paired (ArgD K H B O) vs args ∧ (∀ i j : Nat, args[i]? = some .box → args[j]? = some .box → i = j) ∧ dsp args n Qa Ea ∧
  (∀ r n' v H', Keep B H H' → (∀ b ∈ B, BoxAt H' b n') → RpR K ⟨H, B, O⟩ H' v r → Qa r n' → Q v H') ∧
  (∀ nm fo n' cv od H', Keep B H H' → (∀ b ∈ B, BoxAt H' b n') → XcAt mg K H' O nm fo cv od → Ea nm fo n' → E cv od H')
def startD (N : Nat) (args : List DV) (n : Nat) : DS := ⟨args.map some ++ List.replicate (N - args.length) none, n⟩
theorem paired_len {α β : Type} {R : α → β → Prop} : ∀ {l : List α} {l' : List β}, Paired R l l' → l.length = l'.length
  | _, _, .nil => rfl
  | _, _, .cons _ r => by rw [List.length_cons, List.length_cons, paired_len r]
theorem paired_get {α β : Type} {R : α → β → Prop} : ∀ {l : List α} {l' : List β} {i : Nat} {b : β}, Paired R l l' → l'[i]? = some b → ∃ a, l[i]? = some a ∧ R a b
  | _, _, _, _, .nil, e => by simp at e
  | _, _, 0, _, .cons h _, e => by simp at e; subst e; exact ⟨_, rfl, h⟩
  | _, _, i + 1, b, .cons _ r, e => by
    obtain ⟨v, h1, h2⟩ := paired_get (i := i) (b := b) r (by simpa using e)
    exact ⟨v, by simpa using h1, h2⟩
theorem BoxAt.some {H : Hp} {p : Addr} {n : Nat} (h : BoxAt H p n) : ∃ xs, H p = some (.lst xs) := by
  obtain ⟨x, y, c, h, _⟩ := h
  exact ⟨_, h⟩
theorem startD_get {N : Nat} {args : List DV} {n i : Nat} {dv : DV} (h : (startD N args n).sl[i]? = some (some dv)) : args[i]? = some dv := by
  unfold startD at h
  simp only at h
  by_cases hi : i < args.length
  · rw [List.getElem?_append_left (by simpa using hi), List.getElem?_map] at h
    cases e : args[i]? with
    | none => rw [e] at h; simp at h
    | some a => rw [e] at h; simp at h; rw [h]
  · rw [List.getElem?_append_right (by simpa using hi), List.getElem?_replicate] at h
    split at h <;> simp at h
theorem start_get {N : List Str} {vs : List V} {i : Nat} {v : V} (h : vs[i]? = some v) : (start N vs)[i]? = some (some v) := by
  unfold L2.start
  rw [List.getElem?_append_left (by rw [List.length_map]; exact (List.getElem?_eq_some_iff.mp h).1), List.getElem?_map, h]
  rfl
theorem rep_start {K : Fg} {H : Hp} {B O : List Addr} {N : List Str} {vs : List V} {args : List DV} {n : Nat} (lo : LO O H) (hb : ∀ b ∈ B, b ∈ O ∧ BoxAt H b n) (ha : Paired (ArgD K H B O) vs args)
    (h1 : ∀ i j : Nat, args[i]? = some .box → args[j]? = some .box → i = j) (hl : vs.length ≤ N.length) : Rep K ⟨H, B, O⟩ H O (start N vs) (startD N.length args n) := by
  have at_ : ∀ (i : Nat) dv, (startD N.length args n).sl[i]? = some (some dv) → ∃ v, (start N vs)[i]? = some (some v) ∧ args[i]? = some dv ∧ ArgD K H B O v dv := fun i dv h => by
    have e := startD_get h
    obtain ⟨v, e1, r⟩ := paired_get ha e
    exact ⟨v, start_get e1, e, r⟩
  have mut_of : ∀ i p, MutAt (start N vs) (startD N.length args n) i p → args[i]? = some .box ∧ B = [p] := fun i p ⟨a, dv, b, c⟩ => by
    obtain ⟨v, e1, e2, r⟩ := at_ i dv b
    rw [a] at e1; cases e1
    cases dv with
    | exc xa xb => first | exact h.elim | exact hw.elim | exact hr.elim | exact rr.elim | exact rx.elim | exact h3.elim | exact c3.elim | exact c.elim | exact hab.elim | exact q.elim | (simp [peek] at hp; done) | (simp [frz] at e; done) | (simp [frz] at e1; done) | (simp [argOf] at ax; done) | (simp [argOf] at e1; done) | (simp [isBx] at hab; done) | (simp [argOf] at h; done) | (simp [peek] at e; done) | (simp [isBx] at hbx; done) | exact h | exact hw | exact r | (cases e; done) | (cases e2; done) | rfl | (simp at e; done) | (simp at h; done)
    | d x => exact c.elim
    | slot j => exact c.elim
    | own xs => exact r.elim
    | box => obtain ⟨b', r1, r2⟩ := r; cases r2; exact ⟨e2, r1⟩
  refine ⟨lo, fun _ h => h, fun _ _ h _ => h, fun i dv h => ?_, fun i j p a b => h1 i j (mut_of i p a).1 (mut_of j p b).1, fun i p a => ?_, fun i p xs a b => ?_, fun p hp => (hb p hp).2, fun i p hb' q hq => ?_, fun i j p q a b => ?_, fun p hp => ?_, fun p hp => (hb p hp).1, ?_⟩
  · obtain ⟨v, e1, e2, r⟩ := at_ i dv h
    refine ⟨v, e1, ?_⟩
    cases dv with
    | exc xa xb => exact r.elim
    | d x => exact r
    | box =>
      obtain ⟨b, e, ev⟩ := r
      have hm := hb b (by rw [e]; simp)
      exact ⟨b, ev, hm.1, hm.2⟩
    | own xs => exact r.elim
    | slot j => exact r.elim
  · obtain ⟨_, e⟩ := mut_of i p a
    right
    show p ∈ B
    rw [e]; simp
  · obtain ⟨v, _, _, r⟩ := at_ i _ b
    exact r.elim
  · obtain ⟨_, e⟩ := mut_of i p ⟨hb'.1, .box, hb'.2, trivial⟩
    have hq' : q ∈ B := hq
    rw [e] at hq'
    simpa using hq'
  · exact h1 i j (mut_of i p ⟨a.1, .box, a.2, trivial⟩).1 (mut_of j q ⟨b.1, .box, b.2, trivial⟩).1
  · obtain ⟨xs, e⟩ := lo p hp
    show H p ≠ none
    rw [e]; simp
  · have := paired_len ha
    unfold L2.start startD
    simp
    omega
section
variable {P : Program} {w : World} {K : Fg} {mg : Str → Option Value} {base : Heap}
/-- a def that raises nothing, by its body read over data -/
theorem fnD_of {x qual : Str} {st : Stmt} {f : Addr} {fd : FuncData} {N ps : List Str} {k : Nat} {dsp : DSp} (Fu : Fun K x qual st f fd) (S : FnScope N ps (defScope st)) (len : ∀ args n Q E, dsp args n Q E → args.length = ps.length)
    (hbody : ∀ (cdv : Value) (A : Around) (outer : List Env) (s : Shared) (H : Hp) (E : XK) (F : Fx), RoomG k (A.deeper (envOfC qual (defScope st) s.heap.objs.size f cdv)) →
      ∃ t, DSs (cxOf (L2.CX P w) P w K mg base N qual (defScope st) f cdv A outer s H E).nox F (defBody st) t ∧ ∀ args n Qa Ea, dsp args n Qa Ea → t ⟨fun ds => Qa (.d .none) ds.n, fun r ds => Qa r ds.n, fun _ => False, fun _ => False⟩ (startD N.length args n)) :
    FnG P w K mg base (L2.CX P w) (k + 1) f fd ps (spD K mg dsp) := by
  have hlen : ∀ vs H Q E, spD K mg dsp vs H Q E → vs.length = ps.length := fun vs H Q E ⟨B, O, args, n, Qa, Ea, _, _, ha, _, hd, _⟩ => by rw [paired_len ha]; exact len _ _ _ _ hd
  refine fnG_of Fu S hlen fun cdv A outer s H vs Q E hr hsp => ?_
  have hl := hlen vs H Q E hsp
  obtain ⟨B, O, args, n, Qa, Ea, lo, hb, ha, h1, hd, hq, _⟩ := hsp
  obtain ⟨t, ht, hread⟩ := hbody cdv A outer s H E ⟨H, B, O⟩ hr
  have hpl : ps.length ≤ N.length := by have := congrArg List.length S.pre; rw [List.length_take] at this; omega
  refine ⟨_, ht.nox, O, _, _, rep_start lo hb ha h1 (by omega), hread args n Qa Ea hd, ?_⟩
  refine ⟨fun O' ds' σ' H' a R' q => ?_, fun O' ds' σ' H' v dv a R' r q => ?_, fun _ _ _ _ _ _ q => q, fun _ _ _ _ _ _ q => q⟩
  · exact hq (.d .none) ds'.n .non H' R'.ext (fun b hb => R'.bx b hb) .non q
  · exact hq dv ds'.n v H' R'.ext (fun b hb => R'.bx b hb) r q
end
/-! ### a call -/
def argOf (ds : DS) : DV → Option DV
  | .d x => some (.d x)
  | .own xs => some (.d (.list xs))
  | .box => none
  | .slot i => match ds.sl[i]? with
    | some (some (.d x)) => some (.d x)
    | some (some (.own xs)) => some (.d (.list xs))
    | some (some .box) => some .box
    | _ => none
  | .exc _ _ => none
def argsOf (ds : DS) : List DV → Option (List DV)
  | [] => some []
  | x :: xs => match argOf ds x, argsOf ds xs with
    | some a, some r => some (a :: r)
    | _, _ => none
def flatR : DV → Bool
  | .d x => flat x
  | .own xs => flatL xs
  | _ => false
def isBx : DV → Bool
  | .box => true
  | _ => false
def frzA (ds : DS) : List DV → DS
  | [] => ds
  | x :: xs => match frz ds x with
    | some (_, ds1) => frzA ds1 xs
    | none => frzA ds xs
/-- some list of one's own is handed on -/
def ownA (ds : DS) : List DV → Bool
  | [] => false
  | .slot i :: xs => (match ds.sl[i]? with | some (some (.own _)) => true | _ => false) || ownA ds xs
  | _ :: xs => ownA ds xs
theorem ownA_no {ds : DS} : ∀ {xs : List DV}, ownA ds xs = false → frzA ds xs = ds
  | [], _ => rfl
  | .d x :: xs, h => ownA_no (xs := xs) h
  | .own x :: xs, h => ownA_no (xs := xs) h
  | .box :: xs, h => ownA_no (xs := xs) h
  | .exc _ _ :: xs, h => ownA_no (xs := xs) h
  | .slot i :: xs, h => by
    simp only [ownA, Bool.or_eq_false_iff] at h
    obtain ⟨h1, h2⟩ := h
    have ih := ownA_no (xs := xs) h2
    simp only [frzA, frz]
    split
    · rename_i e
      split at e
      · cases e; exact ih
      · rename_i q; rw [q] at h1; cases h1
      · cases e
    · exact ih
/-- the slots behind a call: those that were handed on as lists are data from now on, unless the result holds no list -/
def aftS (ds : DS) (xs : List DV) (r : DV) : List (Option DV) := match ownA ds xs with
  | false => ds.sl
  | true => match flatR r with
    | true => ds.sl
    | false => (frzA ds xs).sl
def aftN (args : List DV) (n n' : Nat) : Nat := match args.any isBx with
  | true => n'
  | false => n
def onceB (args : List DV) (P : Prop) : Prop := match Nat.ble (args.countP isBx) 1 with
  | true => P
  | false => False
/-- the box is among the arguments in both orders or in none -/
def sameB (args args' : List DV) (P : Prop) : Prop := match args.any isBx, args'.any isBx with
  | true, true => P
  | false, false => P
  | _, _ => False
theorem sameB_ok {args args' : List DV} {P : Prop} (h : sameB args args' P) : args'.any isBx = args.any isBx ∧ P := by
  unfold sameB at h
  split at h
  · rename_i e1 e2; exact ⟨by rw [e1, e2], h⟩
  · rename_i e1 e2; exact ⟨by rw [e1, e2], h⟩
  · exact h.elim
def dCall (dsp : DSp) (m : List DV → List DV) (ta : DTA) : DTE := fun ds Q => ta ds fun xs ds1 => match argsOf ds1 xs with
  | some args => sameB args (m args) (onceB (m args) (dsp (m args) ds1.n (fun r n' => Q r ⟨aftS ds1 xs r, aftN (m args) ds1.n n'⟩) fun _ _ _ => False))
  | none => False
theorem onceB_ok {args : List DV} {P : Prop} (h : onceB args P) : (∀ i j : Nat, args[i]? = some .box → args[j]? = some .box → i = j) ∧ P := by
  unfold onceB at h
  split at h
  · rename_i e
    refine ⟨?_, h⟩
    have e := Nat.le_of_ble_eq_true e
    rename_i e0
    clear h e0
    induction args with
    | nil => intro i j hi; simp at hi
    | cons a r ih =>
      have none_of : ∀ {l : List DV}, l.countP isBx = 0 → ∀ k : Nat, l[k]? ≠ some .box := fun {l} hl k hk => by
        have := List.countP_eq_zero.mp hl .box (List.mem_of_getElem? hk)
        simp [isBx] at this
      intro i j hi hj
      rw [List.countP_cons] at e
      cases i with
      | zero =>
        simp at hi
        subst hi
        cases j with
        | zero => rfl
        | succ j =>
          simp [isBx] at e
          exact absurd (by simpa using hj) (none_of (List.countP_eq_zero.mpr (by simpa [isBx] using e)) j)
      | succ i =>
        cases j with
        | zero =>
          simp at hj
          subst hj
          simp [isBx] at e
          exact absurd (by simpa using hi) (none_of (List.countP_eq_zero.mpr (by simpa [isBx] using e)) i)
        | succ j =>
          have := ih (by omega) i j (by simpa using hi) (by simpa using hj)
          omega
  · exact h.elim
section
variable {K : Fg} {F : Fx} {H H' H0 : Hp} {O O' : List Addr} {σ : St} {ds ds0 ds' : DS} {v : V} {dv : DV} {d : D}
theorem argOf_frz {x y : DV} (e : frz ds x = some (d, ds')) : argOf ds' y = argOf ds y := by
  cases x with
  | exc xa xb => first | exact h.elim | exact hw.elim | exact hr.elim | exact rr.elim | exact rx.elim | exact h3.elim | exact c3.elim | exact c.elim | exact hab.elim | exact q.elim | (simp [peek] at hp; done) | (simp [frz] at e; done) | (simp [frz] at e1; done) | (simp [argOf] at ax; done) | (simp [argOf] at e1; done) | (simp [isBx] at hab; done) | (simp [argOf] at h; done) | (simp [peek] at e; done) | (simp [isBx] at hbx; done) | exact h | exact hw | exact r | (cases e; done) | (cases e2; done) | rfl | (simp at e; done) | (simp at h; done)
  | d z => simp only [frz, Option.some.injEq, Prod.mk.injEq] at e; rw [e.2]
  | own z => simp only [frz, Option.some.injEq, Prod.mk.injEq] at e; rw [e.2]
  | box => simp [frz] at e
  | slot i =>
    simp only [frz] at e
    split at e
    · simp only [Option.some.injEq, Prod.mk.injEq] at e; rw [e.2]
    · rename_i xs ei
      simp only [Option.some.injEq, Prod.mk.injEq] at e
      obtain ⟨_, e2⟩ := e
      subst e2
      cases y with
      | exc xa xb => first | exact h.elim | exact hw.elim | exact hr.elim | exact rr.elim | exact rx.elim | exact h3.elim | exact c3.elim | exact c.elim | exact hab.elim | exact q.elim | (simp [peek] at hp; done) | (simp [frz] at e; done) | (simp [frz] at e1; done) | (simp [argOf] at ax; done) | (simp [argOf] at e1; done) | (simp [isBx] at hab; done) | (simp [argOf] at h; done) | (simp [peek] at e; done) | (simp [isBx] at hbx; done) | exact h | exact hw | exact r | (cases e; done) | (cases e2; done) | rfl | (simp at e; done) | (simp at h; done)
      | d z => rfl
      | own z => rfl
      | box => rfl
      | slot j =>
        simp only [argOf]
        by_cases ej : i = j
        · subst ej
          rw [List.getElem?_set_self (List.getElem?_eq_some_iff.mp ei).1, ei]
        · rw [List.getElem?_set_ne ej]
    · simp at e
theorem frz_arg {x : DV} (e : frz ds x = some (d, ds')) : argOf ds x = some (.d d) := by
  cases x with
  | exc xa xb => first | exact h.elim | exact hw.elim | exact hr.elim | exact rr.elim | exact rx.elim | exact h3.elim | exact c3.elim | exact c.elim | exact hab.elim | exact q.elim | (simp [peek] at hp; done) | (simp [frz] at e; done) | (simp [frz] at e1; done) | (simp [argOf] at ax; done) | (simp [argOf] at e1; done) | (simp [isBx] at hab; done) | (simp [argOf] at h; done) | (simp [peek] at e; done) | (simp [isBx] at hbx; done) | exact h | exact hw | exact r | (cases e; done) | (cases e2; done) | rfl | (simp at e; done) | (simp at h; done)
  | d z => simp only [frz, Option.some.injEq, Prod.mk.injEq] at e; simp [argOf, e.1]
  | own z => simp only [frz, Option.some.injEq, Prod.mk.injEq] at e; simp [argOf, e.1]
  | box => simp [frz] at e
  | slot i =>
    simp only [frz] at e
    split at e
    · rename_i z ei
      simp only [Option.some.injEq, Prod.mk.injEq] at e; simp only [argOf, ei, e.1]
    · rename_i xs ei
      simp only [Option.some.injEq, Prod.mk.injEq] at e
      simp only [argOf, ei, e.1]
    · simp at e
theorem frz_none {x a : DV} (e : frz ds x = none) (h : argOf ds x = some a) : a = .box ∧ ∃ i, x = .slot i ∧ ds.sl[i]? = some (some .box) := by
  cases x with
  | exc xa xb => first | exact h.elim | exact hw.elim | exact hr.elim | exact rr.elim | exact rx.elim | exact h3.elim | exact c3.elim | exact c.elim | exact hab.elim | exact q.elim | (simp [peek] at hp; done) | (simp [frz] at e; done) | (simp [frz] at e1; done) | (simp [argOf] at ax; done) | (simp [argOf] at e1; done) | (simp [isBx] at hab; done) | (simp [argOf] at h; done) | (simp [peek] at e; done) | (simp [isBx] at hbx; done) | exact h | exact hw | exact r | (cases e; done) | (cases e2; done) | rfl | (simp at e; done) | (simp at h; done)
  | d z => simp [frz] at e
  | own z => simp [frz] at e
  | box => simp [argOf] at h
  | slot i =>
    simp only [frz] at e
    simp only [argOf] at h
    split at e
    · simp at e
    · simp at e
    · rename_i h1 h2
      split at h
      · rename_i z ei; exact absurd ei (h1 z)
      · rename_i z ei; exact absurd ei (h2 z)
      · rename_i ei
        simp only [Option.some.injEq] at h
        exact ⟨h.symm, i, rfl, ei⟩
      · simp at h
theorem frzA_ok (R0 : Rep K F H0 O σ ds0) : ∀ {dvs : List DV} {vs : List V} {O' : List Addr} {ds : DS}, Step σ H0 O ds0 H O' ds → Rep K F H O' σ ds → RpVs K F H O O' σ ds vs dvs →
    ∃ O'', Step σ H0 O ds0 H O'' (frzA ds dvs) ∧ Rep K F H O'' σ (frzA ds dvs) ∧ (∀ p ∈ O'', p ∈ O') ∧ (frzA ds dvs).n = ds.n ∧ Paired (fun v dv => ∀ x, argOf ds dv = some (.d x) → Rp K H O'' v x) vs dvs
  | [], vs, O', ds, s, R, h => by
    have h' := h.1
    cases h'
    exact ⟨O', s, R, fun _ h => h, rfl, .nil⟩
  | dv :: dvs, vs, O', ds, s, R, h => by
    obtain ⟨hp, ha⟩ := h
    cases hp with
    | cons h1 h2 =>
      rename_i v vr
      have ha' : ∀ (i j : Nat) (p : Addr) (x y : List D), i ≠ j → vr[i]? = some (.ref p) → vr[j]? = some (.ref p) → dvs[i]? = some (.own x) → dvs[j]? = some (.own y) → False :=
        fun i j p x y hij a b c d => ha (i + 1) (j + 1) p x y (fun z => hij (by omega)) (by simpa using a) (by simpa using b) (by simpa using c) (by simpa using d)
      cases e1 : frz ds dv with
      | none =>
        obtain ⟨O2, s2, R2, sub2, hn, pr⟩ := frzA_ok R0 s R ⟨h2, ha'⟩
        simp only [frzA, e1]
        refine ⟨O2, s2, R2, sub2, hn, .cons (fun x hx => ?_) pr⟩
        have := (frz_none e1 hx).1
        cases this
      | some q =>
        obtain ⟨d, ds1⟩ := q
        obtain ⟨O1, s1, R1, r1, sub1, oth⟩ := frz_ok R0 s R h1 e1
        have hvs : RpVs K F H O O1 σ ds1 vr dvs := by
          refine ⟨?_, ha'⟩
          have aux : ∀ {ws : List V} {dws : List DV}, Paired (RpV K F H O O' σ ds) ws dws → (∀ (k : Nat) (w : V) (xs : List D), ws[k]? = some w → dws[k]? = some (.own xs) → ∀ ys, dv = .own ys → w ≠ v) → Paired (RpV K F H O O1 σ ds1) ws dws := by
            intro ws dws hh
            induction hh with
            | nil => intro _; exact .nil
            | cons q _ ih =>
              intro hn
              exact .cons (oth _ _ q fun xs e1 ys e2 => hn 0 _ xs rfl (by rw [e1]; rfl) ys e2) (ih fun k w xs a b => hn (k + 1) w xs (by simpa using a) (by simpa using b))
          refine aux h2 fun k w xs a b ys e3 ew => ?_
          subst e3
          have h1' := h1
          obtain ⟨p, us, ev, _⟩ := h1'
          rw [ew, ev] at a
          exact ha 0 (k + 1) p ys xs (by omega) (by rw [ev]; rfl) (by simpa using a) rfl (by simpa using b)
        obtain ⟨O2, s2, R2, sub2, hn, pr⟩ := frzA_ok R0 s1 R1 hvs
        simp only [frzA, e1]
        have hn1 : ds1.n = ds.n := by
          cases dv with
          | exc xa xb => first | exact h.elim | exact hw.elim | exact hr.elim | exact rr.elim | exact rx.elim | exact h3.elim | exact c3.elim | exact c.elim | exact hab.elim | exact q.elim | (simp [peek] at hp; done) | (simp [frz] at e; done) | (simp [frz] at e1; done) | (simp [argOf] at ax; done) | (simp [argOf] at e1; done) | (simp [isBx] at hab; done) | (simp [argOf] at h; done) | (simp [peek] at e; done) | (simp [isBx] at hbx; done) | exact h | exact hw | exact r | (cases e; done) | (cases e2; done) | rfl | (simp at e; done) | (simp at h; done)
          | d z => simp only [frz, Option.some.injEq, Prod.mk.injEq] at e1; rw [e1.2]
          | own z => simp only [frz, Option.some.injEq, Prod.mk.injEq] at e1; rw [e1.2]
          | box => simp [frz] at e1
          | slot i =>
            simp only [frz] at e1
            split at e1
            · simp only [Option.some.injEq, Prod.mk.injEq] at e1; rw [e1.2]
            · simp only [Option.some.injEq, Prod.mk.injEq] at e1; rw [← e1.2]
            · simp at e1
        refine ⟨O2, s2, R2, fun p hp => sub1 p (sub2 p hp), hn.trans hn1, .cons (fun x hx => ?_) ?_⟩
        · rw [frz_arg e1] at hx
          cases hx
          exact Rp.less R1.lo sub2 r1
        · have aux : ∀ {ws : List V} {dws : List DV}, Paired (fun v dv => ∀ x, argOf ds1 dv = some (.d x) → Rp K H O2 v x) ws dws → Paired (fun v dv => ∀ x, argOf ds dv = some (.d x) → Rp K H O2 v x) ws dws := by
            intro ws dws hh
            induction hh with
            | nil => exact .nil
            | cons q _ ih => exact .cons (fun x hx => q x (by rw [argOf_frz e1]; exact hx)) ih
          exact aux pr
/-- the state behind a call that changes at most the box -/
theorem Rep.called (R : Rep K F H O σ ds) {B : List Addr} {n' : Nat} (k : Keep B H H') (hB : ∀ b ∈ B, BoxAt H' b n' ∧ ∃ i, BoxS σ ds i b) (hn : B = [] → n' = ds.n) (O3 : List Addr) (g : Grow O O3 H) (sb : ∀ p ∈ O, p ∈ O3) (l3 : ∀ p ∈ O3, p ∉ O → ∃ xs, H' p = some (.lst xs)) :
    Rep K F H' O3 σ ⟨ds.sl, n'⟩ ∧ Step σ H O ds H' O3 ⟨ds.sl, n'⟩ := by
  have boxm : ∀ b ∈ B, ∃ i, MutAt σ ds i b := fun b hb => by
    obtain ⟨_, i, h1, h2⟩ := hB b hb
    exact ⟨i, h1, .box, h2, trivial⟩
  have bO : ∀ b ∈ B, b ∈ O := fun b hb => by obtain ⟨i, hi⟩ := boxm b hb; exact R.mutO hi
  have kO : Keep O H H' := fun a o h n => k a o h fun z => n (bO a z)
  have dm : ∀ a, H a ≠ none → H' a ≠ none := fun a h => by
    by_cases hb : a ∈ B
    · obtain ⟨xs, e⟩ := (hB a hb).1.some
      rw [e]; simp
    · cases e : H a with
      | none => exact absurd e h
      | some o => rw [k a o e hb]; simp
  refine ⟨⟨fun p hp => ?_, fun p hp => sb p (R.sub p hp), fun a o h n => ?_, fun i dv hi => ?_, R.mu, R.new, R.newO, fun p hp => ?_, R.bu, R.b1, R.fo, R.bo, R.len⟩, ⟨g, fun p hp _ => sb p hp, fun a o h n => k a o h fun z => ?_, dm, fun _ dv h => ⟨dv, h⟩, fun _ _ h => h, fun _ _ h => h⟩⟩
  · by_cases hb : p ∈ B
    · exact (hB p hb).1.some
    · by_cases ho : p ∈ O
      · obtain ⟨xs, e⟩ := R.lo p ho
        exact ⟨xs, k p _ e hb⟩
      · exact l3 p hp ho
  · by_cases hb : a ∈ B
    · obtain ⟨i, hi⟩ := boxm a hb
      rcases R.new i a hi with z | z
      · rw [h] at z; cases z
      · exact absurd z n
    · exact k a o (R.ext a o h n) hb
  · obtain ⟨w, ew, r⟩ := R.sl i dv hi
    refine ⟨w, ew, ?_⟩
    cases dv with
    | exc xa xb => exact ExS.mv R.lo kO g r
    | d x => exact Rp.mv R.lo kO g r
    | own ys =>
      obtain ⟨q, us, e3, a1, a2, a3⟩ := r
      subst e3
      refine ⟨q, us, rfl, sb q a1, k q _ a2 fun z => ?_, RpL.mv R.lo kO g a3⟩
      obtain ⟨_, j, h1, h2⟩ := hB q z
      have := R.mu i j q ⟨ew, _, hi, trivial⟩ ⟨h1, _, h2, trivial⟩
      subst this
      have h2' : ds.sl[i]? = some (some .box) := h2
      rw [hi] at h2'; cases h2'
    | box =>
      obtain ⟨q, e3, a1, a2⟩ := r
      subst e3
      refine ⟨q, rfl, sb q a1, ?_⟩
      by_cases hb : B = []
      · have e := hn hb
        subst hb
        obtain ⟨x, y, c, h1, h2⟩ := a2
        exact ⟨x, y, c, k q _ h1 (by simp), by rw [e]; exact h2⟩
      · obtain ⟨b, l, e⟩ := List.exists_cons_of_ne_nil hb
        have hbm : b ∈ B := by rw [e]; simp
        obtain ⟨h0, j, h1, h2⟩ := hB b hbm
        have := R.b1 i j q b ⟨ew, hi⟩ ⟨h1, h2⟩
        subst this
        rw [ew] at h1; cases h1
        exact h0
    | slot j => exact r
  · by_cases hb : B = []
    · have e := hn hb
      subst hb
      obtain ⟨x, y, c, h1, h2⟩ := R.bx p hp
      exact ⟨x, y, c, k p _ h1 (by simp), by rw [e]; exact h2⟩
    · obtain ⟨b, l, e⟩ := List.exists_cons_of_ne_nil hb
      have hbm : b ∈ B := by rw [e]; simp
      obtain ⟨h0, j, h1⟩ := hB b hbm
      rw [R.bu j b h1 p hp]
      exact h0
  · obtain ⟨i, hi⟩ := boxm a z
    exact n i hi
end
end SF

/-! SL9: the rule of a call. -/
namespace SF
open PySem PySem.Spec PyProof.Rows L2
section
variable {K : Fg} {F : Fx} {H H1 : Hp} {O O1 : List Addr} {σ : St} {ds ds1 : DS}
theorem argsOf_get : ∀ {xs args : List DV} {i : Nat} {a : DV}, argsOf ds xs = some args → args[i]? = some a → ∃ x, xs[i]? = some x ∧ argOf ds x = some a
  | [], _, i, a, e, h => by simp only [argsOf, Option.some.injEq] at e; subst e; simp at h
  | x :: xs, args, i, a, e, h => by
    simp only [argsOf] at e
    cases e1 : argOf ds x with
    | none => rw [e1] at e; simp at e
    | some b =>
      cases e2 : argsOf ds xs with
      | none => rw [e1, e2] at e; simp at e
      | some r =>
        rw [e1, e2] at e
        simp only [Option.some.injEq] at e
        subst e
        cases i with
        | zero => simp at h; subst h; exact ⟨x, rfl, e1⟩
        | succ i =>
          obtain ⟨y, h1, h2⟩ := argsOf_get e2 (by simpa using h)
          exact ⟨y, by simpa using h1, h2⟩
theorem args_paired {B O'' : List Addr} (hb : ∀ (v : V) (i : Nat), σ[i]? = some (some v) → ds.sl[i]? = some (some .box) → ∃ b, B = [b] ∧ v = .ref b) (hp : ∀ {vs : List V} {xs : List DV}, Paired (RpV K F H O O1 σ ds) vs xs → Paired (RpV K F H O O1 σ ds) vs xs) :
    ∀ {vs : List V} {xs args : List DV}, Paired (RpV K F H O O1 σ ds) vs xs → Paired (fun v dv => ∀ x, argOf ds dv = some (.d x) → Rp K H O'' v x) vs xs → argsOf ds xs = some args → Paired (ArgD K H B O'') vs args
  | _, _, _, .nil, .nil, e => by simp only [argsOf, Option.some.injEq] at e; subst e; exact .nil
  | _, _, _, .cons (l₁ := vs) (l₂ := xs) (a := v) (b := x) h r, .cons h' r', e => by
    simp only [argsOf] at e
    cases e1 : argOf ds x with
    | none => rw [e1] at e; simp at e
    | some b =>
      cases e2 : argsOf ds xs with
      | none => rw [e1, e2] at e; simp at e
      | some rr =>
        rw [e1, e2] at e
        simp only [Option.some.injEq] at e
        subst e
        refine .cons ?_ (args_paired hb hp r r' e2)
        cases b with
        | exc xa xb =>
          cases x with
          | exc xa xb => simp [argOf] at e1
          | d z => simp [argOf] at e1
          | own z => simp [argOf] at e1
          | box => simp [argOf] at e1
          | slot i => simp only [argOf] at e1; split at e1 <;> simp at e1
        | d y => exact h' y e1
        | box =>
          cases x with
          | exc xa xb => first | exact h.elim | exact hw.elim | exact hr.elim | exact rr.elim | exact rx.elim | exact h3.elim | exact c3.elim | exact c.elim | exact hab.elim | exact q.elim | (simp [peek] at hp; done) | (simp [frz] at e; done) | (simp [frz] at e1; done) | (simp [argOf] at ax; done) | (simp [argOf] at e1; done) | (simp [isBx] at hab; done) | (simp [argOf] at h; done) | (simp [peek] at e; done) | (simp [isBx] at hbx; done) | exact h | exact hw | exact r | (cases e; done) | (cases e2; done) | rfl | (simp at e; done) | (simp at h; done)
          | d z => simp [argOf] at e1
          | own z => simp [argOf] at e1
          | box => simp [argOf] at e1
          | slot i =>
            obtain ⟨q1, _⟩ := h
            simp only [argOf] at e1
            split at e1
            · simp at e1
            · simp at e1
            · rename_i ei; exact hb v i q1 ei
            · simp at e1
        | own z =>
          cases x with
          | exc xa xb => first | exact h.elim | exact hw.elim | exact hr.elim | exact rr.elim | exact rx.elim | exact h3.elim | exact c3.elim | exact c.elim | exact hab.elim | exact q.elim | (simp [peek] at hp; done) | (simp [frz] at e; done) | (simp [frz] at e1; done) | (simp [argOf] at ax; done) | (simp [argOf] at e1; done) | (simp [isBx] at hab; done) | (simp [argOf] at h; done) | (simp [peek] at e; done) | (simp [isBx] at hbx; done) | exact h | exact hw | exact r | (cases e; done) | (cases e2; done) | rfl | (simp at e; done) | (simp at h; done)
          | d z => simp [argOf] at e1
          | own z => simp [argOf] at e1
          | box => simp [argOf] at e1
          | slot i => simp only [argOf] at e1; split at e1 <;> simp at e1
        | slot z =>
          cases x with
          | exc xa xb => first | exact h.elim | exact hw.elim | exact hr.elim | exact rr.elim | exact rx.elim | exact h3.elim | exact c3.elim | exact c.elim | exact hab.elim | exact q.elim | (simp [peek] at hp; done) | (simp [frz] at e; done) | (simp [frz] at e1; done) | (simp [argOf] at ax; done) | (simp [argOf] at e1; done) | (simp [isBx] at hab; done) | (simp [argOf] at h; done) | (simp [peek] at e; done) | (simp [isBx] at hbx; done) | exact h | exact hw | exact r | (cases e; done) | (cases e2; done) | rfl | (simp at e; done) | (simp at h; done)
          | d z => simp [argOf] at e1
          | own z => simp [argOf] at e1
          | box => simp [argOf] at e1
          | slot i => simp only [argOf] at e1; split at e1 <;> simp at e1
theorem keepB (i : Nat) : ∀ (ys : List DV) (d0 : DS), d0.sl[i]? = some (some .box) → (frzA d0 ys).sl[i]? = some (some .box) := by
  intro ys
  induction ys with
  | nil => intro d0 h; exact h
  | cons y ys ih =>
    intro d0 h
    simp only [frzA]
    cases e : frz d0 y with
    | none => exact ih d0 h
    | some q =>
      obtain ⟨d, d1⟩ := q
      refine ih d1 ?_
      cases y with
      | exc xa xb => first | exact h.elim | exact hw.elim | exact hr.elim | exact rr.elim | exact rx.elim | exact h3.elim | exact c3.elim | exact c.elim | exact hab.elim | exact q.elim | (simp [peek] at hp; done) | (simp [frz] at e; done) | (simp [frz] at e1; done) | (simp [argOf] at ax; done) | (simp [argOf] at e1; done) | (simp [isBx] at hab; done) | (simp [argOf] at h; done) | (simp [peek] at e; done) | (simp [isBx] at hbx; done) | exact h | exact hw | exact r | (cases e; done) | (cases e2; done) | rfl | (simp at e; done) | (simp at h; done)
      | d z => simp only [frz, Option.some.injEq, Prod.mk.injEq] at e; rw [← e.2]; exact h
      | own z => simp only [frz, Option.some.injEq, Prod.mk.injEq] at e; rw [← e.2]; exact h
      | box => simp [frz] at e
      | slot j =>
        simp only [frz] at e
        split at e
        · simp only [Option.some.injEq, Prod.mk.injEq] at e; rw [← e.2]; exact h
        · rename_i ej
          simp only [Option.some.injEq, Prod.mk.injEq] at e
          rw [← e.2]
          show (d0.sl.set j _)[i]? = _
          rw [List.getElem?_set_ne (fun z => by subst z; rw [h] at ej; cases ej)]
          exact h
        · simp at e
/-- arguments put in another order, defaults among them -/
structure Perm' (K : Fg) (gV : List V → List V) (m : List DV → List DV) : Prop where
  pr : ∀ {H : Hp} {B O : List Addr} {vs : List V} {args : List DV}, Paired (ArgD K H B O) vs args → Paired (ArgD K H B O) (gV vs) (m args)
theorem call_coreX {mg : Str → Option Value} {dsp : DSp} {m : List DV → List DV} {gV : List V → List V} {vs : List V} {xs args : List DV} {Q : VK} {Qa : DV → DS → Prop} {E : XK} {Ea : Str → Option (Str × D) → DS → Prop} (hm : Perm' K gV m) (R : Rep K F H O σ ds) (s1 : Step σ H O ds H1 O1 ds1) (R1 : Rep K F H1 O1 σ ds1)
    (rx : RpVs K F H1 O O1 σ ds1 vs xs) (ea : argsOf ds1 xs = some args) (hd : sameB args (m args) (onceB (m args) (dsp (m args) ds1.n (fun r n' => Qa r ⟨aftS ds1 xs r, aftN (m args) ds1.n n'⟩) fun nm fo n' => Ea nm fo ⟨(frzA ds1 xs).sl, aftN (m args) ds1.n n'⟩)))
    (hq : ∀ dv ds' v H' O', Step σ H O ds H' O' ds' → Rep K F H' O' σ ds' → RpV K F H' O O' σ ds' v dv → Qa dv ds' → Q v H')
    (hE : ∀ nm fo ds' cv od H' O', Step σ H O ds H' O' ds' → Rep K F H' O' σ ds' → XcAt mg K H' O' nm fo cv od → Ea nm fo ds' → E cv od H') : spD K mg dsp (gV vs) H1 Q E := by
  obtain ⟨hbm, hd⟩ := sameB_ok hd
  obtain ⟨once, hd⟩ := onceB_ok hd
  obtain ⟨O2, s2, R2, sub2, n2, pr⟩ := frzA_ok R s1 R1 rx
  -- the box's address, if it is among the arguments
  have hB : ∃ B : List Addr, (∀ (v : V) (i : Nat), σ[i]? = some (some v) → ds1.sl[i]? = some (some .box) → args.any isBx = true → ∃ b, B = [b] ∧ v = .ref b) ∧ (∀ b ∈ B, ∃ i, BoxS σ ds1 i b) ∧ (B = [] ↔ args.any isBx = false) := by
    cases hb : args.any isBx with
    | false => exact ⟨[], fun _ _ _ _ h => by simp at h, fun b hb => by simp at hb, by simp⟩
    | true =>
      obtain ⟨a, ha, hab⟩ := List.any_eq_true.mp hb
      cases a with
      | exc xa xb => first | exact h.elim | exact hw.elim | exact hr.elim | exact rr.elim | exact rx.elim | exact h3.elim | exact c3.elim | exact c.elim | exact hab.elim | exact q.elim | (simp [peek] at hp; done) | (simp [frz] at e; done) | (simp [frz] at e1; done) | (simp [argOf] at ax; done) | (simp [argOf] at e1; done) | (simp [isBx] at hab; done) | (simp [argOf] at h; done) | (simp [peek] at e; done) | (simp [isBx] at hbx; done) | exact h | exact hw | exact r | (cases e; done) | (cases e2; done) | rfl | (simp at e; done) | (simp at h; done)
      | d x => simp [isBx] at hab
      | own x => simp [isBx] at hab
      | slot x => simp [isBx] at hab
      | box =>
        obtain ⟨k, hk⟩ := List.getElem?_of_mem ha
        obtain ⟨x, hx, ax⟩ := argsOf_get ea hk
        cases x with
        | exc xa xb => first | exact h.elim | exact hw.elim | exact hr.elim | exact rr.elim | exact rx.elim | exact h3.elim | exact c3.elim | exact c.elim | exact hab.elim | exact q.elim | (simp [peek] at hp; done) | (simp [frz] at e; done) | (simp [frz] at e1; done) | (simp [argOf] at ax; done) | (simp [argOf] at e1; done) | (simp [isBx] at hab; done) | (simp [argOf] at h; done) | (simp [peek] at e; done) | (simp [isBx] at hbx; done) | exact h | exact hw | exact r | (cases e; done) | (cases e2; done) | rfl | (simp at e; done) | (simp at h; done)
        | d x => simp [argOf] at ax
        | own x => simp [argOf] at ax
        | box => simp [argOf] at ax
        | slot i =>
          have ei : ds1.sl[i]? = some (some .box) := by
            simp only [argOf] at ax
            split at ax
            · simp at ax
            · simp at ax
            · assumption
            · simp at ax
          obtain ⟨v, ev, p, e1, e2, e3⟩ := R1.sl i _ ei
          subst e1
          refine ⟨[p], fun v' j h1 h2 _ => ⟨p, rfl, ?_⟩, fun b hb => ⟨i, ?_⟩, by simp⟩
          · obtain ⟨v2, ev2, q, f1, _⟩ := R1.sl j _ h2
            subst f1
            have := R1.b1 i j p q ⟨ev, ei⟩ ⟨ev2, h2⟩
            subst this
            rw [ev] at h1; cases h1; rfl
          · have : b = p := by simpa using hb
            subst this
            exact ⟨ev, ei⟩
  obtain ⟨B, hB1, hB2, hB3⟩ := hB
  have hb1 : ∀ b ∈ B, b ∈ O2 ∧ BoxAt H1 b ds1.n := fun b hb => by
    obtain ⟨i, h1, h2⟩ := hB2 b hb
    obtain ⟨v, ev, p, e1, e2, e3⟩ := R1.sl i _ h2
    rw [h1] at ev; cases ev; cases e1
    refine ⟨?_, e3⟩
    -- the box is not frozen
    have hx : ∃ k : Nat, xs[k]? = some (.slot i) := by
      have hne : B ≠ [] := fun z => by rw [z] at hb; simp at hb
      have : args.any isBx = true := by
        cases hh : args.any isBx with
        | true => rfl
        | false => exact absurd (hB3.mpr hh) hne
      obtain ⟨a, ha, hab⟩ := List.any_eq_true.mp this
      cases a with
      | exc xa xb => first | exact h.elim | exact hw.elim | exact hr.elim | exact rr.elim | exact rx.elim | exact h3.elim | exact c3.elim | exact c.elim | exact hab.elim | exact q.elim | (simp [peek] at hp; done) | (simp [frz] at e; done) | (simp [frz] at e1; done) | (simp [argOf] at ax; done) | (simp [argOf] at e1; done) | (simp [isBx] at hab; done) | (simp [argOf] at h; done) | (simp [peek] at e; done) | (simp [isBx] at hbx; done) | exact h | exact hw | exact r | (cases e; done) | (cases e2; done) | rfl | (simp at e; done) | (simp at h; done)
      | d x => simp [isBx] at hab
      | own x => simp [isBx] at hab
      | slot x => simp [isBx] at hab
      | box =>
        obtain ⟨k, hk⟩ := List.getElem?_of_mem ha
        obtain ⟨x, hx, ax⟩ := argsOf_get ea hk
        cases x with
        | exc xa xb => first | exact h.elim | exact hw.elim | exact hr.elim | exact rr.elim | exact rx.elim | exact h3.elim | exact c3.elim | exact c.elim | exact hab.elim | exact q.elim | (simp [peek] at hp; done) | (simp [frz] at e; done) | (simp [frz] at e1; done) | (simp [argOf] at ax; done) | (simp [argOf] at e1; done) | (simp [isBx] at hab; done) | (simp [argOf] at h; done) | (simp [peek] at e; done) | (simp [isBx] at hbx; done) | exact h | exact hw | exact r | (cases e; done) | (cases e2; done) | rfl | (simp at e; done) | (simp at h; done)
        | d x => simp [argOf] at ax
        | own x => simp [argOf] at ax
        | box => simp [argOf] at ax
        | slot j =>
          have ej : ds1.sl[j]? = some (some .box) := by
            simp only [argOf] at ax
            split at ax
            · simp at ax
            · simp at ax
            · assumption
            · simp at ax
          obtain ⟨v2, ev2, q, f1, _⟩ := R1.sl j _ ej
          subst f1
          have := R1.b1 i j b q ⟨h1, h2⟩ ⟨ev2, ej⟩
          subst this
          exact ⟨k, hx⟩
    have bO : b ∈ O1 := e2
    have h2' := keepB i xs ds1 h2
    exact R2.mutO (i := i) ⟨h1, .box, h2', trivial⟩
  refine ⟨B, O2, m args, ds1.n, _, _, R2.lo, hb1, ?_, once, hd, ?_, ?_⟩
  · refine hm.pr ?_
    cases hb : args.any isBx with
    | true => exact args_paired (fun v i h1 h2 => hB1 v i h1 h2 hb) (fun h => h) rx.1 pr ea
    | false =>
      -- no box among them
      have aux : ∀ {vs : List V} {xs args : List DV}, Paired (RpV K F H1 O O1 σ ds1) vs xs → Paired (fun v dv => ∀ x, argOf ds1 dv = some (.d x) → Rp K H1 O2 v x) vs xs → argsOf ds1 xs = some args → args.any isBx = false → Paired (ArgD K H1 B O2) vs args := by
        intro vs xs args h1
        induction h1 generalizing args with
        | nil => intro h2 e _; simp only [argsOf, Option.some.injEq] at e; subst e; exact .nil
        | cons q _ ih =>
          rename_i v x vs' xs' _
          intro h2 e hbx
          cases h2 with
          | cons h2 h3 =>
            simp only [argsOf] at e
            cases e1 : argOf ds1 x with
            | none => rw [e1] at e; simp at e
            | some b =>
              cases e2 : argsOf ds1 xs' with
              | none => rw [e1, e2] at e; simp at e
              | some rr =>
                rw [e1, e2] at e
                simp only [Option.some.injEq] at e
                subst e
                simp only [List.any_cons, Bool.or_eq_false_iff] at hbx
                refine .cons ?_ (ih h3 e2 hbx.2)
                cases b with
                | exc xa xb =>
                  cases x with
                  | exc xa xb => simp [argOf] at e1
                  | d z => simp [argOf] at e1
                  | own z => simp [argOf] at e1
                  | box => simp [argOf] at e1
                  | slot i => simp only [argOf] at e1; split at e1 <;> simp at e1
                | d y => exact h2 y e1
                | box => simp [isBx] at hbx
                | own z =>
                  cases x with
                  | exc xa xb => first | exact h.elim | exact hw.elim | exact hr.elim | exact rr.elim | exact rx.elim | exact h3.elim | exact c3.elim | exact c.elim | exact hab.elim | exact q.elim | (simp [peek] at hp; done) | (simp [frz] at e; done) | (simp [frz] at e1; done) | (simp [argOf] at ax; done) | (simp [argOf] at e1; done) | (simp [isBx] at hab; done) | (simp [argOf] at h; done) | (simp [peek] at e; done) | (simp [isBx] at hbx; done) | exact h | exact hw | exact r | (cases e; done) | (cases e2; done) | rfl | (simp at e; done) | (simp at h; done)
                  | d z => simp [argOf] at e1
                  | own z => simp [argOf] at e1
                  | box => simp [argOf] at e1
                  | slot i => simp only [argOf] at e1; split at e1 <;> simp at e1
                | slot z =>
                  cases x with
                  | exc xa xb => first | exact h.elim | exact hw.elim | exact hr.elim | exact rr.elim | exact rx.elim | exact h3.elim | exact c3.elim | exact c.elim | exact hab.elim | exact q.elim | (simp [peek] at hp; done) | (simp [frz] at e; done) | (simp [frz] at e1; done) | (simp [argOf] at ax; done) | (simp [argOf] at e1; done) | (simp [isBx] at hab; done) | (simp [argOf] at h; done) | (simp [peek] at e; done) | (simp [isBx] at hbx; done) | exact h | exact hw | exact r | (cases e; done) | (cases e2; done) | rfl | (simp at e; done) | (simp at h; done)
                  | d z => simp [argOf] at e1
                  | own z => simp [argOf] at e1
                  | box => simp [argOf] at e1
                  | slot i => simp only [argOf] at e1; split at e1 <;> simp at e1
      exact aux rx.1 pr ea hb
  · intro r n' v H' kp hbx rr hqa
    have eN : aftN (m args) ds1.n n' = if B = [] then ds1.n else n' := by
      unfold aftN
      rw [hbm]
      cases hb : args.any isBx with
      | true => rw [if_neg (fun z => by rw [hB3.mp z] at hb; cases hb)]
      | false => rw [if_pos (hB3.mpr hb)]
    rw [eN] at hqa
    have hbox : ∀ b ∈ B, BoxAt H' b (if B = [] then ds1.n else n') ∧ ∃ i, BoxS σ ds1 i b := fun b hb => by
      rw [if_neg (fun z => by rw [z] at hb; simp at hb)]
      exact ⟨hbx b hb, hB2 b hb⟩
    have fresh_of : ∀ {p : Addr}, H1 p = none → p ∉ O ∧ F.Hin p = none := fun {p} hp => ⟨s1.fresh R hp, R1.hin hp⟩
    -- the two kinds of results
    have fin : ∀ (O3 : List Addr) (d3 : DS), Rep K F H1 O3 σ d3 → Step σ H O ds H1 O3 d3 → (∀ (i : Nat), ds1.sl[i]? = some (some .box) → d3.sl[i]? = some (some .box)) → d3.n = ds1.n →
        (∀ x, r = .d x → Rp K H' O3 v x) → (∀ ys, r = .own ys → ∃ p ws, v = .ref p ∧ H1 p = none ∧ H' p = some (.lst ws) ∧ RpL K H' (p :: O3) ws ys) → Qa r ⟨d3.sl, if B = [] then ds1.n else n'⟩ → Q v H' := by
      intro O3 d3 R3 s3 hk hn3 hd' ho' hqa
      have hbox3 : ∀ b ∈ B, BoxAt H' b (if B = [] then ds1.n else n') ∧ ∃ i, BoxS σ d3 i b := fun b hb => by
        obtain ⟨h1, i, h2, h3⟩ := hbox b hb
        exact ⟨h1, i, h2, hk i h3⟩
      cases r with
      | exc xa xb => first | exact h.elim | exact hw.elim | exact hr.elim | exact rr.elim | exact rx.elim | exact h3.elim | exact c3.elim | exact c.elim | exact hab.elim | exact q.elim | (simp [peek] at hp; done) | (simp [frz] at e; done) | (simp [frz] at e1; done) | (simp [argOf] at ax; done) | (simp [argOf] at e1; done) | (simp [isBx] at hab; done) | (simp [argOf] at h; done) | (simp [peek] at e; done) | (simp [isBx] at hbx; done) | exact h | exact hw | exact r | (cases e; done) | (cases e2; done) | rfl | (simp at e; done) | (simp at h; done)
      | d x =>
        obtain ⟨Rc, sc⟩ := R3.called kp hbox3 (fun z => by rw [if_pos z, hn3]) O3 grow_refl (fun _ h => h) fun p h1 h2 => absurd h1 h2
        exact hq (.d x) _ v H' O3 (s3.trans sc) Rc (hd' x rfl) hqa
      | own ys =>
        obtain ⟨p, ws, ev, hp, hp', hl⟩ := ho' ys rfl
        obtain ⟨f1, f2⟩ := fresh_of hp
        obtain ⟨Rc, sc⟩ := R3.called kp hbox3 (fun z => by rw [if_pos z, hn3]) (p :: O3) (grow_new hp) (fun _ h => List.mem_cons_of_mem _ h) fun q h1 h2 => by
          rcases List.mem_cons.mp h1 with z | z
          · subst z; exact ⟨ws, hp'⟩
          · exact absurd z h2
        exact hq (.own ys) _ v H' (p :: O3) (s3.trans sc) Rc ⟨p, ws, ev, List.mem_cons_self, f1, f2, hp', hl⟩ hqa
      | box => exact rr.elim
      | slot i => exact rr.elim
    cases hf : flatR r with
    | true =>
      have es : aftS ds1 xs r = ds1.sl := by unfold aftS; rw [hf]; cases ownA ds1 xs <;> rfl
      rw [es] at hqa
      refine fin O1 ds1 R1 s1 (fun _ h => h) rfl (fun x e => ?_) (fun ys e => ?_) hqa
      · subst e; exact Rp.flat rr hf
      · subst e
        obtain ⟨p, ws, ev, hp, hp', hl⟩ := rr
        exact ⟨p, ws, ev, hp, hp', RpL.flat hl hf⟩
    | false =>
      have es : aftS ds1 xs r = (frzA ds1 xs).sl := by
        unfold aftS; rw [hf]
        cases q : ownA ds1 xs
        · rw [ownA_no q]
        · rfl
      rw [es] at hqa
      refine fin O2 (frzA ds1 xs) R2 s2 (fun i h => keepB i xs ds1 h) n2 (fun x e => ?_) (fun ys e => ?_) hqa
      · subst e; exact rr
      · subst e
        obtain ⟨p, ws, ev, hp, hp', hl⟩ := rr
        exact ⟨p, ws, ev, hp, hp', hl⟩
  · intro nm fo n' cv od H' kp hbx xc he
    have eN : aftN (m args) ds1.n n' = if B = [] then ds1.n else n' := by
      unfold aftN
      rw [hbm]
      cases hb : args.any isBx with
      | true => rw [if_neg (fun z => by rw [hB3.mp z] at hb; cases hb)]
      | false => rw [if_pos (hB3.mpr hb)]
    rw [eN] at he
    have hbox : ∀ b ∈ B, BoxAt H' b (if B = [] then ds1.n else n') ∧ ∃ i, BoxS σ (frzA ds1 xs) i b := fun b hb => by
      rw [if_neg (fun z => by rw [z] at hb; simp at hb)]
      obtain ⟨i, h1, h2⟩ := hB2 b hb
      exact ⟨hbx b hb, i, h1, keepB i xs ds1 h2⟩
    obtain ⟨Rc, sc⟩ := R2.called kp hbox (fun z => by rw [if_pos z, n2]) O2 grow_refl (fun _ h => h) fun p h1 h2 => absurd h1 h2
    exact hE nm fo _ cv od H' O2 (s2.trans sc) Rc xc he
theorem call_core {mg : Str → Option Value} {dsp : DSp} {m : List DV → List DV} {gV : List V → List V} {vs : List V} {xs args : List DV} {Q : VK} {Qa : DV → DS → Prop} {E : XK} (hm : Perm' K gV m) (R : Rep K F H O σ ds) (s1 : Step σ H O ds H1 O1 ds1) (R1 : Rep K F H1 O1 σ ds1)
    (rx : RpVs K F H1 O O1 σ ds1 vs xs) (ea : argsOf ds1 xs = some args) (hd : sameB args (m args) (onceB (m args) (dsp (m args) ds1.n (fun r n' => Qa r ⟨aftS ds1 xs r, aftN (m args) ds1.n n'⟩) fun _ _ _ => False)))
    (hq : ∀ dv ds' v H' O', Step σ H O ds H' O' ds' → Rep K F H' O' σ ds' → RpV K F H' O O' σ ds' v dv → Qa dv ds' → Q v H') : spD K mg dsp (gV vs) H1 Q E :=
  call_coreX (Ea := fun _ _ _ => False) hm R s1 R1 rx ea hd hq fun _ _ _ _ _ _ _ _ _ _ z => z.elim
end
section
variable {X : Cx} {F : Fx} {CX : CXT} {k : Nat} {f : Addr} {fd : FuncData} {ps ks : List Str} {dsp : DSp} {x : Str} {p pos : Pos} {e : Expr} {es : List Expr} {kws : List Keyword} {ta : DTA}
theorem perm_id {K : Fg} : Perm' K (fun vs => vs) (fun as => as) := ⟨fun h => h⟩
theorem perm_nil {K : Fg} : Perm' K (fun vs => vs ++ []) (fun as => as) := ⟨fun h => by rw [List.append_nil]; exact h⟩
/-- f(e, ..), all parameters given -/
theorem de_call (G : FnG X.prog X.w X.K X.mg X.base CX k f fd ps (spD X.K X.mg dsp)) (hr : RoomG k X.A) (hg : Gl X x) (hm : X.mg x = some (.ref f)) (hk : PySem.W.keepIn X.K (.ref f) = true) (hb : Binds X.K fd ps []) (hx : Passes CX X E0)
    (ha : DA X F (e :: es) ta) (hdb : (x == ("__debug__" : Str)) = false := by decide) (he : starEach (e :: es) X.env = (false, eval e X.env) :: starEach es X.env := by rfl) (hpl : (backTo pos (starEach es X.env)).any (·.1) = false := by rfl) :
    DE X F (.Call (.Name x p) (e :: es) [] pos) (dCall dsp (fun as => as) ta) :=
  PE_imp (pe_callG G hr hg hm hk hb .nil hx ha hdb he hpl) fun σ H Q ⟨O, ds, Qa, R, ht, hq⟩ => ⟨O, ds, _, R, ht, fun xs ds1 vs H1 O1 s1 R1 rx hx => by
    cases ea : argsOf ds1 xs with
    | none => rw [ea] at hx; exact hx.elim
    | some args =>
      rw [ea] at hx
      exact call_core (gV := fun vs => vs ++ []) perm_nil R s1 R1 rx ea hx hq⟩
abbrev DK (X : Cx) (F : Fx) (kws : List Keyword) (t : DTA) : Prop := PK X kws (liftA X.K F t)
theorem PK_imp {X : Cx} {kws : List Keyword} {t t' : TA} (h : PK X kws t) (hi : ∀ σ H Q, t' σ H Q → t σ H Q) : PK X kws t' := ⟨fun pos pins s σ H Q I q => h.run pos pins s σ H Q I (hi _ _ _ q)⟩
theorem dk_nil : DK X F [] dNil := PK_imp pk_nil fun σ H Q ⟨O, ds, Qa, R, ht, hq⟩ => hq [] ds [] H O Step.refl R ⟨.nil, fun _ _ _ _ _ _ h => by simp at h⟩ ht
theorem dk_cons {te : DTE} {tr : DTA} {nm : Option Str} {kpos : Pos} (ha : DE X F e te) (hr : DK X F kws tr) : DK X F (⟨nm, e, kpos⟩ :: kws) (dCons te tr) := PK_imp (pk_cons ha hr) fun σ H Q h => cons_lift h
/-- f(k = v, ..) -/
theorem de_callK {g : List Value → List Value} {gV : List V → List V} {m : List DV → List DV} (hp : Perm' X.K gV m) (G : FnG X.prog X.w X.K X.mg X.base CX k f fd ps (spD X.K X.mg dsp)) (hr : RoomG k X.A) (hg : Gl X x) (hm : X.mg x = some (.ref f)) (hk : PySem.W.keepIn X.K (.ref f) = true)
    (hto : ∀ (s : Shared) (ws : List Value), X.K.In s.heap → (g ws).length = ps.length → BindsTo s fd ⟨[], ks.zip ws⟩ (ps.zip (g ws))) (hrel : ∀ {zs : List V} {ws : List Value}, Vals zs ws → Vals (gV zs) (g ws)) (hx : Passes CX X E0)
    (hkw : DK X F kws ta) (hall : (backToKw pos (keywordEach kws X.env)).all (·.1.isSome) = true := by rfl) (hks : (backToKw pos (keywordEach kws X.env)).filterMap (·.1) = ks := by rfl)
    (hdb : (x == ("__debug__" : Str)) = false := by decide) (hpl : (backToKw pos (keywordEach kws X.env)).any (·.1.isNone) = false := by rfl) :
    DE X F (.Call (.Name x p) [] kws pos) (dCall dsp m ta) :=
  PE_imp (pe_callGK0 G hr hg hm hk hto hrel hx hkw hall hks hdb hpl) fun σ H Q ⟨O, ds, Qa, R, ht, hq⟩ => ⟨O, ds, _, R, ht, fun xs ds1 vs H1 O1 s1 R1 rx hx => by
    cases ea : argsOf ds1 xs with
    | none => rw [ea] at hx; exact hx.elim
    | some args =>
      rw [ea] at hx
      exact call_core (gV := gV) hp R s1 R1 rx ea hx hq⟩
end
end SF

/-! SL10: operators, subscripts, slices over data. -/
namespace SF
open PySem PySem.Spec PyProof.Rows L2
section
variable {K : Fg} {H : Hp} {O : List Addr}
theorem RpL.ints : ∀ {vs : List V} {ns : List Int}, RpL K H O vs (ns.map PyData.int) → vs = ns.map V.int
  | _, [], h => by cases h; rfl
  | _, n :: ns, h => by
    cases h with
    | cons h r =>
      cases h
      rw [RpL.ints r]
      rfl
theorem RpL.bools : ∀ {vs : List V} {bs : List Bool}, RpL K H O vs (bs.map PyData.bool) → vs = bs.map V.bl
  | _, [], h => by cases h; rfl
  | _, n :: ns, h => by
    cases h with
    | cons h r =>
      cases h
      rw [RpL.bools r]
      rfl
theorem RpL.strs : ∀ {vs : List V} {bs : List Str}, RpL K H O vs (bs.map PyData.str) → vs = bs.map V.str
  | _, [], h => by cases h; rfl
  | _, n :: ns, h => by
    cases h with
    | cons h r =>
      cases h
      rw [RpL.strs r]
      rfl
theorem rpl_ints : ∀ {ns : List Int}, RpL K H O (ns.map V.int) (ns.map PyData.int)
  | [] => .nil
  | n :: ns => .cons (.int n) rpl_ints
theorem rpl_strs : ∀ {ns : List Str}, RpL K H O (ns.map V.str) (ns.map PyData.str)
  | [] => .nil
  | n :: ns => .cons (.str n) rpl_strs
def intsD : List D → Option (List Int)
  | [] => some []
  | .int i :: r => (intsD r).map (i :: ·)
  | _ => none
def boolsD : List D → Option (List Bool)
  | [] => some []
  | .bool i :: r => (boolsD r).map (i :: ·)
  | _ => none
theorem intsD_ok : ∀ {xs : List D} {ns : List Int}, intsD xs = some ns → xs = ns.map PyData.int
  | [], ns, h => by simp only [intsD, Option.some.injEq] at h; subst h; rfl
  | .int i :: r, ns, h => by
    simp only [intsD, Option.map_eq_some_iff] at h
    obtain ⟨m, h1, h2⟩ := h
    subst h2
    rw [intsD_ok h1]
    rfl
  | .none :: _, _, h => by simp [intsD] at h
  | .bool _ :: _, _, h => by simp [intsD] at h
  | .str _ :: _, _, h => by simp [intsD] at h
  | .list _ :: _, _, h => by simp [intsD] at h
  | .tuple _ :: _, _, h => by simp [intsD] at h
  | .dict _ :: _, _, h => by simp [intsD] at h
theorem boolsD_ok : ∀ {xs : List D} {ns : List Bool}, boolsD xs = some ns → xs = ns.map PyData.bool
  | [], ns, h => by simp only [boolsD, Option.some.injEq] at h; subst h; rfl
  | .bool i :: r, ns, h => by
    simp only [boolsD, Option.map_eq_some_iff] at h
    obtain ⟨m, h1, h2⟩ := h
    subst h2
    rw [boolsD_ok h1]
    rfl
  | .none :: _, _, h => by simp [boolsD] at h
  | .int _ :: _, _, h => by simp [boolsD] at h
  | .str _ :: _, _, h => by simp [boolsD] at h
  | .list _ :: _, _, h => by simp [boolsD] at h
  | .tuple _ :: _, _, h => by simp [boolsD] at h
  | .dict _ :: _, _, h => by simp [boolsD] at h
theorem intsD_map : ∀ ns : List Int, intsD (ns.map PyData.int) = some ns
  | [] => rfl
  | n :: ns => by simp [intsD, intsD_map ns]
theorem boolsD_map : ∀ ns : List Bool, boolsD (ns.map PyData.bool) = some ns
  | [] => rfl
  | n :: ns => by simp [boolsD, boolsD_map ns]
end
section
variable {X : Cx} {F : Fx} {e a b c : Expr} {ta tb tc : DTE} {pos : Pos}
/-! ### + -/
def rAddT (K : Fg) : R2 := fun x y H Q => ∃ p q xs ys, x = .ref p ∧ y = .ref q ∧ SqT K H p xs ∧ SqT K H q ys ∧ xs.length + ys.length ≤ sizeLine ∧
  (xs = [] → Q y H) ∧ (xs ≠ [] → ys = [] → Q x H) ∧ (xs ≠ [] → ys ≠ [] → ∀ l o, H l = none → o.dict = none → Q (.ref l) (upd H l (.frz o (.tup (xs ++ ys)))))
theorem op_addT : OpR X (binaryOp .Add) (rAddT X.K) := by
  intro pins s σ H x y v u Q I rx ry h
  obtain ⟨p, q, xs, ys, ex, ey, hp, hq, hz, q0, q1, q2⟩ := h
  subst ex ey
  cases rx
  cases ry
  obtain ⟨is, r1, p1, _⟩ := I.tuple hp
  obtain ⟨js, r2, p2, _⟩ := I.tuple hq
  have l1 := r1.length
  have l2 := r2.length
  by_cases hx : xs = []
  · subst hx
    cases r1
    exact cat_tup0 p1 p2 ⟨.ref q, H, I, rfl, q0 rfl⟩
  · have nx : is ≠ [] := fun z => hx (List.eq_nil_of_length_eq_zero (by rw [l1, z]; rfl))
    refine HT.cat_tup p1 p2 nx (fun z => ⟨.ref p, H, I, rfl, q1 hx (List.eq_nil_of_length_eq_zero (by rw [l2, z]; rfl))⟩) (fun z => ?_) (by omega)
    have g := Heap.get?_push_size s.heap (o := { cls := .type "tuple", data := .seq (is ++ js).toArray }) rfl
    have ny : ys ≠ [] := fun z' => z (List.eq_nil_of_length_eq_zero (by rw [← l2, z']; rfl))
    exact ⟨.ref s.heap.objs.size, _, I.laid (t' := s.toks) (o := .frz { cls := .type "tuple", data := .seq (is ++ js).toArray } (.tup (xs ++ ys))) (fun b ob e => Heap.get?_push_of_some _ e) (Nat.le_refl _)
      ⟨g, by rw [List.length_append]; exact hz, _, r1.append r2, _, g, rfl, _, rfl⟩, rfl, q2 hx ny _ _ I.fresh rfl⟩
theorem op_add_bi : OpR X (binaryOp .Add) (fun x y H Q => ∃ k i, x = .bl k ∧ y = .int i ∧ Q (.int ((if k = true then (1 : Int) else 0) + i)) H) := by
  intro pins s σ H x y v u Q I rx ry h
  obtain ⟨k, i, rfl, rfl, q⟩ := h
  cases rx
  obtain ⟨t, rfl⟩ := ry
  exact PySem.IntBool.add_bool_int ⟨.int _, H, I.tok _, ⟨_, rfl⟩, q⟩
theorem op_sub_bi : OpR X (binaryOp .Sub) (fun x y H Q => ∃ k i, x = .bl k ∧ y = .int i ∧ Q (.int ((if k = true then (1 : Int) else 0) - i)) H) := by
  intro pins s σ H x y v u Q I rx ry h
  obtain ⟨k, i, rfl, rfl, q⟩ := h
  cases rx
  obtain ⟨t, rfl⟩ := ry
  exact PySem.IntBool.sub_bool_int ⟨.int _, H, I.tok _, ⟨_, rfl⟩, q⟩
theorem op_sub_ib : OpR X (binaryOp .Sub) (fun x y H Q => ∃ i k, x = .int i ∧ y = .bl k ∧ Q (.int (i - if k = true then (1 : Int) else 0)) H) := by
  intro pins s σ H x y v u Q I rx ry h
  obtain ⟨i, k, rfl, rfl, q⟩ := h
  obtain ⟨t, rfl⟩ := rx
  cases ry
  exact PySem.IntBool.sub_int_bool ⟨.int _, H, I.tok _, ⟨_, rfl⟩, q⟩
def fAdd : F2 := fun d e Q => match d, e with
  | .int i, .int j => Q (.d (.int (i + j)))
  | .str x, .str y => x.length + y.length ≤ 16777216 ∧ Q (.d (.str (x ++ y)))
  | .list xs, .list ys => xs.length + ys.length ≤ 16777216 ∧ Q (.own (xs ++ ys))
  | .tuple xs, .tuple ys => xs.length + ys.length ≤ 16777216 ∧ Q (.d (.tuple (xs ++ ys)))
  | .bool k, .int i => Q (.d (.int ((if k = true then 1 else 0) + i)))
  | _, _ => False
theorem opd_add : OpD X.K (fun x y H Q => rI0 (fun i j => .int (i + j)) x y H Q ∨ (∃ i j, x = .str i ∧ y = .str j ∧ i.length + j.length ≤ sizeLine ∧ Q (.str (i ++ j)) H) ∨ rCat x y H Q ∨ rAddT X.K x y H Q ∨ (∃ k i, x = .bl k ∧ y = .int i ∧ Q (.int ((if k = true then (1 : Int) else 0) + i)) H)) fAdd := by
  intro H O x y d e Qa Q lo wx wy hf k
  have hs := sizeLine_eq
  unfold fAdd at hf
  split at hf
  · exact .inl ⟨_, _, wx.int, wy.int, k.d _ _ (.int _) hf⟩
  · exact .inr (.inl ⟨_, _, wx.str, wy.str, by omega, k.d _ _ (.str _) hf.2⟩)
  · obtain ⟨p, vs, e1, h1, r1⟩ := wx.list
    obtain ⟨q, ws, e2, h2, r2⟩ := wy.list
    exact .inr (.inr (.inl ⟨p, q, vs, ws, e1, e2, h1, h2, by rw [r1.length, r2.length]; omega, fun l hl => k.lst l _ _ hl (r1.append r2) hf.2⟩))
  · rename_i xs ys
    obtain ⟨p, vs, e1, h1, r1⟩ := wx.tuple
    obtain ⟨q, ws, e2, h2, r2⟩ := wy.tuple
    refine .inr (.inr (.inr (.inl ⟨p, q, vs, ws, e1, e2, h1, h2, by rw [r1.length, r2.length]; omega, fun z => ?_, fun z z' => ?_, fun z z' l o hl ho => k.tup l o _ _ hl ho (r1.append r2) hf.2⟩)))
    · subst z
      cases r1
      exact k.d _ _ wy.rp hf.2
    · subst z'
      cases r2
      refine k.d _ _ wx.rp ?_
      rw [List.append_nil] at hf
      exact hf.2
  · exact .inr (.inr (.inr (.inr ⟨_, _, wx.bool, wy.int, k.d _ _ (.int _) hf⟩)))
  · exact hf.elim
end
end SF

/-! SL11: more operators, comparisons, subscripts, slices over data. -/
namespace SF
open PySem PySem.Spec PyProof.Rows L2
section
variable {X : Cx} {F : Fx} {e a b c : Expr} {ta tb tc : DTE} {pos : Pos}
theorem de_add (ha : DE X F a ta) (hb : DE X F b tb) : DE X F (.BinOp a .Add b pos) (dOp2 fAdd ta tb) := de_op2 (pe_op (OpR.or op_add (OpR.or op_add_str (OpR.or op_cat (OpR.or op_addT op_add_bi)))) ha hb) opd_add
def fI2 (C : Int → Int → Prop) (g : Int → Int → Int) : F2 := fun d e Q => match d, e with
  | .int i, .int j => C i j ∧ Q (.d (.int (g i j)))
  | _, _ => False
theorem opd_i2 {C : Int → Int → Prop} {g : Int → Int → Int} : OpD X.K (rI C fun i j => .int (g i j)) (fI2 C g) := by
  intro H O x y d e Qa Q lo wx wy hf k
  unfold fI2 at hf
  split at hf
  · exact ⟨_, _, wx.int, wy.int, hf.1, k.d _ _ (.int _) hf.2⟩
  · exact hf.elim
def fSub : F2 := fun d e Q => match d, e with
  | .int i, .int j => Q (.d (.int (i - j)))
  | .bool k, .int j => Q (.d (.int ((if k = true then 1 else 0) - j)))
  | .int i, .bool k => Q (.d (.int (i - if k = true then 1 else 0)))
  | _, _ => False
theorem de_sub (ha : DE X F a ta) (hb : DE X F b tb) : DE X F (.BinOp a .Sub b pos) (dOp2 fSub ta tb) := de_op2 (pe_op (OpR.or op_sub (OpR.or op_sub_bi op_sub_ib)) ha hb) (by
  intro H O x y d e Qa Q lo wx wy hf k
  unfold fSub at hf
  split at hf
  · exact .inl ⟨_, _, wx.int, wy.int, k.d _ _ (.int _) hf⟩
  · exact .inr (.inl ⟨_, _, wx.bool, wy.int, k.d _ _ (.int _) hf⟩)
  · exact .inr (.inr ⟨_, _, wx.int, wy.bool, k.d _ _ (.int _) hf⟩)
  · exact hf.elim)
def mulOk (i j : Int) : Prop := (-18446744073709551616 < i ∧ i < 18446744073709551616) ∨ (-18446744073709551616 < j ∧ j < 18446744073709551616)
def fMul : F2 := fun d e Q => match d, e with
  | .int i, .int j => mulOk i j ∧ Q (.d (.int (i * j)))
  | .list xs, .int k => (xs.length * k.toNat ≤ 16777216 ∧ -9223372036854775808 ≤ k ∧ k < 9223372036854775808) ∧ Q (.own (List.replicate k.toNat xs).flatten)
  | _, _ => False
theorem RpL.rep {K : Fg} {H : Hp} {O : List Addr} {vs : List V} {xs : List D} (h : RpL K H O vs xs) : ∀ n : Nat, RpL K H O (List.replicate n vs).flatten (List.replicate n xs).flatten
  | 0 => .nil
  | n + 1 => by simp only [List.replicate_succ, List.flatten_cons]; exact RpL.append h (RpL.rep h n)
theorem de_mul (ha : DE X F a ta) (hb : DE X F b tb) : DE X F (.BinOp a .Mult b pos) (dOp2 fMul ta tb) := de_op2 (pe_op (OpR.or op_mul op_rep) ha hb) (by
  intro H O x y d e Qa Q lo wx wy hf k
  have hs := sizeLine_eq
  unfold fMul at hf
  split at hf
  · exact .inl ⟨_, _, wx.int, wy.int, hf.1, k.d _ _ (.int _) hf.2⟩
  · obtain ⟨p, vs, e1, h1, r1⟩ := wx.list
    refine .inr ⟨p, _, vs, e1, wy.int, h1, by omega, by omega, by rw [r1.length]; omega, fun l hl => k.lst l _ _ hl (r1.rep _) hf.2⟩
  · exact hf.elim)
def fMod : F2 := fI2 (fun _ j => 0 < j) fun i j => i % j
theorem de_mod (ha : DE X F a ta) (hb : DE X F b tb) : DE X F (.BinOp a .Mod b pos) (dOp2 fMod ta tb) := de_op2 (pe_op op_mod ha hb) opd_i2
def fFdiv : F2 := fI2 (fun _ j => 0 < j ∧ j < 1073741824) fun i j => i / j
theorem de_fdiv (ha : DE X F a ta) (hb : DE X F b tb) : DE X F (.BinOp a .FloorDiv b pos) (dOp2 fFdiv ta tb) := de_op2 (pe_op op_fdiv ha hb) opd_i2
def fPow : F2 := fI2 (fun i j => 0 ≤ j ∧ j ≤ 1000000 ∧ i.natAbs < 18446744073709551616) fun i j => i ^ j.toNat
theorem de_pow (ha : DE X F a ta) (hb : DE X F b tb) : DE X F (.BinOp a .Pow b pos) (dOp2 fPow ta tb) := de_op2 (pe_op op_pow ha hb) opd_i2
def fNeg : F1 := fun d Q => match d with
  | .int i => Q (.d (.int (-i)))
  | _ => False
theorem de_neg (ha : DE X F a ta) : DE X F (.UnaryOp .USub a pos) (dOp1 fNeg ta) := de_op1 (pe_un un_neg ha) (by
  intro H O x d Qa Q lo wx hf k
  unfold fNeg at hf
  split at hf
  · exact ⟨_, wx.int, k.d _ _ (.int _) hf⟩
  · exact hf.elim)
/-! ### comparisons -/
def fCmp (g : Int → Int → Bool) : F2 := fun d e Q => match d, e with
  | .int i, .int j => Q (.d (.bool (g i j)))
  | _, _ => False
theorem opd_cmp {g : Int → Int → Bool} : OpD X.K (rI0 fun i j => .bl (g i j)) (fCmp g) := by
  intro H O x y d e Qa Q lo wx wy hf k
  unfold fCmp at hf
  split at hf
  · exact ⟨_, _, wx.int, wy.int, k.d _ _ (.bl _) hf⟩
  · exact hf.elim
abbrev fLt : F2 := fCmp fun i j => decide (i < j)
abbrev fLe : F2 := fCmp fun i j => decide (i ≤ j)
abbrev fGt : F2 := fCmp fun i j => decide (j < i)
abbrev fGe : F2 := fCmp fun i j => decide (j ≤ i)
/-- an operator of comparison with its rule over data -/
structure CmpD (X : Cx) (op : CmpOp) (f : F2) : Prop where
  ex : ∃ r : R2, OpR X (compareOp op) r ∧ OpD X.K r f
theorem cd_lt : CmpD X .Lt fLt := ⟨_, op_lt, opd_cmp⟩
theorem cd_le : CmpD X .LtE fLe := ⟨_, op_le, opd_cmp⟩
theorem cd_gt : CmpD X .Gt fGt := ⟨_, op_gt, opd_cmp⟩
theorem cd_ge : CmpD X .GtE fGe := ⟨_, op_ge, opd_cmp⟩
def shp (d : D) (P : Prop) : Prop := match SeqAt.shaped d with
  | true => P
  | false => False
theorem shp_ok {d : D} {P : Prop} (h : shp d P) : SeqAt.shaped d = true ∧ P := by
  unfold shp at h
  split at h
  · exact ⟨by assumption, h⟩
  · exact h.elim
theorem shp_of {d : D} {P : Prop} (h : SeqAt.shaped d = true) (p : P) : shp d P := by unfold shp; rw [h]; exact p
@[irreducible] def fEq : F2 := fun d e Q => shp d (shp e (Q (.d (.bool (PyData.eqv d e))))) ∨ ∃ x y, d = .str x ∧ e = .str y ∧ Q (.d (.bool (decide (x = y))))
@[irreducible] def fNe : F2 := fun d e Q => shp d (shp e (Q (.d (.bool (!PyData.eqv d e))))) ∨ ∃ x y, d = .str x ∧ e = .str y ∧ Q (.d (.bool (!decide (x = y))))
theorem dec_str (x y : Str) : decide (V.str x = V.str y) = decide (x = y) := by
  by_cases h : x = y
  · subst h; simp
  · rw [decide_eq_false h, decide_eq_false (fun z => h (by cases z; rfl))]
theorem cd_eq (hu : X.A.units + 64 < cLine) : CmpD X .Eq fEq := ⟨_, OpR.or (op_eqD hu) op_eq, by
  intro H O x y d e Qa Q lo wx wy hf k
  unfold fEq at hf
  rcases hf with hf | ⟨p, q, rfl, rfl, hf⟩
  · obtain ⟨h1, hf⟩ := shp_ok hf
    obtain ⟨h2, hf⟩ := shp_ok hf
    exact .inl ⟨d, e, wx.dp, wy.dp, h1, h2, k.d _ _ (.bl _) hf⟩
  · have e1 := wx.str
    have e2 := wy.str
    subst e1 e2
    refine .inr ⟨rfl, ?_⟩
    rw [dec_str]
    exact k.d _ _ (.bl _) hf⟩
theorem cd_ne (hu : X.A.units + 64 < cLine) : CmpD X .NotEq fNe := ⟨_, OpR.or (op_neD hu) op_ne, by
  intro H O x y d e Qa Q lo wx wy hf k
  unfold fNe at hf
  rcases hf with hf | ⟨p, q, rfl, rfl, hf⟩
  · obtain ⟨h1, hf⟩ := shp_ok hf
    obtain ⟨h2, hf⟩ := shp_ok hf
    exact .inl ⟨d, e, wx.dp, wy.dp, h1, h2, k.d _ _ (.bl _) hf⟩
  · have e1 := wx.str
    have e2 := wy.str
    subst e1 e2
    refine .inr ⟨rfl, ?_⟩
    rw [dec_str]
    exact k.d _ _ (.bl _) hf⟩
def scD : D → Bool
  | .none => true
  | .bool _ => true
  | .int _ => true
  | .str _ => true
  | _ => false
theorem sc_flat {K : Fg} {H : Hp} {O : List Addr} {v : V} {d : D} (h : Rp K H O v d) (s : scD d = true) : flatV v = true := by
  cases h <;> first | rfl | simp [scD] at s
theorem sc_eq {K : Fg} {H : Hp} {O : List Addr} {v w : V} {d e : D} (h : Rp K H O v d) (h' : Rp K H O w e) (s : scD d = true) (s' : scD e = true) : eqV v w = PyData.eqv d e := by
  cases h <;> (cases h' <;> first | (simp only [eqV, PyData.eqv] <;> done) | rfl | simp [scD] at s | simp [scD] at s')
theorem sc_any {K : Fg} {H : Hp} {O : List Addr} {w : V} {e : D} (h' : Rp K H O w e) (s' : scD e = true) : ∀ {vs : List V} {xs : List D}, RpL K H O vs xs → xs.all scD = true → vs.all flatV = true ∧ inV w vs = xs.any fun y => PyData.eqv y e
  | _, _, .nil, _ => ⟨rfl, rfl⟩
  | _, _, .cons h r, s => by
    simp only [List.all_cons, Bool.and_eq_true] at s
    obtain ⟨i1, i2⟩ := sc_any h' s' r s.2
    refine ⟨by simp [sc_flat h s.1, i1], ?_⟩
    unfold inV at i2 ⊢
    rw [List.any_cons, List.any_cons, sc_eq h h' s.1 s', i2]
theorem Vw.sc {K : Fg} {H : Hp} {O : List Addr} {v : V} {d : D} (h : Vw K H O v d) (s : scD d = true) : Rp K H O v d := by
  rcases h with h | ⟨p, vs, xs, e, e2, h1, h2⟩
  · exact h
  · subst e2; simp [scD] at s
def inSc (x : D) (xs : List D) (P : Prop) : Prop := match scD x && xs.all scD with
  | true => P
  | false => False
def fInG (neg : Bool) : F2 := fun x d Q => match d with
  | .list xs => inSc x xs (Q (.d (.bool (if neg then !(xs.any fun y => PyData.eqv y x) else xs.any fun y => PyData.eqv y x))))
  | .tuple xs => inSc x xs (Q (.d (.bool (if neg then !(xs.any fun y => PyData.eqv y x) else xs.any fun y => PyData.eqv y x))))
  | _ => False
theorem opd_in {neg : Bool} : OpD X.K (rIn X.K neg) (fInG neg) := by
  intro H O x y d e Qa Q lo wx wy hf k
  have fin : ∀ (xs : List D) (P : Prop), inSc d xs P → scD d = true ∧ xs.all scD = true ∧ P := by
    intro xs P h
    unfold inSc at h
    split at h
    · rename_i e
      simp only [Bool.and_eq_true] at e
      exact ⟨e.1, e.2, h⟩
    · exact h.elim
  unfold fInG at hf
  split at hf
  · rename_i xs
    obtain ⟨s1, s2, hf⟩ := fin _ _ hf
    obtain ⟨p, vs, e1, h1, r1⟩ := wy.list
    obtain ⟨f1, f2⟩ := sc_any (wx.sc s1) s1 r1 s2
    refine ⟨p, vs, e1, .inl (.inl (.inl h1)), sc_flat (wx.sc s1) s1, f1, k.d _ _ (.bl _) ?_⟩
    rw [f2]; exact hf
  · rename_i xs
    obtain ⟨s1, s2, hf⟩ := fin _ _ hf
    obtain ⟨p, vs, e1, h1, r1⟩ := wy.tuple
    obtain ⟨f1, f2⟩ := sc_any (wx.sc s1) s1 r1 s2
    refine ⟨p, vs, e1, .inr h1, sc_flat (wx.sc s1) s1, f1, k.d _ _ (.bl _) ?_⟩
    rw [f2]; exact hf
  · exact hf.elim
abbrev fIn : F2 := fInG false
abbrev fNotIn : F2 := fInG true
theorem cd_in : CmpD X .In fIn := ⟨_, op_in_seq, opd_in⟩
theorem cd_notIn : CmpD X .NotIn fNotIn := ⟨_, op_notIn_seq, opd_in⟩
theorem de_cmp {op : CmpOp} {f : F2} (h : CmpD X op f) (ha : DE X F a ta) (hb : DE X F b tb) (hm : behindInMarks op b = false) : DE X F (.Compare a [op] [b] pos) (dOp2 f ta tb) := by
  obtain ⟨r, h1, h2⟩ := h.ex
  exact de_op2 (pe_cmpR h1 ha hb hm) h2
theorem dt_cmp {op : CmpOp} {f : F2} (h : CmpD X op f) (ha : DE X F a ta) (hb : DE X F b tb) (hm : behindInMarks op b = false) : DT X F (.Compare a [op] [b] pos) (dTst (dOp2 f ta tb)) := by
  obtain ⟨r, h1, h2⟩ := h.ex
  refine PT_imp (pt_cmpR h1 ha hb hm) fun σ H Q hh => ?_
  have q := tst_lift hh
  obtain ⟨O, ds, Qa, R, ht, hq⟩ := q
  exact ⟨O, ds, _, R, ht, fun x ds1 v H1 O1 s1 R1 rx hx => ⟨O1, ds1, _, R1, hx, fun y ds2 w H2 O2 s2 R2 ry hy => by
    have rx2 := RpV.step R1 (s1.mutO R) rx s2
    split at hy
    · rename_i d e e1 e2
      exact h2 H2 O2 v w d e _ _ R2.lo (RpV.vw R2 rx2 e1) (RpV.vw R2 ry e2) hy (mkCont R (s1.trans s2) R2 hq)
    · exact hy.elim⟩⟩
def isNo : D → Bool
  | .none => true
  | _ => false
def fIsN : F1 := fun d Q => Q (.d (.bool (isNo d)))
def fNotN : F1 := fun d Q => Q (.d (.bool (!isNo d)))
theorem isn_of {K : Fg} {H : Hp} {O : List Addr} {v : V} {d : D} (h : Vw K H O v d) : decide (v = .non) = isNo d := by
  rcases h with h | ⟨p, vs, xs, e, e2, h1, h2⟩
  · cases h <;> rfl
  · subst e e2; rfl
theorem opd_isn : OpD X.K (fun x y H Q => y = .non ∧ Q (.bl (decide (x = .non))) H) (fun d e Q => match e with | .none => fIsN d Q | _ => False) := by
  intro H O x y d e Qa Q lo wx wy hf k
  split at hf
  · refine ⟨wy.none, k.d _ _ (.bl _) ?_⟩
    rw [isn_of wx]
    exact hf
  · exact hf.elim
theorem opd_notn : OpD X.K (fun x y H Q => y = .non ∧ Q (.bl (!decide (x = .non))) H) (fun d e Q => match e with | .none => fNotN d Q | _ => False) := by
  intro H O x y d e Qa Q lo wx wy hf k
  split at hf
  · refine ⟨wy.none, k.d _ _ (.bl _) ?_⟩
    rw [isn_of wx]
    exact hf
  · exact hf.elim
def fIs : F2 := fun d e Q => match e with
  | .none => fIsN d Q
  | _ => False
def fIsNot : F2 := fun d e Q => match e with
  | .none => fNotN d Q
  | _ => False
theorem cd_is : CmpD X .Is fIs := ⟨_, op_isN, opd_isn⟩
theorem cd_isnot : CmpD X .IsNot fIsNot := ⟨_, op_notN, opd_notn⟩
/-! a < b < c -/
def dChain (f g : F2) (ta tb tc : DTE) : DTE := fun ds Q => ta ds fun x ds1 => tb ds1 fun y ds2 => match peek ds2 x, peek ds2 y with
  | some d, some e => f d e fun r => match r with
    | .d (.bool true) => tc ds2 fun z ds3 => match peek ds3 y, peek ds3 z with
      | some e', some h => g e' h fun r' => Q r' ds3
      | _, _ => False
    | .d (.bool false) => Q (.d (.bool false)) ds2
    | _ => False
  | _, _ => False
theorem chain_lift {K : Fg} {σ : St} {H : Hp} {Q : VK} {r r' : R2} {f g : F2} (h1 : OpD K r f) (h2 : OpD K r' g) (h : lift K F (dChain f g ta tb tc) σ H Q) : tChain r r' (lift K F ta) (lift K F tb) (lift K F tc) σ H Q := by
  obtain ⟨O, ds, Qa, R, ht, hq⟩ := h
  exact ⟨O, ds, _, R, ht, fun x ds1 v H1 O1 s1 R1 rx hx => ⟨O1, ds1, _, R1, hx, fun y ds2 w H2 O2 s2 R2 ry hy => by
    have rx2 := RpV.step R1 (s1.mutO R) rx s2
    have s12 := s1.trans s2
    have ryO := RpV.old ry (Step.gone R s1 s2)
    split at hy
    · rename_i d e e1 e2
      refine h1 H2 O2 v w d e _ _ R2.lo (RpV.vw R2 rx2 e1) (RpV.vw R2 ry e2) hy ⟨fun v' x' rp hh => ?_, fun p vs xs hp rl hh => ?_, fun p o vs xs hp ho rl hh => ?_⟩
      · split at hh
        · rename_i eb
          cases eb
          cases rp
          refine ⟨true, rfl, iteT ⟨O2, ds2, _, R2, hh, fun z ds3 u H3 O3 s3 R3 rz hz => ?_⟩⟩
          have ry3 := RpV.step R2 (s12.mutO R) ryO s3
          split at hz
          · rename_i e' h e1' e2'
            exact h2 H3 O3 w u e' h _ Q R3.lo (RpV.vw R3 ry3 e1') (RpV.vw R3 rz e2') hz (mkCont R (s12.trans s3) R3 hq)
          · exact hz.elim
        · rename_i eb
          cases eb
          cases rp
          exact ⟨false, rfl, iteF (hq (.d (.bool false)) ds2 (.bl false) H2 O2 s12 R2 (.bl false) hh)⟩
        · exact hh.elim
      · exact hh.elim
      · exact hh.elim
    · exact hy.elim⟩⟩
theorem de_chain {op op' : CmpOp} {f g : F2} (h : CmpD X op f) (h' : CmpD X op' g) (ha : DE X F a ta) (hb : DE X F b tb) (hc : DE X F c tc) (hm : lastMarks [op, op'] [b, c] = false := by with_unfolding_all rfl) :
    DE X F (.Compare a [op, op'] [b, c] pos) (dChain f g ta tb tc) := by
  obtain ⟨r, h1, h2⟩ := h.ex
  obtain ⟨r', h1', h2'⟩ := h'.ex
  exact PE_imp (pe_chain h1 h1' ha hb hc hm) fun σ H Q hh => chain_lift h2 h2' hh
theorem dt_chain {op op' : CmpOp} {f g : F2} (h : CmpD X op f) (h' : CmpD X op' g) (ha : DE X F a ta) (hb : DE X F b tb) (hc : DE X F c tc) (hm : lastMarks [op, op'] [b, c] = false := by with_unfolding_all rfl) :
    DT X F (.Compare a [op, op'] [b, c] pos) (dTst (dChain f g ta tb tc)) := by
  obtain ⟨r, h1, h2⟩ := h.ex
  obtain ⟨r', h1', h2'⟩ := h'.ex
  exact PT_imp (pt_chain h1 h1' ha hb hc hm) fun σ H Q hh => chain_lift h2 h2' (tst_lift hh)
/-! ### subscripts and slices -/
theorem atI_map {K : Fg} {H : Hp} {O : List Addr} {vs : List V} {xs : List D} {i : Int} {d : D} (r : RpL K H O vs xs) (h : atI xs i = some d) : ∃ v, atI vs i = some v ∧ Rp K H O v d := by
  unfold atI at h ⊢
  rw [r.length]
  cases e : ixN xs.length i with
  | none => rw [e] at h; simp at h
  | some j =>
    rw [e] at h
    exact r.get (by simpa using h)
def someD {α : Type} (o : Option α) (P : α → Prop) : Prop := match o with
  | some x => P x
  | none => False
def fIx : F2 := fun d e Q => match d, e with
  | .list xs, .int i => someD (atI xs i) fun x => Q (.d x)
  | .tuple xs, .int i => someD (atI xs i) fun x => Q (.d x)
  | .str z, .int i => z.length ≤ 16777216 ∧ someD (atI z.cps.toList i) fun c => Q (.d (.str ⟨#[c]⟩))
  | _, _ => False
theorem opd_ix : OpD X.K (rIx X.K) fIx := by
  intro H O x y d e Qa Q lo wx wy hf k
  unfold fIx at hf
  split at hf
  · obtain ⟨p, vs, e1, h1, r1⟩ := wx.list
    rename_i xs i
    cases e : atI xs i with
    | none => rw [e] at hf; exact hf.elim
    | some z =>
      rw [e] at hf
      obtain ⟨v, e2, r2⟩ := atI_map r1 e
      exact .inl ⟨p, vs, i, v, e1, wy.int, .inl (.inl h1), e2, k.d _ _ r2 hf⟩
  · obtain ⟨p, vs, e1, h1, r1⟩ := wx.tuple
    rename_i xs i
    cases e : atI xs i with
    | none => rw [e] at hf; exact hf.elim
    | some z =>
      rw [e] at hf
      obtain ⟨v, e2, r2⟩ := atI_map r1 e
      exact .inr (.inl ⟨p, vs, i, v, e1, wy.int, h1, e2, k.d _ _ r2 hf⟩)
  · rename_i z i
    obtain ⟨hz, hf⟩ := hf
    cases e : atI z.cps.toList i with
    | none => rw [e] at hf; exact hf.elim
    | some c =>
      rw [e] at hf
      exact .inr (.inr ⟨z, i, c, wx.str, wy.int, by rw [sizeLine_eq]; exact hz, e, k.d _ _ (.str _) hf⟩)
  · exact hf.elim
theorem de_ix (ha : DE X F a ta) (hb : DE X F b tb) (hs : PlainIx b) : DE X F (.Subscript a b pos) (dOp2 fIx ta tb) := de_op2 (pe_ix ix_seq ha hb hs) opd_ix
def cutD (xs : List D) (lo hi : Option Int) : List D := (xs.drop (HT.sIx xs.length 0 lo)).take (HT.sIx xs.length xs.length hi - HT.sIx xs.length 0 lo)
theorem cut_rpl {K : Fg} {H : Hp} {O : List Addr} {vs : List V} {xs : List D} (r : RpL K H O vs xs) (lo hi : Option Int) : RpL K H O (cutV vs lo hi) (cutD xs lo hi) := by
  unfold cutV cutD
  rw [r.length]
  exact (r.drop _).take _
def rSlF (K : Fg) : V → Option Int → Option Int → Hp → VK → Prop := fun x lo hi H Q => ∃ a xs, x = .ref a ∧ SqT K H a xs ∧
  (HT.sIx xs.length 0 lo = 0 ∧ HT.sIx xs.length xs.length hi = xs.length → Q x H) ∧ (¬ (HT.sIx xs.length 0 lo = 0 ∧ HT.sIx xs.length xs.length hi = xs.length) → ∀ p o, H p = none → o.dict = none → Q (.ref p) (upd H p (.frz o (.tup (cutV xs lo hi)))))
theorem sl_tupF : SlR X (rSlF X.K) := by
  intro pins s σ H x v vl vu lo hi sl Q I rx hs pl pu h
  obtain ⟨a, xs, ex, hx, q1, q2⟩ := h
  subst ex
  cases rx
  obtain ⟨is, r, ht, hz⟩ := I.tuple hx
  have hn : is.toArray.size = xs.length := by simpa using r.length.symm
  refine ⟨"tuple", _, PyProof.Rows.slot_tuple_getitem.lookup, ht.typeIs, ?_⟩
  by_cases hw : HT.sIx xs.length 0 lo = 0 ∧ HT.sIx xs.length xs.length hi = xs.length
  · exact getItem_tuple_whole ht hs pl pu (by rw [hn]; exact hw) ⟨.ref a, H, I, rfl, q1 hw⟩
  · refine HT.getItem_tuple_cut ht hs pl pu (by rw [hn]; exact hw) ?_ (by rw [hn]; exact hz)
    rw [hn]
    refine ⟨.ref s.heap.objs.size, _, I.laid (t' := s.toks) (o := .frz { cls := .type "tuple", data := .seq ((is.drop (HT.sIx xs.length 0 lo)).take (HT.sIx xs.length xs.length hi - HT.sIx xs.length 0 lo)).toArray } (.tup (cutV xs lo hi))) (fun b ob e => Heap.get?_push_of_some _ e) (Nat.le_refl _) ?_, rfl, q2 hw _ _ I.fresh rfl⟩
    have g := Heap.get?_push_size s.heap (o := { cls := .type "tuple", data := .seq ((is.drop (HT.sIx xs.length 0 lo)).take (HT.sIx xs.length xs.length hi - HT.sIx xs.length 0 lo)).toArray }) rfl
    exact ⟨g, Nat.le_trans (cutV_length xs lo hi) hz, _, (r.drop _).take _, _, g, rfl, _, rfl⟩
abbrev DTO := DS → (Option Int → DS → Prop) → Prop
def liftO (K : Fg) (F : Fx) (t : DTO) : TO := fun σ H Q => ∃ O ds Qa, Rep K F H O σ ds ∧ t ds Qa ∧ ∀ o ds' H' O', Step σ H O ds H' O' ds' → Rep K F H' O' σ ds' → Qa o ds' → Q o H'
abbrev DO (X : Cx) (F : Fx) (e : Option Expr) (t : DTO) : Prop := PO X e (liftO X.K F t)
def dNoP : DTO := fun ds Q => Q none ds
def dP (t : DTE) : DTO := fun ds Q => t ds fun x ds1 => match peek ds1 x with
  | some (.int i) => Q (some i) ds1
  | _ => False
theorem PO_imp {X : Cx} {e : Option Expr} {t t' : TO} (h : PO X e t) (hi : ∀ σ H Q, t' σ H Q → t σ H Q) : PO X e t' := ⟨fun pins s σ H Q I q => h.run pins s σ H Q I (hi _ _ _ q)⟩
theorem do_none : DO X F none dNoP := PO_imp po_none fun σ H Q ⟨O, ds, Qa, R, ht, hq⟩ => hq none ds H O Step.refl R ht
theorem do_some (h : DE X F e ta) : DO X F (some e) (dP ta) := PO_imp (po_some h) fun σ H Q ⟨O, ds, Qa, R, ht, hq⟩ => ⟨O, ds, _, R, ht, fun x ds1 v H1 O1 s1 R1 rx hx => by
  split at hx
  · rename_i i e
    exact ⟨i, (RpV.vw R1 rx e).int, hq (some i) ds1 H1 O1 s1 R1 hx⟩
  · exact hx.elim⟩
def fSl (lo hi : Option Int) : F1 := fun d Q => match d with
  | .list xs => Q (.own (cutD xs lo hi))
  | .tuple xs => Q (.d (.tuple (cutD xs lo hi)))
  | .str z => z.length ≤ 16777216 ∧ Q (.d (.str (cutS z lo hi)))
  | _ => False
def dSl (ta : DTE) (tl th : DTO) : DTE := fun ds Q => ta ds fun x ds1 => tl ds1 fun l ds2 => th ds2 fun u ds3 => match peek ds3 x with
  | some d => fSl l u d fun r => Q r ds3
  | none => False
theorem de_sl {lo hi : Option Expr} {tl th : DTO} {p2 : Pos} (he : DE X F e ta) (hl : DO X F lo tl) (hu : DO X F hi th) : DE X F (.Subscript e (.Slice lo hi none p2) pos) (dSl ta tl th) :=
  PE_imp (pe_slice (SlR.or sl_list (SlR.or sl_tupF sl_str)) he hl hu) fun σ H Q ⟨O, ds, Qa, R, ht, hq⟩ => ⟨O, ds, _, R, ht, fun x ds1 v H1 O1 s1 R1 rx hx =>
    ⟨O1, ds1, _, R1, hx, fun l ds2 H2 O2 s2 R2 hl => ⟨O2, ds2, _, R2, hl, fun u ds3 H3 O3 s3 R3 hu => by
      have rx3 := RpV.step R1 (s1.mutO R) rx (s2.trans s3)
      have k := mkCont R (s1.trans (s2.trans s3)) R3 hq
      split at hu
      · rename_i d e
        have w := RpV.vw R3 rx3 e
        unfold fSl at hu
        split at hu
        · obtain ⟨p, vs, e1, h1, r1⟩ := w.list
          exact .inl ⟨p, vs, e1, .inl (.inl h1), fun q hq => k.lst q _ _ hq (cut_rpl r1 l u) hu⟩
        · rename_i xs
          obtain ⟨p, vs, e1, h1, r1⟩ := w.tuple
          refine .inr (.inl ⟨p, vs, e1, h1, fun hw => ?_, fun _ q o hq ho => k.tup q o _ _ hq ho (cut_rpl r1 l u) hu⟩)
          have ec : cutD xs l u = xs := by
            unfold cutD
            rw [r1.length] at hw
            rw [hw.1, hw.2]
            simp
          rw [ec] at hu
          exact k.d _ _ w.rp hu
        · exact .inr (.inr ⟨_, w.str, by rw [sizeLine_eq]; exact hu.1, k.d _ _ (.str _) hu.2⟩)
        · exact hu.elim
      · exact hu.elim⟩⟩⟩
end
end SF

/-! SL12: repr of data, isinstance, built-ins over data. -/
namespace PySem
open PySem.Spec PyProof.Rows
section
variable {prog : Program} {w : World} {A : Around} {E : Value → Shared → Prop} {s : Shared}
theorem sf_repr {T id : String} {v : Value} {Q : Value → Shared → Prop} (hT : s.TypeIs v T) (slot : Slot T "__repr__" id) (hu : A.units + 1 < cLine)
    (h : wpAny (model prog w) A.in1 (call (.builtin id) [v]) (fun r s' => ∃ x t, r = .str x t ∧ Q r s') E s) : wpAny (model prog w) A (call (.builtin "repr") [v]) Q E s := by
  refine Calls.call_function_entry F.kind_repr F.plain_repr F.entry_repr (F.args_repr1 v) ?_
  unfold Builtin.«repr»
  refine wpAny_bind (m := oneArg "repr" _) (wpAny_pure (wpAny_bind (wpAny_cRoomFor hu (wpAny_bind (wpAny_specialOf (name := Str.ofString "__repr__") hT slot.lookup ?_)))))
  refine wpAny_bind (m := callSpecialIfBound? v (Str.ofString "__repr__")) (wpAny_callSpecialIfBound?_slot (name := Str.ofString "__repr__") hT slot (wpAny_mono h ?_ fun _ _ z => z))
  rintro r s' ⟨x, t, er, q⟩
  subst er
  exact wpAny_bind (wpAny_isInstance (T := "str") (b := true) rfl isSubtype_str_str (wpAny_pure ⟨_, rfl, q⟩))
theorem sf_reprG {T id : String} {v : Value} {Q : Value → Shared → Prop} (hT : s.TypeIs v T) (slot : SlotG T "__repr__" id) (hu : A.units + 1 < cLine)
    (h : wpAny (model prog w) A.in1 (call (.builtin id) [v]) (fun r s' => ∃ x t, r = .str x t ∧ Q r s') E s) : wpAny (model prog w) A (call (.builtin "repr") [v]) Q E s := by
  refine Calls.call_function_entry F.kind_repr F.plain_repr F.entry_repr (F.args_repr1 v) ?_
  unfold Builtin.«repr»
  refine wpAny_bind (m := oneArg "repr" _) (wpAny_pure (wpAny_bind (wpAny_cRoomFor hu (wpAny_bind (wpAny_specialOf (name := Str.ofString "__repr__") hT slot.lookup ?_)))))
  refine wpAny_bind (m := callSpecialIfBound? v (Str.ofString "__repr__")) (wpAny_callSpecialIfBound?_slotG (name := Str.ofString "__repr__") hT slot (wpAny_mono h ?_ fun _ _ z => z))
  rintro r s' ⟨x, t, er, q⟩
  subst er
  exact wpAny_bind (wpAny_isInstance (T := "str") (b := true) rfl isSubtype_str_str (wpAny_pure ⟨_, rfl, q⟩))
theorem sf_repr_data {v : Value} {d : PyData} {as : List Addr} (r : Reads s.heap v d as) (hs : d.showable = true) (hd : d.hasDict = false) (hz : d.shown.length ≤ sizeLine) {Q : Value → Shared → Prop}
    (hg : A.guards = some []) (hu : A.units + 1 + d.depth < cLine) (hQ : ∀ h' tk t, (∀ b o, s.heap.get? b = some o → h'.get? b = some o) → Q (.str d.shown t) { s with heap := h', toks := tk }) :
    wpAny (model prog w) A (call (.builtin "repr") [v]) Q E s := by
  cases r with
  | none => exact P.repr_of_none (by simpa only [PyData.shown] using hQ s.heap _ _ fun _ _ e => e)
  | bool b => exact P.repr_of_bool (by simpa only [PyData.shown] using hQ s.heap _ _ fun _ _ e => e)
  | int i t => exact P.repr_of_int (by simpa [PyData.showable] using hs) (by simpa only [PyData.shown] using hQ s.heap _ _ fun _ _ e => e)
  | str x t => exact P.repr_of_str (by simpa only [PyData.shown] using hQ s.heap _ _ fun _ _ e => e) (by simpa only [PyData.shown] using hz)
  | @list a o vs n xs as0 h1 h2 h3 h4 =>
    have hz' : (listText (PyData.shownAll xs)).length ≤ sizeLine := by simpa only [PyData.shown] using hz
    have nd : PyData.hasDictAll xs = false := by simpa [PyData.hasDict] using hd
    obtain ⟨bs, hb, hk⟩ := ReprAllK.of_readsAll (prog := prog) (w := w) h4 (by simpa [PyData.showable] using hs) (fun hx => by rw [nd] at hx; cases hx) (fun t ht => Nat.le_trans (listText_mem_le ht) hz')
    have r' : Reads s.heap (.ref a) (.list xs) _ := .list h1 h2 h3 h4
    have hna : a ∉ bs := not_mem_of_deeper r' (by simp only [PyData.depth]; omega) hb
    simp only [PyData.depth] at hu
    simp only [PyData.shown] at hQ
    refine sf_repr ⟨_, h1, h2⟩ F.slot_list_repr (by omega) ?_
    obtain ⟨l⟩ := vs
    cases l with
    | nil =>
      have h4' : ReadsAll s.heap [] xs _ := h4
      cases h4'
      simp only [PyData.shownAll, listText_nil] at hQ
      exact call_list_repr_empty ⟨_, h1, h2⟩ h1 h3 ⟨_, _, rfl, hQ s.heap _ _ fun _ _ e => e⟩
    | cons x l =>
      exact call_list_reprK h1 h2 h3 hna (by simpa using hk.length_eq) (fun i y e => hk.item i y (by simpa using e)) (show A.in1.guards = some [] from hg) (fun b _ => Clear.nil b) (by show A.units + 1 + _ < _; omega) (fun _ _ e => e) (fun h' u tk hk' => ⟨_, _, rfl, hQ h' tk u hk'⟩) hz'
  | @tuple a o vs n xs as0 h1 h2 h3 h4 =>
    have hz' : (tupleText (PyData.shownAll xs)).length ≤ sizeLine := by simpa only [PyData.shown] using hz
    have nd : PyData.hasDictAll xs = false := by simpa [PyData.hasDict] using hd
    obtain ⟨bs, hb, hk⟩ := ReprAllK.of_readsAll (prog := prog) (w := w) h4 (by simpa [PyData.showable] using hs) (fun hx => by rw [nd] at hx; cases hx) (fun t ht => Nat.le_trans (tupleText_mem_le ht) hz')
    have r' : Reads s.heap (.ref a) (.tuple xs) _ := .tuple h1 h2 h3 h4
    have hna : a ∉ bs := not_mem_of_deeper r' (by simp only [PyData.depth]; omega) hb
    simp only [PyData.depth] at hu
    simp only [PyData.shown] at hQ
    refine sf_reprG ⟨_, h1, h2⟩ F.slot_tuple_repr (by omega) ?_
    exact call_tuple_reprK h1 h2 h3 hna hk (show A.in1.guards = some [] from hg) (fun b _ => Clear.nil b) (by show A.units + 1 + _ < _; omega) (fun _ _ e => e) (fun h' u tk hk' => ⟨_, _, rfl, hQ h' tk u hk'⟩) hz'
  | dict => simp [PyData.hasDict] at hd
end
end PySem
namespace SF
open PySem PySem.Spec PyProof.Rows L2
section
variable {X : Cx} {F : Fx} {e a b c : Expr} {ta tb tc : DTE} {pos p : Pos}
/-- what repr asks of data: numbers below 1,920 bits, a text that is not too long, not too deep -/
structure Shows (d : D) : Prop where
  sh : d.showable = true
  nd : d.hasDict = false
  sz : d.shown.length ≤ 16777216
  dp : d.depth ≤ 60
theorem call_reprD (hr : ∃ k, RoomG k X.A) : CallR X (.builtin "repr") (fun xs H Q => ∃ x d, xs = [x] ∧ Dp X.K H x d ∧ Shows d ∧ Q (.str d.shown) H) := by
  intro pins s σ H xs us Q I r h
  obtain ⟨x, d, ex, hd, sh, q⟩ := h
  subst ex
  obtain ⟨u, eu, rx⟩ := vals1 r
  subst eu
  obtain ⟨as, rd⟩ := Dp.reads I d x u hd rx
  obtain ⟨k, hr⟩ := hr
  have hu := hr.rm.units
  have := sh.dp
  refine sf_repr_data rd sh.sh sh.nd (by rw [sizeLine_eq]; exact sh.sz) hr.gd (by omega) fun h' tk t kp => ?_
  exact ⟨.str d.shown, H, I.kept kp, ⟨t, rfl⟩, q⟩
def fRepr : FN := fun ds Q => match ds with
  | [d] => Shows d ∧ Q (.d (.str d.shown))
  | _ => False
theorem cad_repr : CallD X.K (fun xs H Q => ∃ x d, xs = [x] ∧ Dp X.K H x d ∧ Shows d ∧ Q (.str d.shown) H) fRepr := by
  intro H O xs ds Qa Q lo w hf k
  unfold fRepr at hf
  split at hf
  · cases w with
    | cons w1 w2 =>
      cases w2
      exact ⟨_, _, rfl, w1.dp, hf.1, k.d _ _ (.str _) hf.2⟩
  · exact hf.elim
/-! ### isinstance -/
def isB : String → D → Bool
  | "int", .int _ => true
  | "int", .bool _ => true
  | "bool", .bool _ => true
  | "str", .str _ => true
  | "list", .list _ => true
  | "tuple", .tuple _ => true
  | _, _ => false
def tyD : D → String
  | .none => "NoneType"
  | .bool _ => "bool"
  | .int _ => "int"
  | .str _ => "str"
  | .list _ => "list"
  | .tuple _ => "tuple"
  | .dict _ => "dict"
theorem Vw.ty {K : Fg} {H : Hp} {O : List Addr} {v : V} {d : D} (h : Vw K H O v d) : TyX K H v (.type (tyD d)) := by
  rcases h with h | ⟨p, vs, xs, e, e2, h1, h2⟩
  · cases h with
    | non => exact .base .non
    | bl b => exact .base (.bl b)
    | int i => exact .base (.int i)
    | str x => exact .base (.str x)
    | lst h r => exact .base (.lst h.1)
    | tup h r =>
      rcases h with ⟨o, h, _⟩ | ⟨h, _⟩
      · exact .fTuple h
      · rcases h with (h | ⟨_, h⟩) | ⟨o, its, n, h, hc, _⟩
        · cases h
        · cases h
        · exact .kTuple h hc
  · subst e e2
    exact .base (.lst h1)
/-- the answer for a built-in class -/
structure IsT (T : String) : Prop where
  ok : ∀ d : D, kitB (tyD d) T = some (isB T d) ∨ ∃ k, d = .dict k
theorem isT_int : IsT "int" := ⟨fun d => by
  cases d with
  | none => exact .inl (show kitB "NoneType" "int" = some false by decide +kernel)
  | bool b => exact .inl (show kitB "bool" "int" = some true by decide +kernel)
  | int i => exact .inl (show kitB "int" "int" = some true by decide +kernel)
  | str x => exact .inl (show kitB "str" "int" = some false by decide +kernel)
  | list x => exact .inl (show kitB "list" "int" = some false by decide +kernel)
  | tuple x => exact .inl (show kitB "tuple" "int" = some false by decide +kernel)
  | dict k => exact .inr ⟨k, rfl⟩⟩
theorem isT_bool : IsT "bool" := ⟨fun d => by
  cases d with
  | none => exact .inl (show kitB "NoneType" "bool" = some false by decide +kernel)
  | bool b => exact .inl (show kitB "bool" "bool" = some true by decide +kernel)
  | int i => exact .inl (show kitB "int" "bool" = some false by decide +kernel)
  | str x => exact .inl (show kitB "str" "bool" = some false by decide +kernel)
  | list x => exact .inl (show kitB "list" "bool" = some false by decide +kernel)
  | tuple x => exact .inl (show kitB "tuple" "bool" = some false by decide +kernel)
  | dict k => exact .inr ⟨k, rfl⟩⟩
theorem isT_str : IsT "str" := ⟨fun d => by
  cases d with
  | none => exact .inl (show kitB "NoneType" "str" = some false by decide +kernel)
  | bool b => exact .inl (show kitB "bool" "str" = some false by decide +kernel)
  | int i => exact .inl (show kitB "int" "str" = some false by decide +kernel)
  | str x => exact .inl (show kitB "str" "str" = some true by decide +kernel)
  | list x => exact .inl (show kitB "list" "str" = some false by decide +kernel)
  | tuple x => exact .inl (show kitB "tuple" "str" = some false by decide +kernel)
  | dict k => exact .inr ⟨k, rfl⟩⟩
theorem isT_list : IsT "list" := ⟨fun d => by
  cases d with
  | none => exact .inl (show kitB "NoneType" "list" = some false by decide +kernel)
  | bool b => exact .inl (show kitB "bool" "list" = some false by decide +kernel)
  | int i => exact .inl (show kitB "int" "list" = some false by decide +kernel)
  | str x => exact .inl (show kitB "str" "list" = some false by decide +kernel)
  | list x => exact .inl (show kitB "list" "list" = some true by decide +kernel)
  | tuple x => exact .inl (show kitB "tuple" "list" = some false by decide +kernel)
  | dict k => exact .inr ⟨k, rfl⟩⟩
theorem isT_tuple : IsT "tuple" := ⟨fun d => by
  cases d with
  | none => exact .inl (show kitB "NoneType" "tuple" = some false by decide +kernel)
  | bool b => exact .inl (show kitB "bool" "tuple" = some false by decide +kernel)
  | int i => exact .inl (show kitB "int" "tuple" = some false by decide +kernel)
  | str x => exact .inl (show kitB "str" "tuple" = some false by decide +kernel)
  | list x => exact .inl (show kitB "list" "tuple" = some false by decide +kernel)
  | tuple x => exact .inl (show kitB "tuple" "tuple" = some true by decide +kernel)
  | dict k => exact .inr ⟨k, rfl⟩⟩
def fIsi (T : String) : F1 := fun d Q => Q (.d (.bool (isB T d)))
theorem nodict {K : Fg} {H : Hp} {O : List Addr} {v : V} {k : List (D × D)} (h : Vw K H O v (.dict k)) : False := by
  rcases h with h | ⟨p, vs, xs, e, e2, h1, h2⟩
  · cases h
  · cases e2
theorem de_isi {T : Str} {ts : String} {p2 : Pos} (hT : IsT ts) (hg : Gl X "isinstance") (hm : X.mg "isinstance" = none) (hg2 : Gl X T) (hm2 : X.mg T = none) (hv2 : bootBuiltins T = some (.type ts)) (he : DE X F e ta)
    (hs : starEach [e, .Name T p2] X.env = (false, eval e X.env) :: starEach [.Name T p2] X.env := by rfl) (hs2 : starEach [.Name T p2] X.env = (false, eval (.Name T p2) X.env) :: starEach [] X.env := by rfl)
    (hv : bootBuiltins "isinstance" = some (.builtin "isinstance") := by decide +kernel) (hn : T ≠ "__name__" := by decide) (hd : (T == ("__debug__" : Str)) = false := by decide) (hpl : (backTo pos (starEach [.Name T p2] X.env)).any (·.1) = false := by rfl) :
    DE X F (.Call (.Name "isinstance" p) [e, .Name T p2] [] pos) (dOp1 (fIsi ts) ta) :=
  PE_imp (pe_callB call_isi hg hm hv (pa_cons he (pa_cons (pe_bltn (v := .ty ts) hg2 hm2 hv2 rfl hn hd) pa_nil hs2) hs) (by decide) (by decide) hs hpl) fun σ H Q ⟨O, ds, Qa, R, ht, hq⟩ => ⟨O, ds, _, R, ht, fun x ds1 v H1 O1 s1 R1 rx hx => by
    split at hx
    · rename_i d e1
      have w := RpV.vw R1 rx e1
      refine ⟨v, .ty ts, .type (tyD d), .type ts, isB ts d, rfl, .ty ts, w.ty, ?_, (mkCont R s1 R1 hq).d _ _ (.bl _) hx⟩
      rcases hT.ok d with h | ⟨k, h⟩
      · exact kit_ty h
      · subst h; exact (nodict w).elim
    · exact hx.elim⟩
end
end SF

/-! SL13: built-ins and methods over data. -/
namespace SF
open PySem PySem.Spec PyProof.Rows L2
section
variable {X : Cx} {F : Fx} {e a b c : Expr} {es : List Expr} {ta tb tc : DTE} {tA : DTA} {pos p : Pos}
/-- a built-in function with its rule over data -/
structure BlD (X : Cx) (v : Value) (f : FN) : Prop where
  ex : ∃ r : List V → Hp → VK → Prop, CallR X v r ∧ CallD X.K r f
theorem de_bl' {x : Str} {id : String} {f : FN} (h : BlD X (.builtin id) f) (hg : Gl X x) (hm : X.mg x = none) (hv : bootBuiltins x = some (.builtin id)) (ha : DA X F (e :: es) tA) (hn : x ≠ "__name__" := by decide) (hdb : (x == ("__debug__" : Str)) = false := by decide)
    (he : starEach (e :: es) X.env = (false, eval e X.env) :: starEach es X.env := by rfl) (hpl : (backTo pos (starEach es X.env)).any (·.1) = false := by rfl) : DE X F (.Call (.Name x p) (e :: es) [] pos) (dCB f tA) := by
  obtain ⟨r, h1, h2⟩ := h.ex
  exact de_cb (pe_callB h1 hg hm hv ha hn hdb he hpl) h2
theorem de_ty {x : Str} {T : String} {f : FN} (h : BlD X (.type T) f) (hg : Gl X x) (hm : X.mg x = none) (hv : bootBuiltins x = some (.type T)) (ha : DA X F (e :: es) tA) (hn : x ≠ "__name__" := by decide) (hdb : (x == ("__debug__" : Str)) = false := by decide)
    (he : starEach (e :: es) X.env = (false, eval e X.env) :: starEach es X.env := by rfl) (hpl : (backTo pos (starEach es X.env)).any (·.1) = false := by rfl) : DE X F (.Call (.Name x p) (e :: es) [] pos) (dCB f tA) := by
  obtain ⟨r, h1, h2⟩ := h.ex
  exact de_cb (pe_callTy h1 hg hm hv ha hn hdb he hpl) h2
theorem vw1 {K : Fg} {H : Hp} {O : List Addr} {vs : List V} {d : D} (w : VwL K H O vs [d]) : ∃ v, vs = [v] ∧ Vw K H O v d := by
  cases w with
  | cons w1 w2 => cases w2; exact ⟨_, rfl, w1⟩
theorem vw2 {K : Fg} {H : Hp} {O : List Addr} {vs : List V} {d e : D} (w : VwL K H O vs [d, e]) : ∃ v u, vs = [v, u] ∧ Vw K H O v d ∧ Vw K H O u e := by
  cases w with
  | cons w1 w2 =>
    obtain ⟨u, e, w3⟩ := vw1 w2
    subst e
    exact ⟨_, _, rfl, w1, w3⟩
theorem bd_repr (hr : ∃ k, RoomG k X.A) : BlD X (.builtin "repr") fRepr := ⟨_, call_reprD hr, cad_repr⟩
def fLen : FN := fun ds Q => match ds with
  | [.list xs] => Q (.d (.int xs.length))
  | [.tuple xs] => Q (.d (.int xs.length))
  | [.str z] => z.length ≤ 16777216 ∧ Q (.d (.int z.length))
  | _ => False
theorem CallR_or {X : Cx} {v : Value} {r r' : List V → Hp → VK → Prop} (h : CallR X v r) (h' : CallR X v r') : CallR X v (fun xs H Q => r xs H Q ∨ r' xs H Q) := by
  intro pins s σ H xs us Q I rs q
  rcases q with q | q
  · exact h pins s σ H xs us Q I rs q
  · exact h' pins s σ H xs us Q I rs q
theorem bd_len : BlD X (.builtin "len") fLen := ⟨_, CallR_or call_len_seq call_len_str, by
  intro H O xs ds Qa Q lo w hf k
  unfold fLen at hf
  split at hf
  · obtain ⟨v, e, w⟩ := vw1 w
    obtain ⟨p, vs, e1, h1, r1⟩ := w.list
    subst e e1
    exact .inl ⟨p, vs, rfl, .inl (.inl (.inl h1)), k.d _ _ (.int _) (by rw [r1.length]; exact hf)⟩
  · obtain ⟨v, e, w⟩ := vw1 w
    obtain ⟨p, vs, e1, h1, r1⟩ := w.tuple
    subst e e1
    exact .inl ⟨p, vs, rfl, .inr h1, k.d _ _ (.int _) (by rw [r1.length]; exact hf)⟩
  · obtain ⟨v, e, w1⟩ := vw1 w
    subst e
    exact .inr ⟨_, by rw [w1.str], by rw [sizeLine_eq]; exact hf.1, k.d _ _ (.int _) hf.2⟩
  · exact hf.elim⟩
def fAbs : FN := fun ds Q => match ds with
  | [.int i] => Q (.d (.int (if i < 0 then -i else i)))
  | _ => False
theorem bd_abs : BlD X (.builtin "abs") fAbs := ⟨_, call_abs, by
  intro H O xs ds Qa Q lo w hf k
  unfold fAbs at hf
  split at hf
  · obtain ⟨v, e, w1⟩ := vw1 w
    subst e
    exact ⟨_, by rw [w1.int], k.d _ _ (.int _) hf⟩
  · exact hf.elim⟩
/-- min, max: of two numbers; of a list of numbers -/
def fMin : FN := fun ds Q => match ds with
  | [.int i, .int j] => Q (.d (.int (if j < i then j else i)))
  | [.list xs] => someD (intsD xs) fun ns => 0 < ns.length ∧ ∀ m, m ∈ ns → (∀ y, y ∈ ns → m ≤ y) → Q (.d (.int m))
  | _ => False
def fMax : FN := fun ds Q => match ds with
  | [.int i, .int j] => Q (.d (.int (if j > i then j else i)))
  | [.list xs] => someD (intsD xs) fun ns => 0 < ns.length ∧ ∀ m, m ∈ ns → (∀ y, y ∈ ns → y ≤ m) → Q (.d (.int m))
  | _ => False
theorem bd_min (hc : X.calm = true) : BlD X (.builtin "min") fMin := ⟨_, CallR_or (call_min2 hc) (cr_min hc), by
  intro H O xs ds Qa Q lo w hf k
  unfold fMin at hf
  split at hf
  · obtain ⟨v, u, e, w1, w2⟩ := vw2 w
    subst e
    exact .inl ⟨_, _, by rw [w1.int, w2.int], k.d _ _ (.int _) hf⟩
  · rename_i xs
    cases e : intsD xs with
    | none => rw [e] at hf; exact hf.elim
    | some ns =>
      rw [e] at hf
      obtain ⟨v, ev, w⟩ := vw1 w
      obtain ⟨p, vs, e1, h1, r1⟩ := w.list
      subst ev e1
      rw [intsD_ok e] at r1
      have er := r1.ints
      subst er
      exact .inr ⟨p, ns, rfl, .inl (.inl h1), hf.1, fun m h1 h2 => k.d _ _ (.int _) (hf.2 m h1 h2)⟩
  · exact hf.elim⟩
theorem bd_max (hc : X.calm = true) : BlD X (.builtin "max") fMax := ⟨_, CallR_or (call_max2 hc) (cr_max hc), by
  intro H O xs ds Qa Q lo w hf k
  unfold fMax at hf
  split at hf
  · obtain ⟨v, u, e, w1, w2⟩ := vw2 w
    subst e
    exact .inl ⟨_, _, by rw [w1.int, w2.int], k.d _ _ (.int _) hf⟩
  · rename_i xs
    cases e : intsD xs with
    | none => rw [e] at hf; exact hf.elim
    | some ns =>
      rw [e] at hf
      obtain ⟨v, ev, w⟩ := vw1 w
      obtain ⟨p, vs, e1, h1, r1⟩ := w.list
      subst ev e1
      rw [intsD_ok e] at r1
      have er := r1.ints
      subst er
      exact .inr ⟨p, ns, rfl, .inl (.inl h1), hf.1, fun m h1 h2 => k.d _ _ (.int _) (hf.2 m h1 h2)⟩
  · exact hf.elim⟩
def fSum : FN := fun ds Q => match ds with
  | [.list xs] => someD (intsD xs) fun ns => Q (.d (.int ns.sum))
  | _ => False
theorem bd_sum (hc : X.calm = true) : BlD X (.builtin "sum") fSum := ⟨_, cr_sum hc, by
  intro H O xs ds Qa Q lo w hf k
  unfold fSum at hf
  split at hf
  · rename_i xs
    cases e : intsD xs with
    | none => rw [e] at hf; exact hf.elim
    | some ns =>
      rw [e] at hf
      obtain ⟨v, ev, w⟩ := vw1 w
      obtain ⟨p, vs, e1, h1, r1⟩ := w.list
      subst ev e1
      rw [intsD_ok e] at r1
      have er := r1.ints
      subst er
      exact ⟨p, ns, rfl, .inl (.inl h1), k.d _ _ (.int _) hf⟩
  · exact hf.elim⟩
def fAll : FN := fun ds Q => match ds with
  | [.list xs] => someD (boolsD xs) fun bs => Q (.d (.bool (bs.all id)))
  | _ => False
def fAny : FN := fun ds Q => match ds with
  | [.list xs] => someD (boolsD xs) fun bs => Q (.d (.bool (bs.any id)))
  | _ => False
theorem bd_all (hc : X.calm = true) : BlD X (.builtin "all") fAll := ⟨_, cr_all hc, by
  intro H O xs ds Qa Q lo w hf k
  unfold fAll at hf
  split at hf
  · rename_i xs
    cases e : boolsD xs with
    | none => rw [e] at hf; exact hf.elim
    | some ns =>
      rw [e] at hf
      obtain ⟨v, ev, w⟩ := vw1 w
      obtain ⟨p, vs, e1, h1, r1⟩ := w.list
      subst ev e1
      rw [boolsD_ok e] at r1
      have er := r1.bools
      subst er
      exact ⟨p, ns, rfl, .inl (.inl h1), k.d _ _ (.bl _) hf⟩
  · exact hf.elim⟩
theorem bd_any (hc : X.calm = true) : BlD X (.builtin "any") fAny := ⟨_, cr_any hc, by
  intro H O xs ds Qa Q lo w hf k
  unfold fAny at hf
  split at hf
  · rename_i xs
    cases e : boolsD xs with
    | none => rw [e] at hf; exact hf.elim
    | some ns =>
      rw [e] at hf
      obtain ⟨v, ev, w⟩ := vw1 w
      obtain ⟨p, vs, e1, h1, r1⟩ := w.list
      subst ev e1
      rw [boolsD_ok e] at r1
      have er := r1.bools
      subst er
      exact ⟨p, ns, rfl, .inl (.inl h1), k.d _ _ (.bl _) hf⟩
  · exact hf.elim⟩
def fSorted : FN := fun ds Q => match ds with
  | [.list xs] => someD (intsD xs) fun ns => ∀ ns' : List Int, ns'.Perm ns → ns'.Pairwise (· ≤ ·) → Q (.own (ns'.map PyData.int))
  | _ => False
theorem bd_sorted : BlD X (.builtin "sorted") fSorted := ⟨_, cr_sortedI, by
  intro H O xs ds Qa Q lo w hf k
  unfold fSorted at hf
  split at hf
  · rename_i xs
    cases e : intsD xs with
    | none => rw [e] at hf; exact hf.elim
    | some ns =>
      rw [e] at hf
      obtain ⟨v, ev, w⟩ := vw1 w
      obtain ⟨p, vs, e1, h1, r1⟩ := w.list
      subst ev e1
      rw [intsD_ok e] at r1
      have er := r1.ints
      subst er
      exact ⟨p, ns, rfl, .inl (.inl h1), fun ns' q hp hs hq => k.lst q _ _ hq rpl_ints (hf ns' hp hs)⟩
  · exact hf.elim⟩
def fInt : FN := fun ds Q => match ds with
  | [.int i] => Q (.d (.int i))
  | [.bool b] => Q (.d (.int (if b then 1 else 0)))
  | _ => False
theorem bd_int : BlD X (.type "int") fInt := ⟨_, call_int1, by
  intro H O xs ds Qa Q lo w hf k
  unfold fInt at hf
  split at hf
  · obtain ⟨v, e, w1⟩ := vw1 w
    subst e
    exact .inl ⟨_, by rw [w1.int], k.d _ _ (.int _) hf⟩
  · obtain ⟨v, e, w1⟩ := vw1 w
    subst e
    exact .inr ⟨_, by rw [w1.bool], k.d _ _ (.int _) hf⟩
  · exact hf.elim⟩
theorem call_str_bl : CallR X (.type "str") (fun xs H Q => ∃ k, xs = [.bl k] ∧ Q (.str (if k then "True" else "False" : String)) H) := by
  intro pins s σ H xs us Q I r h
  obtain ⟨k, rfl, q⟩ := h
  obtain ⟨u, rfl, e⟩ := vals1 r
  obtain rfl : u = .bool k := e
  refine PySem.P.str_of_bool ⟨.str (if k then "True" else "False" : String), H, I.tok _, ⟨s.toks, by cases k <;> rfl⟩, q⟩
def fStr : FN := fun ds Q => match ds with
  | [.int i] => i.natAbs.log2 < 1920 ∧ Q (.d (.str (toString i)))
  | [.bool k] => Q (.d (.str (if k then "True" else "False" : String)))
  | _ => False
theorem bd_str : BlD X (.type "str") fStr := ⟨_, CallR_or call_str_int call_str_bl, by
  intro H O xs ds Qa Q lo w hf k
  unfold fStr at hf
  split at hf
  · obtain ⟨v, e, w1⟩ := vw1 w
    subst e
    exact .inl ⟨_, by rw [w1.int], hf.1, k.d _ _ (.str _) hf.2⟩
  · obtain ⟨v, e, w1⟩ := vw1 w
    subst e
    exact .inr ⟨_, by rw [w1.bool], k.d _ _ (.str _) hf⟩
  · exact hf.elim⟩
def fList : FN := fun ds Q => match ds with
  | [.list xs] => Q (.own xs)
  | [.tuple xs] => Q (.own xs)
  | _ => False
theorem bd_list : BlD X (.type "list") fList := ⟨_, call_list_of, by
  intro H O xs ds Qa Q lo w hf k
  unfold fList at hf
  split at hf
  · obtain ⟨v, e, w⟩ := vw1 w
    obtain ⟨p, vs, e1, h1, r1⟩ := w.list
    subst e e1
    exact ⟨p, vs, rfl, .inl (.inl (.inl h1)), fun l hl => k.lst l _ _ hl r1 hf⟩
  · obtain ⟨v, e, w⟩ := vw1 w
    obtain ⟨p, vs, e1, h1, r1⟩ := w.tuple
    subst e e1
    exact ⟨p, vs, rfl, .inr h1, fun l hl => k.lst l _ _ hl r1 hf⟩
  · exact hf.elim⟩
def rTupF (K : Fg) : List V → Hp → VK → Prop := fun xs H Q => ∃ p ys, xs = [.ref p] ∧ ((SqL K H p ys ∧ ∀ l o, H l = none → o.dict = none → Q (.ref l) (upd H l (.frz o (.tup ys)))) ∨ (SqT K H p ys ∧ Q (.ref p) H))
theorem call_tupF : CallR X (.type "tuple") (rTupF X.K) := by
  intro pins s σ H xs us Q I r h
  obtain ⟨p, ys, ex, h⟩ := h
  subst ex
  obtain ⟨u, eu, rx⟩ := vals1 r
  subst eu
  cases rx
  rcases h with ⟨hq, q⟩ | ⟨hq, q⟩
  · obtain ⟨its, r', pl, hz⟩ := I.list hq
    have hn := r'.length
    refine call_tuple_list pl.isList (fun h' kp => ?_) (by simpa using hn ▸ hz)
    have I1 := I.kept (t' := s.toks) kp
    have g := Heap.get?_push_size h' (o := { cls := .type "tuple", data := .seq its.toArray }) rfl
    exact ⟨.ref h'.objs.size, _, I1.laid (o := .frz { cls := .type "tuple", data := .seq its.toArray } (.tup ys)) (t' := s.toks) (fun b o e => Heap.get?_push_of_some _ e) (Nat.le_refl _) ⟨g, hz, its, r', _, g, rfl, _, rfl⟩, rfl, q _ _ I1.fresh rfl⟩
  · obtain ⟨its, r', pl, hz⟩ := I.tuple hq
    exact call_tuple_same pl ⟨.ref p, H, I, rfl, q⟩
def fTuple : FN := fun ds Q => match ds with
  | [.list xs] => Q (.d (.tuple xs))
  | [.tuple xs] => Q (.d (.tuple xs))
  | _ => False
theorem bd_tuple : BlD X (.type "tuple") fTuple := ⟨_, call_tupF, by
  intro H O xs ds Qa Q lo w hf k
  unfold fTuple at hf
  split at hf
  · obtain ⟨v, e, w⟩ := vw1 w
    obtain ⟨p, vs, e1, h1, r1⟩ := w.list
    subst e e1
    exact ⟨p, vs, rfl, .inl ⟨.inl (.inl h1), fun l o hl ho => k.tup l o _ _ hl ho r1 hf⟩⟩
  · obtain ⟨v, e, w1⟩ := vw1 w
    obtain ⟨p, vs, e1, h1, r1⟩ := w1.tuple
    subst e e1
    exact ⟨p, vs, rfl, .inr ⟨h1, k.d _ _ w1.rp hf⟩⟩
  · exact hf.elim⟩
/-! isinstance(x, (T, U)) -/
def fIsi2 (T U : String) : F1 := fun d Q => Q (.d (.bool (isB T d || isB U d)))
theorem kit_two {K : Fg} {t : Value} {a b : String} {x y : Bool} (h1 : PySem.W.kitOne K t (.type a) = some x) (h2 : PySem.W.kitOne K t (.type b) = some y) : PySem.W.kitAny K t [.type a, .type b] = some (x || y) := by
  cases x with
  | true => exact kitAny_cons h1 (fun z => by cases z) fun _ => rfl
  | false =>
    refine kitAny_cons h1 (fun _ => ?_) fun z => by cases z
    cases y with
    | true => exact kitAny_cons h2 (fun z => by cases z) fun _ => rfl
    | false => exact kitAny_cons h2 (fun _ => rfl) fun z => by cases z
theorem de_isi2 {T U : Str} {ts us : String} {p2 p3 p4 : Pos} {x1} (hT : IsT ts) (hU : IsT us) (hg : Gl X "isinstance") (hm : X.mg "isinstance" = none) (hg2 : Gl X T) (hm2 : X.mg T = none) (hv2 : bootBuiltins T = some (.type ts)) (hg3 : Gl X U) (hm3 : X.mg U = none) (hv3 : bootBuiltins U = some (.type us)) (he : DE X F e ta)
    (hs : starEach [e, .Tuple [.Name T p2, .Name U p3] x1 p4] X.env = (false, eval e X.env) :: starEach [.Tuple [.Name T p2, .Name U p3] x1 p4] X.env := by rfl) (hs2 : starEach [.Tuple [.Name T p2, .Name U p3] x1 p4] X.env = (false, eval (.Tuple [.Name T p2, .Name U p3] x1 p4) X.env) :: starEach [] X.env := by rfl)
    (hs3 : starEach [.Name T p2, .Name U p3] X.env = (false, eval (.Name T p2) X.env) :: starEach [.Name U p3] X.env := by rfl) (hs4 : starEach [.Name U p3] X.env = (false, eval (.Name U p3) X.env) :: starEach [] X.env := by rfl)
    (hv : bootBuiltins "isinstance" = some (.builtin "isinstance") := by decide +kernel) (hn : T ≠ "__name__" := by decide) (hd : (T == ("__debug__" : Str)) = false := by decide) (hn' : U ≠ "__name__" := by decide) (hd' : (U == ("__debug__" : Str)) = false := by decide)
    (hpl : (backTo pos (starEach [.Tuple [.Name T p2, .Name U p3] x1 p4] X.env)).any (·.1) = false := by rfl) :
    DE X F (.Call (.Name "isinstance" p) [e, .Tuple [.Name T p2, .Name U p3] x1 p4] [] pos) (dOp1 (fIsi2 ts us) ta) :=
  PE_imp (pe_callB call_isiT hg hm hv (pa_cons he (pa_cons (pe_tup (pa_cons (pe_bltn (v := .ty ts) hg2 hm2 hv2 rfl hn hd) (pa_cons (pe_bltn (v := .ty us) hg3 hm3 hv3 rfl hn' hd') pa_nil hs4) hs3)) pa_nil hs2) hs) (by decide) (by decide) hs hpl) fun σ H Q ⟨O, ds, Qa, R, ht, hq⟩ => ⟨O, ds, _, R, ht, fun x ds1 v H1 O1 s1 R1 rx hx => by
    split at hx
    · rename_i d e1
      refine ⟨(show 2 ≤ sizeLine by decide), fun q hq' => ?_⟩
      have sm := same_new (o := .tup [.ty ts, .ty us]) hq'
      have R2 := R1.grow sm grow_refl (fun _ h => h) (lo_same R1.lo sm)
      have s2 : Step σ H1 O1 ds1 _ O1 ds1 := Step.grow sm grow_refl fun _ h => h
      have w := RpV.vw R2 (RpV.step R1 (s1.mutO R) rx s2) e1
      have kt : ∀ {T : String}, IsT T → PySem.W.kitOne X.K (.type (tyD d)) (.type T) = some (isB T d) := fun {T} hT => by
        rcases hT.ok d with h | ⟨k, h⟩
        · exact kit_ty h
        · subst h; exact (nodict w).elim
      exact ⟨v, q, [.ty ts, .ty us], .type (tyD d), [.type ts, .type us], _, rfl, upd_same, .cons (.ty ts) (.cons (.ty us) .nil), w.ty, kit_two (kt hT) (kt hU), (mkCont R (s1.trans s2) R2 hq).d _ _ (.bl _) hx⟩
    · exact hx.elim⟩
end
end SF

/-! SL14: methods that change a list of one's own; index; stores; parallel assignment. -/
namespace SF
open PySem PySem.Spec PyProof.Rows L2
section
variable {K : Fg} {F : Fx} {H : Hp} {O : List Addr} {σ : St} {ds : DS}
theorem Rep.updO (R : Rep K F H O σ ds) {i : Nat} {p : Addr} {xs ys : List D} {ws : List V} (h1 : σ[i]? = some (some (.ref p))) (h2 : ds.sl[i]? = some (some (.own xs))) (hl : RpL K H O ws ys) :
    Rep K F (upd H p (.lst ws)) O σ ⟨ds.sl.set i (some (.own ys)), ds.n⟩ ∧ Step σ H O ds (upd H p (.lst ws)) O ⟨ds.sl.set i (some (.own ys)), ds.n⟩ := by
  obtain ⟨w, e, q, vs, e2, hO, hH, _⟩ := R.sl i _ h2
  rw [h1] at e; cases e; cases e2
  have hlen : i < ds.sl.length := (List.getElem?_eq_some_iff.mp h2).1
  have mi : MutAt σ ds i p := ⟨h1, _, h2, trivial⟩
  have pn := R.newO i p xs h1 h2
  have nb : ∀ q ∈ F.B, q ≠ p := fun q hq z => R.fo q (R.bo q hq) (z ▸ pn)
  have kp : Keep O H (upd H p (.lst ws)) := fun a o h n => by rw [upd_ne (fun z : a = p => n (z ▸ hO))]; exact h
  have dm : ∀ a, H a ≠ none → upd H p (.lst ws) a ≠ none := fun a h => by
    by_cases z : a = p
    · subst z; rw [upd_same]; simp
    · rw [upd_ne z]; exact h
  have mut_of : ∀ j q, MutAt σ ⟨ds.sl.set i (some (.own ys)), ds.n⟩ j q → MutAt σ ds j q := fun j q ⟨a, dv, b, c⟩ => by
    rcases sl_set_of b with ⟨e1, e2⟩ | ⟨e1, e2⟩
    · subst e1
      rw [h1] at a; cases a
      exact mi
    · exact ⟨a, dv, e2, c⟩
  have box_of : ∀ j q, BoxS σ ⟨ds.sl.set i (some (.own ys)), ds.n⟩ j q → BoxS σ ds j q := fun j q ⟨a, b⟩ => by
    rcases sl_set_of b with ⟨e1, e2⟩ | ⟨e1, e2⟩
    · cases e2
    · exact ⟨a, e2⟩
  refine ⟨⟨fun q hq => ?_, R.sub, fun a o h n => ?_, fun j dv hj => ?_, fun j k q a b => R.mu j k q (mut_of j q a) (mut_of k q b), fun j q a => R.new j q (mut_of j q a), fun j q zs a b => ?_, fun q hq => ?_, fun j q hb => R.bu j q (box_of j q hb), fun j k q r a b => R.b1 j k q r (box_of j q a) (box_of k r b), R.fo, R.bo, by simpa using R.len⟩,
    ⟨grow_refl, fun q hq _ => hq, fun a o h n => ?_, dm, fun j dv hj => ?_, mut_of, box_of⟩⟩
  · by_cases z : q = p
    · subst z; exact ⟨ws, upd_same⟩
    · rw [upd_ne z]; exact R.lo q hq
  · rw [upd_ne (fun z : a = p => by subst z; rw [pn] at h; cases h)]
    exact R.ext a o h n
  · rcases sl_set_of hj with ⟨e1, e2⟩ | ⟨e1, e2⟩
    · subst e1 e2
      exact ⟨_, h1, p, ws, rfl, hO, upd_same, RpL.mv R.lo kp grow_refl hl⟩
    · obtain ⟨w, ew, r⟩ := R.sl j dv e2
      refine ⟨w, ew, ?_⟩
      cases dv with
      | exc xa xb => exact ExS.mv R.lo kp grow_refl r
      | d x => exact Rp.mv R.lo kp grow_refl r
      | own zs =>
        obtain ⟨q, us, e3, a1, a2, a3⟩ := r
        subst e3
        refine ⟨q, us, rfl, a1, ?_, RpL.mv R.lo kp grow_refl a3⟩
        rw [upd_ne (fun z : q = p => e1 (R.mu i j q (z ▸ mi) ⟨ew, _, e2, trivial⟩))]; exact a2
      | box =>
        obtain ⟨q, e3, a1, x, y, c, a2, a3⟩ := r
        subst e3
        refine ⟨q, rfl, a1, x, y, c, ?_, a3⟩
        rw [upd_ne (fun z : q = p => e1 (R.mu i j q (z ▸ mi) ⟨ew, _, e2, trivial⟩))]; exact a2
      | slot k => exact r
  · rcases sl_set_of b with ⟨e1, e2⟩ | ⟨e1, e2⟩
    · subst e1
      rw [h1] at a; cases a
      exact pn
    · exact R.newO j q zs a e2
  · obtain ⟨x, y, c, h, r⟩ := R.bx q hq
    exact ⟨x, y, c, by rw [upd_ne (nb q hq)]; exact h, r⟩
  · rw [upd_ne (fun z : a = p => n i (z ▸ mi))]; exact h
  · by_cases ej : i = j
    · subst ej
      exact ⟨.own ys, by rw [List.getElem?_set_self hlen]⟩
    · exact ⟨dv, by rw [List.getElem?_set_ne ej]; exact hj⟩
end
section
variable {X : Cx} {F : Fx} {e a b c o : Expr} {es : List Expr} {ta tb tc : DTE} {tA : DTA} {pos p apos cpos : Pos}
abbrev GM := List D → List D → (DV → List D → Prop) → Prop
/-- a method that changes its list, by values and by data -/
def MutD (K : Fg) (r : V → List V → Hp → VK → Prop) (g : GM) : Prop := ∀ (H : Hp) (O : List Addr) (q : Addr) (vs avs : List V) (xs as : List D) (G : DV → List D → Prop) (Q : VK),
  H q = some (.lst vs) → RpL K H O vs xs → RpL K H O avs as → g xs as G → (∀ v x vs' xs', Rp K H O v x → RpL K H O vs' xs' → G (.d x) xs' → Q v (upd H q (.lst vs'))) → r (.ref q) avs H Q
def dMut (i : Nat) (g : GM) (tA : DTA) : DTE := fun ds Q => match ds.sl[i]? with
  | some (some (.own _)) => tA ds fun ys ds1 => match frzL ds1 ys with
    | some (as, ds2) => match ds2.sl[i]? with
      | some (some (.own xs)) => g xs as fun r xs' => Q r ⟨ds2.sl.set i (some (.own xs')), ds2.n⟩
      | _ => False
    | none => False
  | _ => False
theorem mut_end {K : Fg} {H H2 : Hp} {O O2 : List Addr} {σ : St} {ds ds2 : DS} {i : Nat} {q : Addr} {avs : List V} {xs as : List D} {r : V → List V → Hp → VK → Prop} {g : GM} {Qa : DV → DS → Prop} {Q : VK} (hm : MutD K r g) (R : Rep K F H O σ ds) (s2 : Step σ H O ds H2 O2 ds2) (R2 : Rep K F H2 O2 σ ds2)
    (h1 : σ[i]? = some (some (.ref q))) (h2 : ds2.sl[i]? = some (some (.own xs))) (ra : RpL K H2 O2 avs as) (hg : g xs as fun r xs' => Qa r ⟨ds2.sl.set i (some (.own xs')), ds2.n⟩)
    (hq : ∀ dv ds' v H' O', Step σ H O ds H' O' ds' → Rep K F H' O' σ ds' → RpV K F H' O O' σ ds' v dv → Qa dv ds' → Q v H') : r (.ref q) avs H2 Q := by
  obtain ⟨w, e, q', vs, e2, hO, hH, hL⟩ := R2.sl i _ h2
  rw [h1] at e; cases e; cases e2
  refine hm H2 O2 q vs avs xs as _ Q hH hL ra hg fun v x vs' xs' rv rl hG => ?_
  obtain ⟨R3, s3⟩ := R2.updO h1 h2 rl
  exact hq (.d x) _ v _ O2 (s2.trans s3) R3 (Rp.mv R2.lo (s3.keepO R2) s3.o1 rv) hG
theorem de_mut {i : Nat} {r : V → List V → Hp → VK → Prop} {g : GM} (h : PE X e (tBM X.K "list" r (tVar i) (liftA X.K F tA))) (hm : MutD X.K r g) : DE X F e (dMut i g tA) := PE_imp h fun σ H Q ⟨O, ds, Qa, R, ht, hq⟩ => by
  unfold dMut at ht
  split at ht
  · rename_i xs0 e0
    obtain ⟨v, ev, q, vs, e2, hO, hH, hL⟩ := R.sl i _ e0
    subst e2
    refine ⟨_, ev, .inl ⟨rfl, _, .inl (.inl hH)⟩, O, ds, _, R, ht, fun ys ds1 avs H1 O1 s1 R1 rx hx => ?_⟩
    split at hx
    · rename_i as ds2 ef
      obtain ⟨O2, s2, R2, rl, _⟩ := frzL_ok R s1 R1 rx ef
      split at hx
      · rename_i xs ex
        exact mut_end hm R s2 R2 ev ex rl hx hq
      · exact hx.elim
    · exact hx.elim
  · exact ht.elim
def dMut0 (i : Nat) (g : GM) : DTE := fun ds Q => match ds.sl[i]? with
  | some (some (.own xs)) => g xs [] fun r xs' => Q r ⟨ds.sl.set i (some (.own xs')), ds.n⟩
  | _ => False
theorem de_mut0 {i : Nat} {r : V → List V → Hp → VK → Prop} {g : GM} (h : PE X e (tBM0 X.K "list" r (tVar i))) (hm : MutD X.K r g) : DE X F e (dMut0 i g) := PE_imp h fun σ H Q ⟨O, ds, Qa, R, ht, hq⟩ => by
  unfold dMut0 at ht
  split at ht
  · rename_i xs0 e0
    obtain ⟨v, ev, q, vs, e2, hO, hH, hL⟩ := R.sl i _ e0
    subst e2
    exact ⟨_, ev, .inl ⟨rfl, _, .inl (.inl hH)⟩, mut_end hm R Step.refl R ev e0 .nil ht hq⟩
  · exact ht.elim
def gAppend : GM := fun xs as G => match as with
  | [y] => xs.length < 16777216 ∧ G (.d .none) (xs ++ [y])
  | _ => False
theorem mu_append {K : Fg} : MutD K rAppend gAppend := by
  intro H O q vs avs xs as G Q hq rl ra hg k
  unfold gAppend at hg
  split at hg
  · cases ra with
    | cons r1 r2 =>
      cases r2
      exact ⟨q, vs, _, rfl, rfl, hq, by rw [rl.length, sizeLine_eq]; exact hg.1, k _ _ _ _ .non (rl.append (RpL.one r1)) hg.2⟩
  · exact hg.elim
def gExtend : GM := fun xs as G => match as with
  | [.list ys] => xs.length + ys.length ≤ 16777216 ∧ G (.d .none) (xs ++ ys)
  | _ => False
theorem mu_extend {K : Fg} : MutD K rExtend gExtend := by
  intro H O q vs avs xs as G Q hq rl ra hg k
  unfold gExtend at hg
  split at hg
  · cases ra with
    | cons r1 r2 =>
      cases r2
      cases r1 with
      | lst h r => exact ⟨q, _, vs, _, rfl, rfl, hq, h.1, by rw [rl.length, r.length, sizeLine_eq]; exact hg.1, k _ _ _ _ .non (rl.append r) hg.2⟩
  · exact hg.elim
def gPop : GM := fun xs as G => match as with
  | [] => someD xs[xs.length - 1]? fun y => G (.d y) xs.dropLast
  | _ => False
theorem RpL.dropLast {K : Fg} {H : Hp} {O : List Addr} : ∀ {vs : List V} {xs : List D}, RpL K H O vs xs → RpL K H O vs.dropLast xs.dropLast
  | _, _, .nil => .nil
  | _, _, .cons h .nil => .nil
  | _, _, .cons h (.cons h' r) => by
    have := RpL.dropLast (.cons h' r)
    simp only [List.dropLast_cons₂]
    exact .cons h this
theorem mu_pop {K : Fg} : MutD K rPop gPop := by
  intro H O q vs avs xs as G Q hq rl ra hg k
  unfold gPop at hg
  split at hg
  · cases ra
    cases e : xs[xs.length - 1]? with
    | none => rw [e] at hg; exact hg.elim
    | some y =>
      rw [e] at hg
      obtain ⟨v, h1, h2⟩ := rl.get e
      exact ⟨q, vs, v, rfl, rfl, hq, by rw [rl.length]; exact h1, k _ _ _ _ h2 rl.dropLast hg⟩
  · exact hg.elim
def gPopAt : GM := fun xs as G => match as with
  | [.int i] => someD (ixN xs.length i) fun j => someD xs[j]? fun y => xs.length ≤ 16777216 ∧ G (.d y) (xs.eraseIdx j)
  | _ => False
theorem mu_popAt {K : Fg} : MutD K rPopAt gPopAt := by
  intro H O q vs avs xs as G Q hq rl ra hg k
  unfold gPopAt at hg
  split at hg
  · rename_i i
    cases ra with
    | cons r1 r2 =>
      cases r2
      cases r1
      cases e : ixN xs.length i with
      | none => rw [e] at hg; exact hg.elim
      | some j =>
        rw [e] at hg
        have hg : someD xs[j]? fun y => xs.length ≤ 16777216 ∧ G (.d y) (xs.eraseIdx j) := hg
        cases e2 : xs[j]? with
        | none => rw [e2] at hg; exact hg.elim
        | some y =>
          rw [e2] at hg
          obtain ⟨hz, hg⟩ := hg
          obtain ⟨v, h1, h2⟩ := rl.get e2
          obtain ⟨a1, a2, a3, a4⟩ := ixN_seq e
          exact ⟨q, vs, i, j, v, rfl, rfl, hq, by omega, by omega, by rw [rl.length]; exact a1, h1, k _ _ _ _ h2 (rl.erase j) hg⟩
  · exact hg.elim
def gInsert : GM := fun xs as G => match as with
  | [.int i, y] => (xs.length < 16777216 ∧ 0 ≤ i ∧ i < 9223372036854775808) ∧ G (.d .none) (xs.take i.toNat ++ [y] ++ xs.drop i.toNat)
  | _ => False
theorem mu_insert {K : Fg} : MutD K (fun x vs H Q => ∃ (l : Addr) (xs : List V) (i : Int) (y : V), x = .ref l ∧ vs = [.int i, y] ∧ H l = some (.lst xs) ∧ xs.length < sizeLine ∧ 0 ≤ i ∧ i < 2 ^ 63 ∧ Q .non (upd H l (.lst (xs.take i.toNat ++ [y] ++ xs.drop i.toNat)))) gInsert := by
  intro H O q vs avs xs as G Q hq rl ra hg k
  unfold gInsert at hg
  split at hg
  · rename_i i y
    cases ra with
    | cons r1 r2 =>
      cases r2 with
      | cons r2 r3 =>
        cases r3
        cases r1
        exact ⟨q, vs, i, _, rfl, rfl, hq, by rw [rl.length, sizeLine_eq]; exact hg.1.1, hg.1.2.1, hg.1.2.2, k _ _ _ _ .non (((rl.take _).append (RpL.one r2)).append (rl.drop _)) hg.2⟩
  · exact hg.elim
/-! x.append(e), x a name in slot i -/
theorem de_append {i : Nat} (ho : PE X o (tVar i)) (ha : DA X F [e] tA) (hbase : attributeBase o "append" X.env (eval o X.env) = eval o X.env := by rfl)
    (hfew : ((backTo cpos (starEach [e] X.env)).all (fun x => !x.1) && (backToKw cpos (keywordEach [] X.env)).all (fun x => x.1.isSome) && decide ([e].length + ([] : List Keyword).length + (if ([] : List Keyword).isEmpty then 0 else 1) < 30)) = true := by rfl)
    (hline : (apos.endLine == cpos.line) = true := by rfl) (hs : starEach [e] X.env = (false, eval e X.env) :: starEach [] X.env := by rfl) (hplain : (backTo cpos (starEach [] X.env)).any (·.1) = false := by rfl) :
    DE X F (.Call (.Attribute o "append" apos) [e] [] cpos) (dMut i gAppend tA) :=
  de_mut (pe_bm PySem.F.plainAttrs_list PySem.F.slot_list_append PySem.F.type_list_append mt_append ho ha hbase hfew hline hs hplain) mu_append
theorem de_extend {i : Nat} (ho : PE X o (tVar i)) (ha : DA X F [e] tA) (hbase : attributeBase o "extend" X.env (eval o X.env) = eval o X.env := by rfl)
    (hfew : ((backTo cpos (starEach [e] X.env)).all (fun x => !x.1) && (backToKw cpos (keywordEach [] X.env)).all (fun x => x.1.isSome) && decide ([e].length + ([] : List Keyword).length + (if ([] : List Keyword).isEmpty then 0 else 1) < 30)) = true := by rfl)
    (hline : (apos.endLine == cpos.line) = true := by rfl) (hs : starEach [e] X.env = (false, eval e X.env) :: starEach [] X.env := by rfl) (hplain : (backTo cpos (starEach [] X.env)).any (·.1) = false := by rfl) :
    DE X F (.Call (.Attribute o "extend" apos) [e] [] cpos) (dMut i gExtend tA) :=
  de_mut (pe_bm PySem.F.plainAttrs_list PySem.F.slot_list_extend PySem.F.type_list_extend mt_extend ho ha hbase hfew hline hs hplain) mu_extend
theorem de_popAt {i : Nat} (ho : PE X o (tVar i)) (ha : DA X F [e] tA) (hbase : attributeBase o "pop" X.env (eval o X.env) = eval o X.env := by rfl)
    (hfew : ((backTo cpos (starEach [e] X.env)).all (fun x => !x.1) && (backToKw cpos (keywordEach [] X.env)).all (fun x => x.1.isSome) && decide ([e].length + ([] : List Keyword).length + (if ([] : List Keyword).isEmpty then 0 else 1) < 30)) = true := by rfl)
    (hline : (apos.endLine == cpos.line) = true := by rfl) (hs : starEach [e] X.env = (false, eval e X.env) :: starEach [] X.env := by rfl) (hplain : (backTo cpos (starEach [] X.env)).any (·.1) = false := by rfl) :
    DE X F (.Call (.Attribute o "pop" apos) [e] [] cpos) (dMut i gPopAt tA) :=
  de_mut (pe_bm PySem.F.plainAttrs_list PySem.F.slot_list_pop PySem.F.type_list_pop mt_popAt ho ha hbase hfew hline hs hplain) mu_popAt
theorem de_insert {i : Nat} (ho : PE X o (tVar i)) (ha : DA X F [a, b] tA) (hbase : attributeBase o "insert" X.env (eval o X.env) = eval o X.env := by rfl)
    (hfew : ((backTo cpos (starEach [a, b] X.env)).all (fun x => !x.1) && (backToKw cpos (keywordEach [] X.env)).all (fun x => x.1.isSome) && decide ([a, b].length + ([] : List Keyword).length + (if ([] : List Keyword).isEmpty then 0 else 1) < 30)) = true := by rfl)
    (hline : (apos.endLine == cpos.line) = true := by rfl) (hs : starEach [a, b] X.env = (false, eval a X.env) :: starEach [b] X.env := by rfl) (hplain : (backTo cpos (starEach [b] X.env)).any (·.1) = false := by rfl) :
    DE X F (.Call (.Attribute o "insert" apos) [a, b] [] cpos) (dMut i gInsert tA) :=
  de_mut (pe_bm PySem.F.plainAttrs_list PySem.F.slot_list_insert PySem.F.type_list_insert mt_insert ho ha hbase hfew hline hs hplain) mu_insert
/-! x[i] = e, x a name in slot k -/
def dSetIx (k : Nat) (ti te : DTE) : DTS := fun E ds => te ds fun y ds1 => match ds1.sl[k]? with
  | some (some (.own _)) => ti ds1 fun x ds2 => match frz ds2 y with
    | some (d, ds3) => match ds3.sl[k]?, peek ds3 x with
      | some (some (.own xs)), some (.int i) => someD (ixN xs.length i) fun j => E.nx ⟨ds3.sl.set k (some (.own (xs.set j d))), ds3.n⟩
      | _, _ => False
    | none => False
  | _ => False
theorem ds_setIx {k : Nat} {st : Stmt} {ti te : DTE} (h : PS X st (tAsg (lift X.K F te) (gSub (tVar k) (lift X.K F ti) rSetL))) : DSt X F st (dSetIx k ti te) := PS_imp h fun D σ H ⟨O, ds, E, R, ht, kk⟩ =>
  ⟨O, ds, _, R, ht, fun y ds1 v H1 O1 s1 R1 ry hy => by
    split at hy
    · rename_i xs0 e0
      obtain ⟨w, ew, q, vs0, e2, hO, hH, hL⟩ := R1.sl k _ e0
      subst e2
      refine ⟨_, ew, O1, ds1, _, R1, hy, fun x ds2 u H2 O2 s2 R2 rx hx => ?_⟩
      have ry2 := RpV.step R1 (s1.mutO R) ry s2
      have s12 := s1.trans s2
      split at hx
      · rename_i d ds3 ef
        obtain ⟨O3, s3, R3, rd, _, oth⟩ := frz_ok R s12 R2 ry2 ef
        have rxO := RpV.old rx (Step.gone R s1 s2)
        split at hx
        · rename_i xs i ek ei
          cases ej : ixN xs.length i with
          | none => rw [ej] at hx; exact hx.elim
          | some j =>
            rw [ej] at hx
            have ei2 : ∀ dx, peek ds3 dx = some (.int i) → ∀ {O'' : List Addr}, RpV X.K F H2 O O2 σ ds2 u dx → u = .int i := by
              intro dx hp O'' hr
              cases dx with
              | exc xa xb => first | exact h.elim | exact hw.elim | exact hr.elim | exact rr.elim | exact rx.elim | exact h3.elim | exact c3.elim | exact c.elim | exact hab.elim | exact q.elim | (simp [peek] at hp; done) | (simp [frz] at e; done) | (simp [frz] at e1; done) | (simp [argOf] at ax; done) | (simp [argOf] at e1; done) | (simp [isBx] at hab; done) | (simp [argOf] at h; done) | (simp [peek] at e; done) | (simp [isBx] at hbx; done) | exact h | exact hw | exact r | (cases e; done) | (cases e2; done) | rfl | (simp at e; done) | (simp at h; done)
              | d z =>
                have : z = .int i := by simpa [peek] using hp
                subst this
                cases (show Rp X.K H2 O2 u (.int i) from hr)
                rfl
              | own z => simp [peek] at hp
              | box => exact hr.elim
              | slot m =>
                obtain ⟨c1, dv, c2⟩ := hr
                simp only [peek] at hp
                split at hp
                · rename_i z em
                  have ez : z = .int i := by simpa using hp
                  subst ez
                  obtain ⟨w2, ew2, r2⟩ := R3.sl m _ em
                  rw [c1] at ew2; cases ew2
                  cases (show Rp X.K H2 O3 u (.int i) from r2)
                  rfl
                · simp at hp
                · simp at hp
            have eu : u = .int i := ei2 x ei (O'' := O2) rxO
            obtain ⟨w3, ew3, q3, vs3, e3, hO3, hH3, hL3⟩ := R3.sl k _ ek
            rw [ew] at ew3; cases ew3; cases e3
            obtain ⟨R4, s4⟩ := R3.updO ew ek (RpL.set rd j hL3)
            exact ⟨q, vs3, i, j, rfl, eu, hH3, by rw [hL3.length]; exact ej, kk.nx O3 _ σ _ ((s3.trans s4).hs R) R4 hx⟩
        · exact hx.elim
      · exact hx.elim
    · exact hy.elim⟩
/-! index -/
def idxD (xs : List D) (x : D) : Option Nat := match scD x && xs.all scD with
  | true => xs.findIdx? fun y => PyData.eqv y x
  | false => none
def fIndex : F2 := fun d x Q => match d with
  | .list xs => someD (idxD xs x) fun j => Q (.d (.int (j : Nat)))
  | .tuple xs => someD (idxD xs x) fun j => Q (.d (.int (j : Nat)))
  | _ => False
theorem idxD_ok {xs : List D} {x : D} {j : Nat} (h : idxD xs x = some j) : scD x = true ∧ xs.all scD = true ∧ ∃ z, xs[j]? = some z ∧ PyData.eqv z x = true ∧ ∀ (m : Nat) z', m < j → xs[m]? = some z' → PyData.eqv z' x = false := by
  unfold idxD at h
  split at h
  · rename_i e
    simp only [Bool.and_eq_true] at e
    obtain ⟨hj, h1, h2⟩ := List.findIdx?_eq_some_iff_getElem.mp h
    refine ⟨e.1, e.2, xs[j], List.getElem?_eq_getElem hj, h1, fun m z' hm hz => ?_⟩
    obtain ⟨hm', ez⟩ := List.getElem?_eq_some_iff.mp hz
    subst ez
    have := h2 m hm
    simpa using this
  · simp at h
theorem idx_vals {K : Fg} {H : Hp} {O : List Addr} {vs : List V} {xs : List D} {x : D} {v : V} {j : Nat} (r : RpL K H O vs xs) (rv : Vw K H O v x) (h : idxD xs x = some j) :
    flatV v = true ∧ vs.all flatV = true ∧ ∃ z, vs[j]? = some z ∧ eqV z v = true ∧ ∀ (m : Nat) z', m < j → vs[m]? = some z' → eqV z' v = false := by
  obtain ⟨s1, s2, z, h1, h2, h3⟩ := idxD_ok h
  have rx := rv.sc s1
  obtain ⟨w, e1, r1⟩ := r.get h1
  have scz : ∀ {i : Nat} {d : D}, xs[i]? = some d → scD d = true := fun hd => List.all_eq_true.mp s2 _ (List.mem_of_getElem? hd)
  refine ⟨sc_flat rx s1, (sc_any rx s1 r s2).1, w, e1, by rw [sc_eq r1 rx (scz h1) s1]; exact h2, fun m z' hm hz => ?_⟩
  obtain ⟨d, hd, rd⟩ := r.getV hz
  rw [sc_eq rd rx (scz hd) s1]
  exact h3 m d hm hd
def rIdxT (K : Fg) : V → List V → Hp → VK → Prop := fun x ys H2 Q => ∃ (b : Addr) (y : V) (ns : List Int) (k : Int), x = .ref b ∧ ys = [y] ∧ SqT K H2 b (ns.map V.int) ∧ y = .int k ∧ k ∈ ns ∧ Q (.int (ns.idxOf k : Nat)) H2
theorem idxOf_le : ∀ {ns : List Int} {j : Nat} {m : Int}, ns[j]? = some m → ns.idxOf m ≤ j
  | [], _, _, h => by simp at h
  | a :: r, 0, m, h => by
    have e : a = m := by simpa using h
    subst e
    simp
  | a :: r, j + 1, m, h => by
    have := idxOf_le (ns := r) (j := j) (m := m) (by simpa using h)
    rw [List.idxOf_cons]
    cases a == m <;> simp <;> omega
/-- o.index(e), o a list of scalars or a tuple of numbers -/
def tIdx (K : Fg) (to te : TE) : TE := fun σ H Q => to σ H fun x H1 => ∃ a vs, x = .ref a ∧
  ((SqL K H1 a vs ∧ te σ H1 fun y H2 => rIndex K x [y] H2 Q) ∨ (TpA K H1 a vs ∧ te σ H1 fun y H2 => rIdxT K x [y] H2 Q))
theorem pe_idx {to te : TE} (ho : PE X o to) (hE : PE X e te) (hbase : attributeBase o "index" X.env (eval o X.env) = eval o X.env := by rfl)
    (hfew : ((backTo cpos (starEach [e] X.env)).all (fun x => !x.1) && (backToKw cpos (keywordEach [] X.env)).all (fun x => x.1.isSome) && decide ([e].length + ([] : List Keyword).length + (if ([] : List Keyword).isEmpty then 0 else 1) < 30)) = true := by rfl)
    (hline : (apos.endLine == cpos.line) = true := by rfl) (hs : starEach [e] X.env = (false, eval e X.env) :: starEach [] X.env := by rfl) (hplain : (backTo cpos (starEach [] X.env)).any (·.1) = false := by rfl) :
    PE X (.Call (.Attribute o "index" apos) [e] [] cpos) (tIdx X.K to te) := by
  constructor
  intro pins s σ H Q I h
  refine wpAny_Call_method_late hbase hfew hline rfl (thn (ho.run pins s σ H _ I h) ?_)
  rintro v s1 ⟨x, H1, I1, r1, a, vs, ex, q⟩
  subst ex
  cases r1
  have args : ∀ (id : String) (r : V → List V → Hp → VK → Prop), MtR X id r → (te σ H1 fun y H2 => r (.ref a) [y] H2 Q) → wpAny (model X.prog X.w) X.A (callWith cpos (.builtin id) [.ref a] (backTo cpos (starEach [e] X.env)) []) (EP X pins σ Q) X.xe s1 := by
    intro id r hm hq
    have hA := (pa_cons hE pa_nil hs).run cpos pins s1 σ H1 (fun xs H2 => r (.ref a) xs H2 Q) I1 hq
    rw [hs] at hA ⊢
    refine Calls.callWith_builtin (by show (false || (backTo cpos (starEach [] X.env)).any (·.1)) = false; rw [hplain] <;> rfl) (Calls.evalArgs_plain (thn hA ?_))
    rintro us s2 ⟨vs, H2, I2, r2, q2⟩
    exact hm pins s2 σ H2 (.ref a) vs (.ref a) us Q I2 rfl r2 q2
  rcases q with ⟨hl, q⟩ | ⟨ht, q⟩
  · obtain ⟨h1, h2⟩ := tyV_is (T := "list") (x := .ref a) I1 rfl (.inl ⟨rfl, vs, hl⟩)
    exact ⟨"list", "list.index", PySem.F.plainAttrs_list, PySem.F.slot_list_index, PySem.F.type_list_index, h1, h2, args _ _ mt_index q⟩
  · obtain ⟨its, rv, pl, hz⟩ := I1.tuple (TpA.seq ht)
    refine ⟨"tuple", "tuple.index", PySem.F.plainAttrs_tuple, PySem.F.slot_tuple_index, PySem.F.type_tuple_index, pl.typeIs, fun b eb => ?_, args "tuple.index" (rIdxT X.K) ?_ ?_⟩
    · cases eb
      rcases ht with ⟨ob, h1, h2⟩ | ⟨_, ob, h1, h2⟩
      · obtain ⟨g, _⟩ := I1.hok a _ h1
        exact ⟨ob, g, h2⟩
      · exact ⟨ob, I1.kIn a ob h1, h2⟩
    · intro pins' s' σ' H' x ys v us Q' I' rx rys hh
      obtain ⟨b, y, ns, k, ex, ey, hq, ek, hk, q'⟩ := hh
      subst ex ey ek
      cases rx
      obtain ⟨u, eu, ru⟩ := vals1 rys
      subst eu
      obtain ⟨t, eu⟩ := ru
      subst eu
      obtain ⟨its', rv', pl', _⟩ := I'.tuple hq
      exact SeqAt.tuple_index_ints (show s'.heap.IsTuple b its'.toArray from pl') (intsAre_of rv') hk ⟨.int _, H', I'.tok _, ⟨_, rfl⟩, q'⟩
    · exact q
theorem idxOf_of {ns : List Int} {k : Int} {j : Nat} (h : idxD (ns.map PyData.int) (.int k) = some j) : k ∈ ns ∧ ns.idxOf k = j := by
  obtain ⟨_, _, z, h1, h2, h3⟩ := idxD_ok h
  rw [List.getElem?_map] at h1
  cases e : ns[j]? with
  | none => rw [e] at h1; simp at h1
  | some m =>
    rw [e] at h1
    have ez : PyData.int m = z := by simpa using h1
    subst ez
    have em : m = k := by simpa [PyData.eqv] using h2
    subst em
    refine ⟨List.mem_of_getElem? e, ?_⟩
    have hlt := (List.getElem?_eq_some_iff.mp e).1
    have hmem : m ∈ ns := List.mem_of_getElem? e
    have hi := List.idxOf_lt_length_iff.mpr hmem
    have gi : ns[ns.idxOf m] = m := List.getElem_idxOf hi
    have le := idxOf_le e
    by_cases c : ns.idxOf m < j
    · exfalso
      have := h3 (ns.idxOf m) (.int m) c (by rw [List.getElem?_map, List.getElem?_eq_getElem hi, gi]; rfl)
      simp [PyData.eqv] at this
    · omega
def dIdx (ta tb : DTE) : DTE := fun ds Q => ta ds fun x ds1 => match peek ds1 x with
  | some (.list _) => tb ds1 fun y ds2 => match peek ds2 x, peek ds2 y with
    | some (.list xs), some d => someD (idxD xs d) fun j => Q (.d (.int (j : Nat))) ds2
    | _, _ => False
  | some (.tuple xs) => someD (intsD xs) fun ns => tb ds1 fun y ds2 => match peek ds2 y with
    | some (.int k) => someD (idxD (ns.map PyData.int) (.int k)) fun j => Q (.d (.int (j : Nat))) ds2
    | _ => False
  | _ => False
theorem de_idx {ta tb : DTE} (ho : DE X F o ta) (hE : DE X F e tb) (hbase : attributeBase o "index" X.env (eval o X.env) = eval o X.env := by rfl)
    (hfew : ((backTo cpos (starEach [e] X.env)).all (fun x => !x.1) && (backToKw cpos (keywordEach [] X.env)).all (fun x => x.1.isSome) && decide ([e].length + ([] : List Keyword).length + (if ([] : List Keyword).isEmpty then 0 else 1) < 30)) = true := by rfl)
    (hline : (apos.endLine == cpos.line) = true := by rfl) (hs : starEach [e] X.env = (false, eval e X.env) :: starEach [] X.env := by rfl) (hplain : (backTo cpos (starEach [] X.env)).any (·.1) = false := by rfl) :
    DE X F (.Call (.Attribute o "index" apos) [e] [] cpos) (dIdx ta tb) :=
  PE_imp (pe_idx ho hE hbase hfew hline hs hplain) fun σ H Q ⟨O, ds, Qa, R, ht, hq⟩ => ⟨O, ds, _, R, ht, fun x ds1 v H1 O1 s1 R1 rx hx => by
    split at hx
    · rename_i xs0 e0
      obtain ⟨p, vs0, e1, h1, r1⟩ := (RpV.vw R1 rx e0).list
      subst e1
      refine ⟨p, vs0, rfl, .inl ⟨.inl (.inl h1), O1, ds1, _, R1, hx, fun y ds2 w H2 O2 s2 R2 ry hy => ?_⟩⟩
      have rx2 := RpV.step R1 (s1.mutO R) rx s2
      split at hy
      · rename_i xs d ex ey
        cases ej : idxD xs d with
        | none => rw [ej] at hy; exact hy.elim
        | some j =>
          rw [ej] at hy
          obtain ⟨q, vs, e2, h2, r2⟩ := (RpV.vw R2 rx2 ex).list
          cases e2
          obtain ⟨f1, f2, z, f3, f4, f5⟩ := idx_vals r2 (RpV.vw R2 ry ey) ej
          exact ⟨p, vs, w, j, z, rfl, rfl, .inl (.inl h2), f1, f2, f3, f4, f5, (mkCont R (s1.trans s2) R2 hq).d _ _ (.int _) hy⟩
      · exact hy.elim
    · rename_i xs e0
      cases en : intsD xs with
      | none => rw [en] at hx; exact hx.elim
      | some ns =>
        rw [en] at hx
        obtain ⟨p, vs0, e1, h1, r1⟩ := (RpV.vw R1 rx e0).tup
        subst e1
        refine ⟨p, vs0, rfl, .inr ⟨h1, O1, ds1, _, R1, hx, fun y ds2 w H2 O2 s2 R2 ry hy => ?_⟩⟩
        split at hy
        · rename_i k ey
          cases ej : idxD (ns.map PyData.int) (.int k) with
          | none => rw [ej] at hy; exact hy.elim
          | some j =>
            rw [ej] at hy
            rw [intsD_ok en] at r1
            have er := r1.ints
            subst er
            obtain ⟨hk, hj⟩ := idxOf_of ej
            refine ⟨p, w, ns, k, rfl, rfl, SqT.mv R1.lo (s2.keepO R1) (TpA.seq h1), (RpV.vw R2 ry ey).int, hk, (mkCont R (s1.trans s2) R2 hq).d _ _ (.int _) ?_⟩
            rw [hj]
            exact hy
        · exact hy.elim
    · exact hx.elim⟩
/-! a, b = e1, e2 -/
def prep (ds : DS) : DV → Option (DV × DS)
  | .own xs => some (.own xs, ds)
  | x => match frz ds x with
    | some (d, ds') => some (.d d, ds')
    | none => none
def prepL (ds : DS) : List DV → Option (List DV × DS)
  | [] => some ([], ds)
  | x :: xs => match prep ds x with
    | some (d, ds1) => match prepL ds1 xs with
      | some (r, ds2) => some (d :: r, ds2)
      | none => none
    | none => none
theorem prepL_ok {K : Fg} {H H0 : Hp} {O : List Addr} {σ : St} {ds0 : DS} (R0 : Rep K F H0 O σ ds0) : ∀ {dvs : List DV} {vs : List V} {O' : List Addr} {ds ds' : DS} {xs : List DV}, Step σ H0 O ds0 H O' ds → Rep K F H O' σ ds → RpVs K F H O O' σ ds vs dvs → prepL ds dvs = some (xs, ds') →
    ∃ O'', Step σ H0 O ds0 H O'' ds' ∧ Rep K F H O'' σ ds' ∧ RpVs K F H O O'' σ ds' vs xs ∧ (∀ x ∈ xs, (∃ d, x = .d d) ∨ ∃ d, x = .own d) ∧
      ∀ w dw, RpV K F H O O' σ ds w dw → RpV K F H O O'' σ ds' w dw := by
  intro dvs
  induction dvs with
  | nil =>
    intro vs O' ds ds' xs s R h e
    have h' := h.1
    cases h'
    simp only [prepL, Option.some.injEq, Prod.mk.injEq] at e
    obtain ⟨e1, e2⟩ := e
    subst e1 e2
    exact ⟨O', s, R, ⟨.nil, fun _ _ _ _ _ _ h => by simp at h⟩, fun _ h => by simp at h, fun _ _ h => h⟩
  | cons dv dvs ih =>
    intro vs O' ds ds' xs s R h e
    obtain ⟨hp, ha⟩ := h
    cases hp with
    | cons h1 h2 =>
      rename_i v vr
      have ha' : ∀ (i j : Nat) (p : Addr) (x y : List D), i ≠ j → vr[i]? = some (.ref p) → vr[j]? = some (.ref p) → dvs[i]? = some (.own x) → dvs[j]? = some (.own y) → False :=
        fun i j p x y hij a b c d => ha (i + 1) (j + 1) p x y (fun z => hij (by omega)) (by simpa using a) (by simpa using b) (by simpa using c) (by simpa using d)
      simp only [prepL] at e
      cases e1 : prep ds dv with
      | none => rw [e1] at e; simp at e
      | some q =>
        obtain ⟨x, ds1⟩ := q
        rw [e1] at e
        simp only at e
        cases e2 : prepL ds1 dvs with
        | none => rw [e2] at e; simp at e
        | some q =>
          obtain ⟨r, ds2⟩ := q
          rw [e2] at e
          simp only [Option.some.injEq, Prod.mk.injEq] at e
          obtain ⟨q1, q2⟩ := e
          subst q1 q2
          -- one value
          have one : ∃ O1, Step σ H0 O ds0 H O1 ds1 ∧ Rep K F H O1 σ ds1 ∧ RpV K F H O O1 σ ds1 v x ∧ ((∃ d, x = .d d ∧ ∀ zs, dv ≠ .own zs) ∨ ∃ d, x = .own d ∧ dv = .own d) ∧ ∀ w dw, RpV K F H O O' σ ds w dw → RpV K F H O O1 σ ds1 w dw := by
            have fz : (∀ zs, dv ≠ .own zs) → ∀ d, frz ds dv = some (d, ds1) → x = .d d → ∃ O1, Step σ H0 O ds0 H O1 ds1 ∧ Rep K F H O1 σ ds1 ∧ RpV K F H O O1 σ ds1 v x ∧ ((∃ d, x = .d d ∧ ∀ zs, dv ≠ .own zs) ∨ ∃ d, x = .own d ∧ dv = .own d) ∧ ∀ w dw, RpV K F H O O' σ ds w dw → RpV K F H O O1 σ ds1 w dw := fun hne d ef ex => by
              subst ex
              obtain ⟨O1, s1, R1, r1, _, oth⟩ := frz_ok R0 s R h1 ef
              exact ⟨O1, s1, R1, r1, .inl ⟨d, rfl, hne⟩, fun w dw hw => oth w dw hw fun xs e1 ys e2 => absurd e2 (hne ys)⟩
            cases dv with
            | own zs =>
              simp only [prep, Option.some.injEq, Prod.mk.injEq] at e1
              obtain ⟨q1, q2⟩ := e1
              subst q1 q2
              exact ⟨O', s, R, h1, .inr ⟨zs, rfl, rfl⟩, fun _ _ h => h⟩
            | exc xa xb => exact h1.elim
            | d z =>
              simp only [prep, frz, Option.some.injEq, Prod.mk.injEq] at e1
              exact fz (fun _ => nofun) z (by simp [frz, e1.2]) e1.1.symm
            | box => exact h1.elim
            | slot i =>
              simp only [prep] at e1
              cases ef : frz ds (.slot i) with
              | none => rw [ef] at e1; simp at e1
              | some q =>
                obtain ⟨d, d1⟩ := q
                rw [ef] at e1
                simp only [Option.some.injEq, Prod.mk.injEq] at e1
                obtain ⟨q1, q2⟩ := e1
                subst q2
                exact fz (fun _ => nofun) d ef q1.symm
          obtain ⟨O1, s1, R1, rx, kind, oth⟩ := one
          have hvs : RpVs K F H O O1 σ ds1 vr dvs := by
            refine ⟨?_, ha'⟩
            have aux : ∀ {ws : List V} {dws : List DV}, Paired (RpV K F H O O' σ ds) ws dws → Paired (RpV K F H O O1 σ ds1) ws dws := by
              intro ws dws hh
              induction hh with
              | nil => exact .nil
              | cons q _ ih => exact .cons (oth _ _ q) ih
            exact aux h2
          obtain ⟨O2, s2, R2, rs, kinds, oth2⟩ := ih s1 R1 hvs e2
          refine ⟨O2, s2, R2, ⟨.cons (oth2 v x rx) rs.1, ?_⟩, fun y hy => ?_, fun w dw hw => oth2 w dw (oth w dw hw)⟩
          · -- apart
            intro i j p a b hij g1 g2 g3 g4
            have ownOf : ∀ {dvs r : List DV} {d1 d2 : DS} (k : Nat) (z : List D), prepL d1 dvs = some (r, d2) → r[k]? = some (.own z) → dvs[k]? = some (.own z) := by
              intro dvs
              induction dvs with
              | nil => intro r d1 d2 k z h1 h2; simp only [prepL, Option.some.injEq, Prod.mk.injEq] at h1; rw [← h1.1] at h2; simp at h2
              | cons y ys ih' =>
                intro r d1 d2 k z h1 h2
                simp only [prepL] at h1
                cases f1 : prep d1 y with
                | none => rw [f1] at h1; simp at h1
                | some q =>
                  obtain ⟨y', d3⟩ := q
                  rw [f1] at h1
                  simp only at h1
                  cases f2 : prepL d3 ys with
                  | none => rw [f2] at h1; simp at h1
                  | some q =>
                    obtain ⟨r', d4⟩ := q
                    rw [f2] at h1
                    simp only [Option.some.injEq, Prod.mk.injEq] at h1
                    rw [← h1.1] at h2
                    cases k with
                    | zero =>
                      simp at h2
                      subst h2
                      cases y with
                      | own zs => simp only [prep, Option.some.injEq, Prod.mk.injEq] at f1; rw [f1.1]; rfl
                      | exc xa xb => simp [prep, frz] at f1
                      | d zs => simp [prep, frz] at f1
                      | box => simp [prep, frz] at f1
                      | slot m =>
                        simp only [prep] at f1
                        split at f1 <;> simp at f1
                    | succ k => exact ih' k z f2 (by simpa using h2)
            have whole : prepL ds (dv :: dvs) = some (x :: r, ds2) := by simp only [prepL, e1, e2]
            exact ha i j p a b hij g1 g2 (ownOf i a whole g3) (ownOf j b whole g4)
          · rcases List.mem_cons.mp hy with z | z
            · subst z
              rcases kind with ⟨d, e, _⟩ | ⟨d, e, _⟩
              · exact .inl ⟨d, e⟩
              · exact .inr ⟨d, e⟩
            · exact kinds y z
def setS (ds : DS) (i : Nat) : DV → DS
  | x => ⟨ds.sl.set i (some x), ds.n⟩
def dPar (i j : Nat) (tA : DTA) : DTS := fun E ds => tA ds fun xs ds1 => match prepL ds1 xs with
  | some ([x, y], ds2) => E.nx ⟨(ds2.sl.set i (some x)).set j (some y), ds2.n⟩
  | _ => False
def dPar3 (i j l : Nat) (tA : DTA) : DTS := fun E ds => tA ds fun xs ds1 => match prepL ds1 xs with
  | some ([x, y, z], ds2) => E.nx ⟨((ds2.sl.set i (some x)).set j (some y)).set l (some z), ds2.n⟩
  | _ => False
theorem Rep.setV {K : Fg} {H : Hp} {O O0 : List Addr} {σ : St} {ds : DS} {v : V} {x : DV} (R : Rep K F H O σ ds) (i : Nat) (hx : (∃ d, x = .d d) ∨ ∃ d, x = .own d) (h : RpV K F H O0 O σ ds v x) (hm : ∀ p, (∃ d, x = .own d) → v = .ref p → ∀ j, ¬ MutAt σ ds j p) :
    Rep K F H O (σ.set i (some v)) ⟨ds.sl.set i (some x), ds.n⟩ ∧ ∀ j p, MutAt (σ.set i (some v)) ⟨ds.sl.set i (some x), ds.n⟩ j p → MutAt σ ds j p ∨ (v = .ref p ∧ ∃ d, x = .own d) := by
  constructor
  · rcases hx with ⟨d, e⟩ | ⟨d, e⟩
    · subst e; exact R.setD i h
    · subst e
      obtain ⟨p, vs, ev, h1, h2, h3, h4, h5⟩ := h
      subst ev
      exact R.setO i h1 h3 (hm p ⟨d, rfl⟩ rfl) h4 h5
  · rintro j p ⟨a, dv, b, c⟩
    rcases sl_set_of b with ⟨e1, e2⟩ | ⟨e1, e2⟩
    · subst e1 e2
      have hi : i < σ.length := by have := (List.getElem?_eq_some_iff.mp a).1; simpa using this
      rw [List.getElem?_set_self hi] at a
      cases a
      rcases hx with ⟨d, e⟩ | ⟨d, e⟩
      · subst e; exact c.elim
      · exact .inr ⟨rfl, d, e⟩
    · rw [List.getElem?_set_ne e1] at a
      exact .inl ⟨a, dv, e2, c⟩
theorem RpV.free {K : Fg} {H : Hp} {O0 O : List Addr} {σ σ' : St} {ds ds' : DS} {v : V} {x : DV} (hx : (∃ d, x = .d d) ∨ ∃ d, x = .own d) (h : RpV K F H O0 O σ ds v x) : RpV K F H O0 O σ' ds' v x := by
  rcases hx with ⟨d, e⟩ | ⟨d, e⟩
  · subst e; exact h
  · subst e; exact h
theorem ds_par {i j : Nat} {st : Stmt} (h : PS X st (tPar i j (liftA X.K F tA))) : DSt X F st (dPar i j tA) := PS_imp h fun D σ H ⟨O, ds, E, R, ht, kk⟩ =>
  ⟨O, ds, _, R, ht, fun xs ds1 vs H1 O1 s1 R1 rx hx => by
    split at hx
    · rename_i x y ds2 ep
      obtain ⟨O2, s2, R2, ⟨rs, ap⟩, kinds, _⟩ := prepL_ok R s1 R1 rx ep
      cases rs with
      | cons r1 rs =>
        cases rs with
        | cons r2 rs =>
          cases rs
          rename_i v w
          have k1 := kinds x (by simp)
          have k2 := kinds y (by simp)
          have tmp : ∀ {v : V} {x : DV}, RpV X.K F H1 O O2 σ ds2 v x → ∀ p, (∃ d, x = .own d) → v = .ref p → ∀ j, ¬ MutAt σ ds2 j p := fun hr p ⟨d, ex⟩ ev j hj => by
            subst ex
            obtain ⟨q, _, eq, _, n, _⟩ := hr
            rw [ev] at eq; cases eq
            exact n (s2.mutO R p ⟨j, hj⟩)
          obtain ⟨R3, m3⟩ := R2.setV i k1 r1 (tmp r1)
          obtain ⟨R4, _⟩ := R3.setV (O0 := O) j k2 (r2.free k2) fun p ho ev l hl => by
            rcases m3 l p hl with z | ⟨z1, d, z2⟩
            · exact tmp r2 p ho ev l z
            · obtain ⟨d', e'⟩ := ho
              exact ap 0 1 p d d' (by omega) (by rw [z1]; rfl) (by rw [ev]; rfl) (by rw [z2]; rfl) (by rw [e']; rfl)
          exact ⟨v, w, rfl, kk.nx O2 _ _ H1 (s2.hs R) R4 hx⟩
    · exact hx.elim⟩
theorem ds_par3 {i j l : Nat} {st : Stmt} (h : PS X st (tPar3 i j l (liftA X.K F tA))) : DSt X F st (dPar3 i j l tA) := PS_imp h fun D σ H ⟨O, ds, E, R, ht, kk⟩ =>
  ⟨O, ds, _, R, ht, fun xs ds1 vs H1 O1 s1 R1 rx hx => by
    split at hx
    · rename_i x y z ds2 ep
      obtain ⟨O2, s2, R2, ⟨rs, ap⟩, kinds, _⟩ := prepL_ok R s1 R1 rx ep
      cases rs with
      | cons r1 rs =>
        cases rs with
        | cons r2 rs =>
          cases rs with
          | cons r3 rs =>
            cases rs
            rename_i u v w
            have k1 := kinds x (by simp)
            have k2 := kinds y (by simp)
            have k3 := kinds z (by simp)
            have tmp : ∀ {v : V} {x : DV}, RpV X.K F H1 O O2 σ ds2 v x → ∀ p, (∃ d, x = .own d) → v = .ref p → ∀ j, ¬ MutAt σ ds2 j p := fun hr p ⟨d, ex⟩ ev j hj => by
              subst ex
              obtain ⟨q, _, eq, _, n, _⟩ := hr
              rw [ev] at eq; cases eq
              exact n (s2.mutO R p ⟨j, hj⟩)
            obtain ⟨R3, m3⟩ := R2.setV i k1 r1 (tmp r1)
            obtain ⟨R4, m4⟩ := R3.setV (O0 := O) j k2 (r2.free k2) fun p ho ev m hl => by
              rcases m3 m p hl with t | ⟨z1, d, z2⟩
              · exact tmp r2 p ho ev m t
              · obtain ⟨d', e'⟩ := ho
                exact ap 0 1 p d d' (by omega) (by rw [z1]; rfl) (by rw [ev]; rfl) (by rw [z2]; rfl) (by rw [e']; rfl)
            obtain ⟨R5, _⟩ := R4.setV (O0 := O) l k3 (r3.free k3) fun p ho ev m hl => by
              obtain ⟨d', e'⟩ := ho
              rcases m4 m p hl with t | ⟨z1, d, z2⟩
              · rcases m3 m p t with t | ⟨z1, d, z2⟩
                · exact tmp r3 p ⟨d', e'⟩ ev m t
                · exact ap 0 2 p d d' (by omega) (by rw [z1]; rfl) (by rw [ev]; rfl) (by rw [z2]; rfl) (by rw [e']; rfl)
              · exact ap 1 2 p d d' (by omega) (by rw [z1]; rfl) (by rw [ev]; rfl) (by rw [z2]; rfl) (by rw [e']; rfl)
            exact ⟨u, v, w, rfl, kk.nx O2 _ _ H1 (s2.hs R) R5 hx⟩
    · exact hx.elim⟩
end
end SF

/-! SL15: zip, unpacking, augmented assignment; defs as a row of facts. -/
namespace SF
open PySem PySem.Spec PyProof.Rows L2
section
variable {X : Cx} {F : Fx} {tg e a b : Expr} {te : DTE} {tA : DTA} {p pos tpos : Pos}
def zipD : List D → List D → List D
  | x :: xs, y :: ys => .tuple [x, y] :: zipD xs ys
  | _, _ => []
theorem zipD_len : ∀ (xs ys : List D), (zipD xs ys).length = min xs.length ys.length
  | [], _ => by simp [zipD]
  | _ :: _, [] => by simp [zipD]
  | x :: xs, y :: ys => by simp only [zipD, List.length_cons, zipD_len xs ys]; omega
theorem zipD_get : ∀ {xs ys : List D} {i : Nat} {x y : D}, xs[i]? = some x → ys[i]? = some y → (zipD xs ys)[i]? = some (.tuple [x, y])
  | [], _, _, _, _, h, _ => by simp at h
  | _ :: _, [], _, _, _, _, h => by simp at h
  | a :: xs, b :: ys, 0, x, y, h, h' => by simp at h h'; subst h h'; rfl
  | a :: xs, b :: ys, i + 1, x, y, h, h' => by
    simp only [zipD, List.getElem?_cons_succ]
    exact zipD_get (by simpa using h) (by simpa using h')
theorem itok_zip {K : Fg} {H : Hp} {O : List Addr} {a b : Addr} {vs ws : List V} {xs ys : List D} (lo : LO O H) (h : LsA H O a vs) (h' : LsA H O b ws) (r : RpL K H O vs xs) (r' : RpL K H O ws ys) (hz : xs.length ≤ 16777216) : ItOk false K (Itz K a b) (zipD xs ys) O H where
  len := by rw [zipD_len, sizeLine_eq]; omega
  go := fun H2 O2 lo2 hs i hi => by
    rw [zipD_len] at hi
    have h2 : SqL K H2 a vs := .inl (.inl (hs.kp a _ h.1 h.2))
    have h2' : SqL K H2 b ws := .inl (.inl (hs.kp b _ h'.1 h'.2))
    have i1 : i < xs.length := by omega
    have i2 : i < ys.length := by omega
    obtain ⟨v, ev, rv⟩ := (hs_rpl lo hs r).get (List.getElem?_eq_getElem i1)
    obtain ⟨w, ew, rw'⟩ := (hs_rpl lo hs r').get (List.getElem?_eq_getElem i2)
    refine ⟨⟨vs, ws, v, w, h2, h2', ev, ew⟩, fun x H3 hy => ?_⟩
    obtain ⟨T, x1, x2, e1, hT, e2, f1, f2⟩ := hy
    subst e1 e2
    have q1 := f1 vs h2
    have q2 := f2 ws h2'
    rw [ev] at q1; cases q1
    rw [ew] at q2; cases q2
    have sm := same_new (o := .tup [v, w]) hT
    refine ⟨_, zipD_get (List.getElem?_eq_getElem i1) (List.getElem?_eq_getElem i2), sm, T, [v, w], _, rfl, rfl, .inl (.inl upd_same), ?_⟩
    exact .cons (Rp.mv lo2 (same_keep sm) grow_refl rv) (.cons (Rp.mv lo2 (same_keep sm) grow_refl rw') .nil)
  stop := fun H2 O2 lo2 hs => ⟨vs, ws, .inl (.inl (hs.kp a _ h.1 h.2)), .inl (.inl (hs.kp b _ h'.1 h'.2)), by rw [zipD_len, r.length, r'.length]; omega⟩
theorem itok_zipT {K : Fg} {H : Hp} {O : List Addr} {a b : Addr} {vs ws : List V} {xs ys : List D} (lo : LO O H) (h : SqT K H a vs) (h' : SqT K H b ws) (r : RpL K H O vs xs) (r' : RpL K H O ws ys) (hz : xs.length ≤ 16777216) : ItOk false K (RZ.ItzT K a b) (zipD xs ys) O H where
  len := by rw [zipD_len, sizeLine_eq]; omega
  go := fun H2 O2 lo2 hs i hi => by
    rw [zipD_len] at hi
    have h2 : SqT K H2 a vs := SqT.mv lo hs.kp h
    have h2' : SqT K H2 b ws := SqT.mv lo hs.kp h'
    have i1 : i < xs.length := by omega
    have i2 : i < ys.length := by omega
    obtain ⟨v, ev, rv⟩ := (hs_rpl lo hs r).get (List.getElem?_eq_getElem i1)
    obtain ⟨w, ew, rw'⟩ := (hs_rpl lo hs r').get (List.getElem?_eq_getElem i2)
    refine ⟨⟨vs, ws, v, w, h2, h2', ev, ew⟩, fun x H3 hy => ?_⟩
    obtain ⟨T, x1, x2, e1, hT, e2, f1, f2⟩ := hy
    subst e1 e2
    have q1 := f1 vs h2
    have q2 := f2 ws h2'
    rw [ev] at q1; cases q1
    rw [ew] at q2; cases q2
    have sm := same_new (o := .tup [v, w]) hT
    refine ⟨_, zipD_get (List.getElem?_eq_getElem i1) (List.getElem?_eq_getElem i2), sm, T, [v, w], _, rfl, rfl, .inl (.inl upd_same), ?_⟩
    exact .cons (Rp.mv lo2 (same_keep sm) grow_refl rv) (.cons (Rp.mv lo2 (same_keep sm) grow_refl rw') .nil)
  stop := fun H2 O2 lo2 hs => ⟨vs, ws, SqT.mv lo hs.kp h, SqT.mv lo hs.kp h', by rw [zipD_len, r.length, r'.length]; omega⟩
/-- zip of two lists or of two tuples -/
def dZip (tA : DTA) : DTI := fun ds Q => tA ds fun xs ds1 => match frzL ds1 xs with
  | some ([.list xs, .list ys], ds2) => xs.length ≤ 16777216 ∧ Q (zipD xs ys) ds2
  | some ([.tuple xs, .tuple ys], ds2) => xs.length ≤ 16777216 ∧ Q (zipD xs ys) ds2
  | _ => False
theorem di_zip {elts : List Expr} {kk : Nat} (hg : Gl X "zip") (hm : X.mg "zip" = none) (ha : DA X F [a, b] tA) (hs : starEach [a, b] X.env = (false, eval a X.env) :: starEach [b] X.env := by rfl) (hpl : (backTo pos (starEach [b] X.env)).any (·.1) = false := by rfl) :
    DI false X F (.Tuple elts kk tpos) (.Call (.Name "zip" p) [a, b] [] pos) (dZip tA) :=
  PI_imp (RZ.pi_zipA hg hm ha hs hpl) fun σ H Q ⟨O, ds, Qa, R, ht, hq⟩ => ⟨O, ds, _, R, ht, fun xs ds1 vs H1 O1 s1 R1 rx hx => by
    split at hx
    · rename_i xs ys ds2 e
      obtain ⟨O2, s2, R2, rl, _⟩ := frzL_ok R s1 R1 rx e
      cases rl with
      | cons r1 rl =>
        cases rl with
        | cons r2 rl =>
          cases rl
          cases r1 with
          | lst h1 l1 =>
            cases r2 with
            | lst h2 l2 => exact ⟨_, _, _, _, rfl, .inl ⟨.inl (.inl h1.1), .inl (.inl h2.1), hq _ ds2 H1 O2 _ s2 R2 (itok_zip R2.lo h1 h2 l1 l2 hx.1) hx.2⟩⟩
    · rename_i xs ys ds2 e
      obtain ⟨O2, s2, R2, rl, _⟩ := frzL_ok R s1 R1 rx e
      cases rl with
      | cons r1 rl =>
        cases rl with
        | cons r2 rl =>
          cases rl
          cases r1 with
          | tup h1 l1 =>
            cases r2 with
            | tup h2 l2 => exact ⟨_, _, _, _, rfl, .inr ⟨TpA.seq h1, TpA.seq h2, hq _ ds2 H1 O2 _ s2 R2 (itok_zipT R2.lo (TpA.seq h1) (TpA.seq h2) l1 l2 hx.1) hx.2⟩⟩
    · exact hx.elim⟩
/-! a, b = e -/
def dTgt (g : DTG) (te : DTE) : DTS := fun E ds => te ds fun x ds1 => match frz ds1 x with
  | some (d, ds2) => g d ds2 E.nx
  | none => False
theorem ds_tgt {T : List Nat} {g : DTG} (he : DE X F e te) (hg : DG true T X F tg g) (hs : swapsWithSole [tg] e pos.line X.env = pure false := by rfl) (hw : swappedStores [tg] e X.env = pure none := by rfl)
    (h1 : (assignEach [tg] X.env).map (·.2) = [assign tg X.env] := by rfl) : DSt X F (.Assign [tg] e pos) (dTgt g te) := PS_imp (ps_asg he hg hs hw h1) fun D σ H ⟨O, ds, E, R, ht, kk⟩ =>
  ⟨O, ds, _, R, ht, fun x ds1 v H1 O1 s1 R1 rx hx => by
    cases e : frz ds1 x with
    | none => rw [e] at hx; exact hx.elim
    | some q =>
      obtain ⟨d, ds2⟩ := q
      rw [e] at hx
      obtain ⟨O2, s2, R2, r, _, _⟩ := frz_ok R s1 R1 rx e
      exact ⟨O2, ds2, d, _, R2, r, hx, fun O' ds' σ' t R' _ hn => kk.nx O' ds' σ' H1 ((s2.hs R).trans t.hs) R' hn⟩⟩
/-! x += e, numbers -/
def dAug (i : Nat) (f : Int → Int → Int) (te : DTE) : DTS := fun E ds => match ds.sl[i]? with
  | some (some (.d (.int a))) => te ds fun x ds1 => match peek ds1 x with
    | some (.int b) => E.nx ⟨ds1.sl.set i (some (.d (.int (f a b)))), ds1.n⟩
    | _ => False
  | _ => False
theorem ds_aug {i : Nat} {st : Stmt} {f : Int → Int → Int} (h : PS X st (tAug i (lift X.K F te) (ipI f))) : DSt X F st (dAug i f te) := PS_imp h fun D σ H ⟨O, ds, E, R, ht, kk⟩ => by
  unfold dAug at ht
  split at ht
  · rename_i a e0
    obtain ⟨v, ev, r⟩ := R.sl i _ e0
    cases (show Rp X.K H O v (.int a) from r)
    refine ⟨_, ev, O, ds, _, R, ht, fun x ds1 w H1 O1 s1 R1 rx hx => ?_⟩
    split at hx
    · rename_i b e1
      exact ⟨a, b, rfl, (RpV.vw R1 rx e1).int, kk.nx O1 _ _ H1 (s1.hs R) (R1.setD i (.int _)) hx⟩
    · exact hx.elim
  · exact ht.elim
end
/-! ### a def of the text, its place and its promise -/
structure Pr (P : Program) (w : World) (K : Fg) (mg : Str → Option Value) (base : Heap) (k : Nat) (x : Str) (st : Stmt) (ps : List Str) (dsp : DSp) : Prop where
  ex : ∃ f fd, FnG P w K mg base (L2.CX P w) k f fd ps (spD K mg dsp) ∧ Fun K x x st f fd ∧ mg x = some (.ref f) ∧ Binds K fd ps []
structure Df (K : Fg) (mg : Str → Option Value) (x : Str) (st : Stmt) (ps : List Str) : Prop where
  ex : ∃ f fd, Fun K x x st f fd ∧ mg x = some (.ref f) ∧ Binds K fd ps []
section
variable {P : Program} {w : World} {K : Fg} {mg : Str → Option Value} {base : Heap} {k : Nat} {x : Str} {st : Stmt} {N ps : List Str} {dsp : DSp}
theorem Pr.mono {j : Nat} (h : Pr P w K mg base k x st ps dsp) (hj : k ≤ j) : Pr P w K mg base j x st ps dsp := by
  obtain ⟨f, fd, G, r⟩ := h.ex
  exact ⟨f, fd, G.mono hj, r⟩
/-- from the text's def, its derivation and its reading to its promise -/
theorem Df.pr {t : DTS} (D : Df K mg x st ps) (S : FnScope N ps (defScope st)) (len : ∀ args n Q E, dsp args n Q E → args.length = ps.length)
    (der : ∀ (f : Addr) (cdv : Value) (A : Around) (outer : List Env) (s : Shared) (H : Hp) (E : XK) (F : Fx), RoomG k (A.deeper (envOfC x (defScope st) s.heap.objs.size f cdv)) →
      DSs (cxOf (L2.CX P w) P w K mg base N x (defScope st) f cdv A outer s H E).nox F (defBody st) t)
    (rd : ∀ args n Qa Ea, dsp args n Qa Ea → t ⟨fun ds => Qa (.d .none) ds.n, fun r ds => Qa r ds.n, fun _ => False, fun _ => False⟩ (startD N.length args n)) : Pr P w K mg base (k + 1) x st ps dsp := by
  obtain ⟨f, fd, Fu, g, b⟩ := D.ex
  exact ⟨f, fd, fnD_of Fu S len fun cdv A outer s H E F hr => ⟨t, der f cdv A outer s H E F hr, rd⟩, Fu, g, b⟩
end
section
variable {X : Cx} {F : Fx} {k : Nat} {x : Str} {st : Stmt} {ps ks : List Str} {dsp : DSp} {p pos : Pos} {e : Expr} {es : List Expr} {kws : List Keyword} {tA : DTA}
theorem de_callP (I : Pr X.prog X.w X.K X.mg X.base k x st ps dsp) (hr : RoomG k X.A) (hg : Gl X x) (ha : DA X F (e :: es) tA) (hdb : (x == ("__debug__" : Str)) = false := by decide) (he : starEach (e :: es) X.env = (false, eval e X.env) :: starEach es X.env := by rfl) (hpl : (backTo pos (starEach es X.env)).any (·.1) = false := by rfl) :
    DE X F (.Call (.Name x p) (e :: es) [] pos) (dCall dsp (fun as => as) tA) := by
  obtain ⟨f, fd, G, Fu, g, b⟩ := I.ex
  exact de_call G hr hg g Fu.kp b passX ha hdb he hpl
/-- a list by places, if it has so many items -/
def pick {α : Type} (n : Nat) (ix : List Nat) (xs : List α) : List α := if xs.length = n then ix.filterMap fun i => xs[i]? else []
theorem pick_paired {α β : Type} {R : α → β → Prop} {n : Nat} {ix : List Nat} {xs : List α} {ys : List β} (h : Paired R xs ys) : Paired R (pick n ix xs) (pick n ix ys) := by
  unfold pick
  rw [paired_len h]
  split
  · induction ix with
    | nil => exact .nil
    | cons i ix ih =>
      have g : ∀ {xs : List α} {ys : List β} (i : Nat), Paired R xs ys → (xs[i]? = none ∧ ys[i]? = none) ∨ ∃ a b, xs[i]? = some a ∧ ys[i]? = some b ∧ R a b := by
        intro xs ys i h
        induction h generalizing i with
        | nil => exact .inl ⟨by simp, by simp⟩
        | cons r _ ih =>
          cases i with
          | zero => exact .inr ⟨_, _, rfl, rfl, r⟩
          | succ i => simpa using ih i
      rcases g i h with ⟨e1, e2⟩ | ⟨a, b, e1, e2, r⟩
      · simp only [List.filterMap_cons, e1, e2]; exact ih
      · simp only [List.filterMap_cons, e1, e2]; exact .cons r ih
  · exact .nil
theorem de_callKP {n : Nat} {ix : List Nat} (I : Pr X.prog X.w X.K X.mg X.base k x st ps dsp) (hr : RoomG k X.A) (hg : Gl X x) (hkw : DK X F kws tA)
    (hb : ∀ (kV doc pm : Value) (an : Option Addr) (cdv ct : Value) (ws : List Value), (pick n ix ws).length = ps.length → bindArgs (PySem.W.fnOf x x (defArgs st) (defBody st) (defScope st) .none kV doc pm an cdv ct) ⟨[], ks.zip ws⟩ = pure (ps.zip (pick n ix ws)))
    (hall : (backToKw pos (keywordEach kws X.env)).all (·.1.isSome) = true := by rfl) (hks : (backToKw pos (keywordEach kws X.env)).filterMap (·.1) = ks := by rfl)
    (hdb : (x == ("__debug__" : Str)) = false := by decide) (hpl : (backToKw pos (keywordEach kws X.env)).any (·.1.isNone) = false := by rfl) :
    DE X F (.Call (.Name x p) [] kws pos) (dCall dsp (pick n ix) tA) := by
  obtain ⟨f, fd, G, Fu, g, b⟩ := I.ex
  refine de_callK (g := pick n ix) ⟨fun h => pick_paired h⟩ G hr hg g Fu.kp ?_ (fun h => pick_paired h) passX hkw hall hks hdb hpl
  obtain ⟨oc, od, kV, doc, pm, an, cdv, ct, osl, efd, lk, hcd⟩ := Fu.ex
  subst efd
  exact fun s ws _ hl => .of_eq (hb kV doc pm an cdv ct ws hl)
end
end SF

namespace SF
open PySem PySem.Spec PyProof.Rows L2
def sp_take0 : DSp := fun args n Q _ => ∃ k : Int, args = [.box, .d (.int k)] ∧ 0 < k ∧ k ≤ 10000000 ∧ 1 ≤ n ∧ ∀ r : Int, 0 ≤ r → r < k → Q (.d (.int r)) (n - 1)
def sp_take : DSp := fun args n Q _ => ∃ k : Int, args = [.box, .d (.int k)] ∧ 0 < k ∧ k < 1073741824 ∧ 3 ≤ n ∧ ∀ r : Int, 0 ≤ r → r < k → Q (.d (.int r)) (n - 3)
/-- what a call of take asks, at the heap: the box at b -/
theorem take_in {K : Fg} {mg : Str → Option Value} {dsp : DSp} {vs : List V} {H : Hp} {Q : VK} {E : XK} (h : spD K mg dsp vs H Q E) (hd : ∀ args n Q E, dsp args n Q E → ∃ k : Int, args = [.box, .d (.int k)]) :
    ∃ (b : Addr) (n : Nat) (k : Int) (Qa : DV → Nat → Prop) (Ea : DXK), vs = [.ref b, .int k] ∧ BoxAt H b n ∧ dsp [.box, .d (.int k)] n Qa Ea ∧ ∀ (r : Int) (n' : Nat) H', Keep [b] H H' → BoxAt H' b n' → Qa (.d (.int r)) n' → Q (.int r) H' := by
  obtain ⟨B, O, args, n, Qa, Ea, lo, hb, ha, h1, hdd, hq, _⟩ := h
  obtain ⟨k, e⟩ := hd _ _ _ _ hdd
  subst e
  cases ha with
  | cons a1 a2 =>
    cases a2 with
    | cons a2 a3 =>
      cases a3
      obtain ⟨b, eB, ev⟩ := a1
      subst eB ev
      cases (show Rp K H O _ (.int k) from a2)
      exact ⟨b, n, k, Qa, Ea, rfl, (hb b (by simp)).2, hdd, fun r n' H' kp bx q => hq (.d (.int r)) n' (.int r) H' kp (fun b' hb' => by rw [List.mem_singleton.mp hb']; exact bx) (.int r) q⟩
theorem take_out {K : Fg} {mg : Str → Option Value} {dsp : DSp} {H : Hp} {Q : VK} {b : Addr} {n : Nat} {k : Int} {Qa : DV → Nat → Prop} (hb : BoxAt H b n) (hd : dsp [.box, .d (.int k)] n Qa fun _ _ _ => False) (hk : ∀ r n', Qa r n' → ∃ i, r = .d (.int i))
    (hq : ∀ (r : Int) (n' : Nat) H', Keep [b] H H' → BoxAt H' b n' → Qa (.d (.int r)) n' → Q (.int r) H') : spD K mg dsp [.ref b, .int k] H Q E0 := by
  obtain ⟨xs, ex⟩ := hb.some
  refine ⟨[b], [b], [.box, .d (.int k)], n, Qa, _, fun p hp => ?_, fun p hp => ?_, .cons ⟨b, rfl, rfl⟩ (.cons (.int k) .nil), fun i j hi hj => ?_, hd, fun r n' v H' kp bx rr q => ?_, fun _ _ _ _ _ _ _ _ _ z => z.elim⟩
  · have : p = b := by simpa using hp
    subst this; exact ⟨xs, ex⟩
  · have : p = b := by simpa using hp
    subst this; exact ⟨by simp, hb⟩
  · have f : ∀ i : Nat, ([DV.box, DV.d (.int k)] : List DV)[i]? = some .box → i = 0 := fun i h => by
      cases i with
      | zero => rfl
      | succ i => cases i <;> simp at h
    rw [f i hi, f j hj]
  · obtain ⟨i, e⟩ := hk r n' q
    subst e
    cases (show Rp K H' [b] v (.int i) from rr)
    exact hq i n' H' kp (bx b (by simp)) q
def ifBd : Stmt → List Stmt
  | .If _ b _ _ => b
  | _ => []
theorem Keep.trans {O : List Addr} {H H1 H2 : Hp} (h : Keep O H H1) (h' : Keep O H1 H2) : Keep O H H2 := fun a o e n => h' a o (h a o e n) n
theorem BoxAt.less {H : Hp} {b : Addr} {n m : Nat} (h : BoxAt H b n) (hm : m ≤ n) : BoxAt H b m := by
  obtain ⟨x, y, c, hb, hx, hy, hy2, hc, hn⟩ := h
  exact ⟨x, y, c, hb, hx, hy, hy2, hc, by omega⟩
theorem keep_upd {H : Hp} {b : Addr} {o : HO} : Keep [b] H (upd H b o) := fun a u h n => by
  rw [upd_ne (show a ≠ b by intro e; subst e; exact n (by simp))]; exact h
/-- the draw, read over the heap; the way by two smaller draws is left open -/
def tIx (K : Fg) (i : Int) : TE := tOp (rIxL K) (tVar 0) (tC (V.int i))
def tMod (a b : TE) : TE := tOp (rI (fun _ j => 0 < j) fun i j => V.int (i % j)) a b
def tAdd (a b : TE) : TE := tOp (rI0 fun i j => V.int (i + j)) a b
def tMul (a b : TE) : TE := tOp (rI CMul fun i j => V.int (i * j)) a b
def tDiv (a b : TE) : TE := tOp (rI CDiv fun i j => V.int (i / j)) a b
def tPow (a b : TE) : TE := tOp (rI CPow fun i j => V.int (i ^ j.toNat)) a b
def tTake (K : Fg) (tR : TS) : TS :=
  tSeq (tIfS (tTest (tOp (rI0 fun i j => V.bl (decide (j < i))) (tIx K 0) (tC (V.int 0))))
    (tSeq (tAsg (tMod (tIx K 0) (tVar 1)) (gName 2)) (tSeq (tAsg (tDiv (tIx K 0) (tVar 1)) (gSub (tVar 0) (tC (V.int 0)) rSetL)) (tRet (tVar 2)))) tNext)
  (tSeq (tIfS (tTest (tOp (rI0 fun i j => V.bl (decide (j < i))) (tVar 1) (tPow (tC (V.int 10)) (tC (V.int 7))))) tR tNext)
  (tSeq (tAsg (tAdd (tIx K 2) (tC (V.int 1))) (gSub (tVar 0) (tC (V.int 2)) rSetL))
  (tSeq (tAsg (tMod (tPow (tAdd (tIx K 1) (tMul (tC (V.int 51749)) (tIx K 2))) (tC (V.int 3))) (tC (V.int 2147483587))) (gName 3))
  (tRet (tMod (tDiv (tMod (tAdd (tMul (tVar 3) (tAdd (tMod (tVar 3) (tC (V.int 30013))) (tC (V.int 11)))) (tMul (tIx K 2) (tC (V.int 6427)))) (tC (V.int 2147483647))) (tC (V.int 32))) (tVar 1))))))
theorem take_read {K : Fg} {tR : TS} {H : Hp} {b : Addr} {n : Nat} {k : Int} {Q : VK} {D : Ends} (hD : D.rt = Q) (hb : BoxAt H b n) (k0 : 0 < k) (k1 : k < 1073741824) (n1 : 1 ≤ n)
    (hq : ∀ (r : Int) H', 0 ≤ r → r < k → Keep [b] H H' → BoxAt H' b (n - 1) → Q (.int r) H')
    (hR : 10000000 < k → ∀ D' : Ends, D'.rt = Q → tR D' [some (.ref b), some (.int k), none, none] H) : tTake K tR D [some (.ref b), some (.int k), none, none] H := by
  obtain ⟨x, y, c, hb, hx, hy, hy2, hc, hn⟩ := hb
  refine ⟨_, rfl, b, _, 0, _, rfl, rfl, SqL.of hb, rfl, x, 0, rfl, rfl, _, rfl, ?_⟩
  refine ite2 (fun e => ?_) (fun e => ?_)
  · have hx1 : 0 < x := of_decide_eq_true e
    refine ⟨_, rfl, b, _, 0, _, rfl, rfl, SqL.of hb, rfl, _, rfl, x, k, rfl, rfl, k0, ?_⟩
    refine ⟨_, rfl, b, _, 0, _, rfl, rfl, SqL.of hb, rfl, _, rfl, x, k, rfl, rfl, ⟨k0, k1⟩, ?_⟩
    refine ⟨_, rfl, b, _, 0, 0, rfl, rfl, hb, rfl, ?_⟩
    refine ⟨_, rfl, ?_⟩
    show D.rt _ _
    rw [hD]
    refine hq _ _ (Int.emod_nonneg x (by omega)) (Int.emod_lt_of_pos x k0) keep_upd ⟨x / k, y, c, upd_same, Int.ediv_nonneg hx (by omega), hy, hy2, hc, by omega⟩
  · refine ⟨_, rfl, 10, 7, rfl, rfl, ⟨by decide, by decide, by decide⟩, _, _, rfl, rfl, _, rfl, ?_⟩
    refine ite2 (fun e2 => ?_) (fun e2 => ?_)
    · exact hR (by have := of_decide_eq_true e2; simpa using this) _ hD
    · refine ⟨_, rfl, b, _, 2, _, rfl, rfl, SqL.of hb, rfl, c, 1, rfl, rfl, ?_⟩
      refine ⟨_, rfl, b, _, 2, 2, rfl, rfl, hb, rfl, ?_⟩
      have hb2 : upd H b (.lst [V.int x, V.int y, V.int (c + 1)]) b = some (.lst [V.int x, V.int y, V.int (c + 1)]) := upd_same
      refine ⟨_, rfl, b, _, 1, _, rfl, rfl, SqL.of hb2, rfl, _, rfl, b, _, 2, _, rfl, rfl, SqL.of hb2, rfl, 51749, c + 1, rfl, rfl, .inl ⟨by decide, by decide⟩, y, _, rfl, rfl, _, 3, rfl, rfl, ⟨by decide, by decide, ?_⟩, _, 2147483587, rfl, rfl, (by decide : (0 : Int) < 2147483587), ?_⟩
      · omega
      have o0 : 0 ≤ (y + 51749 * (c + 1)) ^ (3 : Int).toNat % 2147483587 := Int.emod_nonneg _ (by decide)
      have o1 : (y + 51749 * (c + 1)) ^ (3 : Int).toNat % 2147483587 < 2147483587 := Int.emod_lt_of_pos _ (by decide)
      refine ⟨_, rfl, _, rfl, _, 30013, rfl, rfl, (by decide : (0 : Int) < 30013), _, 11, rfl, rfl, _, _, rfl, rfl, .inl ⟨by omega, by omega⟩, ?_⟩
      refine ⟨_, rfl, b, _, 2, _, rfl, rfl, SqL.of hb2, rfl, c + 1, 6427, rfl, rfl, .inr ⟨by decide, by decide⟩, _, _, rfl, rfl, _, 2147483647, rfl, rfl, (by decide : (0 : Int) < 2147483647), _, 32, rfl, rfl, ⟨by decide, by decide⟩, _, rfl, _, k, rfl, rfl, k0, ?_⟩
      show D.rt _ _
      rw [hD]
      exact hq _ _ (Int.emod_nonneg _ (by omega)) (Int.emod_lt_of_pos _ k0) keep_upd ⟨x, y, c + 1, upd_same, hx, hy, hy2, by omega, by omega⟩
theorem len_take {K : Fg} {mg : Str → Option Value} {dsp : DSp} (hd : ∀ args n Q E, dsp args n Q E → ∃ k : Int, args = [.box, .d (.int k)]) : ∀ vs H Q E, spD K mg dsp vs H Q E → vs.length = 2 := fun vs H Q E h => by
  obtain ⟨b, n, k, Qa, Ea, e, _⟩ := take_in h hd
  subst e; rfl
end SF

/-! SL17: the ends of a law whose def keeps a promise where no repr is under way. -/
namespace SF
open PySem PySem.Spec PyProof.Rows L2
/-- the law's script as the abstract heap shows it: either one of the module's own objects, or the one tracked address -/
structure Scr (P : Program) (w : World) (K : Fg) (H : Hp) (h : Heap) (a : Addr) (ns : List Int) : Prop where
  few : ∀ b u, H b = some u → K.lookup b = none ∧ ∃ (o : Obj) (its : Array Value) (n : Nat), u = .frz o (.lst (ns.map V.int)) ∧ o.data = .seq its n ∧ h.get? b = some o
  sq : SqL K H a (ns.map V.int)
  ok : HOk P w H h
section
variable {P : Program} {w : World} {K : Fg} {mg mb : Str → Option Value} {k : Nat} {fa a : Addr} {fd : FuncData} {x : Str} {sp : Sp} {s₁ : Shared} {vs : List Value} {ns : List Int} {H : Hp}
theorem scr_make (KX : K.In s₁.heap) (ha : s₁.heap.get? a = some { cls := .type "list", data := .seq vs.toArray }) (hi : IntsAre vs ns) (hl : ns.length ≤ sizeLine) : ∃ H, Scr P w K H s₁.heap a ns := by
  have rv := vals_ints hi
  have e := hi.length
  cases q : K.lookup a with
  | some o =>
    have z := (KX a o q).symm.trans ha
    cases z
    refine ⟨fun _ => none, ⟨fun b u z => ?_, .inr ⟨_, _, _, q, rfl, rfl, rfl, by rw [List.size_toArray, e]; exact hl, by simpa using rv⟩, fun b u z => ?_⟩⟩
    · exact absurd (show (none : Option HO) = some u from z) (by simp)
    · exact absurd (show (none : Option HO) = some u from z) (by simp)
  | none =>
    have hit : ∀ {b : Addr} {u : HO}, (if b = a then some (HO.frz { cls := .type "list", data := .seq vs.toArray } (.lst (ns.map V.int))) else none) = some u → b = a ∧ u = .frz { cls := .type "list", data := .seq vs.toArray } (.lst (ns.map V.int)) := by
      intro b u z
      split at z
      · rename_i c; cases z; exact ⟨c, rfl⟩
      · cases z
    refine ⟨fun b => if b = a then some (HO.frz { cls := .type "list", data := .seq vs.toArray } (.lst (ns.map V.int))) else none, ⟨fun b u z => ?_, .inl (.inr ⟨_, if_pos rfl⟩), fun b u z => ?_⟩⟩
    · obtain ⟨rfl, rfl⟩ := hit z
      exact ⟨q, _, _, _, rfl, rfl, ha⟩
    · obtain ⟨rfl, rfl⟩ := hit z
      exact ⟨ha, by rw [List.length_map]; exact hl, vs, _, rv, ha⟩
theorem Scr.untracked (S : Scr P w K H s₁.heap a ns) {b : Addr} {o : Obj} {es : Array DictEntry} {ep : Nat} (e : s₁.heap.get? b = some o) (d : o.data = .dict es ep) : H b = none := by
  cases q : H b with
  | none => rfl
  | some u =>
    obtain ⟨_, o', its, n, _, d', e'⟩ := S.few b u q
    rw [e] at e'; cases e'
    rw [d] at d'; cases d'
theorem Scr.names (S : Scr P w K H s₁.heap a ns) {b : Addr} {m : Str → Option Value} (h : s₁.heap.Ns b m) : (hidT s₁.heap H).Ns b m := by
  obtain ⟨o, es, ep, e, d, r⟩ := h
  exact ⟨o, es, ep, hidT_get e (S.untracked e d), d, r⟩
theorem Scr.kin (S : Scr P w K H s₁.heap a ns) (KX : K.In s₁.heap) : K.In (hidT s₁.heap H) := fun b o e => hidT_get (KX b o e) (by
  cases q : H b with
  | none => rfl
  | some u => have z := (S.few b u q).1; rw [e] at z; cases z)
theorem law_G (KX : K.In s₁.heap) (hns : s₁.heap.Ns mainGlobals mg) (hb : s₁.heap.Ns builtinsNs mb) (hbb : ∀ x : Str, x ≠ "__name__" → mb x = bootBuiltins x) (hlim : s₁.heap.NoLimit) (hg : s₁.gens = #[])
    (hr : RoomG k callerA) (S : Scr P w K H s₁.heap a ns) (G : ∀ bs : Heap, K.In bs → bs.Ns mainGlobals mg → FnG P w K mg bs (L2.CX P w) k fa fd [x] sp) (hbind : ∀ (s : Shared) (u : Value), BindsTo s fd ⟨[u], []⟩ [(x, u)])
    (hsp : ∀ H' : Hp, SqL K H' a (ns.map V.int) → sp [.ref a] H' (fun v _ => v = .bl true) E0) :
    codeAny (model P w) callerA (.call (.ref fa) ⟨[.ref a], []⟩) (fun r s' => r = .ok (.ret (.bool true)) ∧ OldK s₁.heap s'.heap ∧ s'.os = s₁.os ∧ AllBare s'.gens) s₁ := by
  have kb := S.kin KX
  obtain ⟨mc, l1, l2⟩ := hlim
  have env : Env0 P w K mg (hidT s₁.heap H) callerA [] s₁ H := { frames := rfl, mod := ⟨kb, S.names hns, ⟨mb, S.names hb, hbb⟩, ⟨mc, S.names l1, l2⟩⟩, bs := fun _ _ z => of_hidT z, bsz := by rw [hidT_size]; exact Nat.le_refl _, funs := trivial, frf := fun b z => (List.not_mem_nil z).elim, hok := S.ok, bare := .of_eq hg }
  have go := (G _ kb (S.names hns)).run callerA [] s₁ H ⟨[.ref a], []⟩ [.ref a] [.ref a] (fun v _ => v = .bl true) E0 hr env (hbind s₁ (.ref a)) (.cons rfl .nil) (hsp H S.sq)
  refine codeAny_mono go fun r s' end' => ?_
  match r, end' with
  | .error _, ⟨_, _, _, _, _, _, _, _, _, _, _, _, z⟩ => exact z.elim
  | .ok .next, z => exact z.elim
  | .ok .brk, z => exact z.elim
  | .ok .cont, z => exact z.elim
  | .ok (.ret u), ⟨v, H', os, bare, un, ok', rv, ev⟩ =>
    have ev' : v = .bl true := ev
    subst ev'
    have eu : u = Value.bool true := rv
    subst eu
    refine ⟨rfl, .of_keep fun b o z => ?_, os, bare⟩
    cases q : H b with
    | none => exact un.keep b o z q (fun m => (List.not_mem_nil m).elim) (by simp)
    | some u =>
      obtain ⟨_, o', its, n, eu, d', e'⟩ := S.few b u q
      subst eu
      have z' := (ok' b _ (un.frzs b o' _ q)).1
      rw [e'] at z; cases z
      exact z'
end
/-- the goal that the head leaves, from the law's promise -/
theorem walk_G {l : PySem.W.OpenLaw} {k : Nat} {q : Program} {loose : List Str} {XP : (Str → Option Value) → Heap → Prop} {YP : World → Heap → Prop} {d : DefRec} {K : Params → Fg} {sp : Fg → Sp} {x : Str}
    (hn : l.most = some 63) (hdf : d.params.defaults = []) (hr : RoomG k callerA) (hY : ∀ (w : World) (h : Heap), YP w h → (K w.params).In h)
    (G : ∀ (w : World) (mg : Str → Option Value) (fa : Addr) (h : Heap), (K w.params).In h → h.Ns mainGlobals mg → mg d.name = some (.ref fa) →
      ∃ fd : FuncData, (∀ (s : Shared) (u : Value), BindsTo s fd ⟨[u], []⟩ [(x, u)]) ∧ ∀ bs : Heap, (K w.params).In bs → bs.Ns mainGlobals mg → FnG l.prog w (K w.params) mg bs (L2.CX l.prog w) k fa fd [x] (sp (K w.params)))
    (hsp : ∀ (K' : Fg) (H : Hp) (a : Addr) (ns : List Int), ns.length ≤ 63 → SqL K' H a (ns.map V.int) → sp K' [.ref a] H (fun v _ => v = .bl true) E0) :
    PySem.W.WalkO q loose XP YP l.row.toRowW d [] (fun f vs => PySem.call f vs) :=
  Att.attach_call hn hdf fun w s₀ s₁ mg mb fa o pm cd doc a vs ns Gr Y ho hd hcd hmg hobj hints hlen hg => by
    have KX := hY w _ Y
    obtain ⟨fd, hb, hF⟩ := G w mg fa _ KX Gr.T.g hmg
    obtain ⟨H, S⟩ := scr_make (P := l.prog) (w := w) KX hobj hints (Nat.le_trans hlen (by decide))
    exact law_G KX Gr.T.g Gr.T.b Gr.T.builtins Gr.T.nolimit hg hr S hF hb fun H' hS => hsp _ H' a ns hlen hS
end SF

/-! SL18: promises of the box and of law; what a test over data says in law's own body. -/
namespace SF
open PySem PySem.Spec PyProof.Rows L2
def spBox (K : Fg) : Sp := fun vs H Q _ => ∃ (a : Addr) (ns : List Int) (k : Int), vs = [.ref a, .int k] ∧ SqL K H a (ns.map V.int) ∧ 0 ≤ k ∧ k ≤ 1000 ∧ ∀ p H', H p = none → Same H H' → BoxAt H' p 1099511627776 → Q (.ref p) H'
def spLaw (K : Fg) : Sp := fun vs H Q _ => ∃ (a : Addr) (ns : List Int), vs = [.ref a] ∧ SqL K H a (ns.map V.int) ∧ ns.length ≤ 63 ∧ ∀ H', Q (.bl true) H'
/-- right(box): True, with at most 2^30 draws -/
def sp_right : DSp := fun args n Q _ => args = [.box] ∧ 1073741824 ≤ n ∧ ∀ n', n ≤ n' + 1073741824 → Q (.d (.bool true)) n'
def exT (K : Fg) (tt : DTT) : TT := fun σ H Q => ∃ F : Fx, liftT K F tt σ H Q
theorem pt_ex {X : Cx} {e : Expr} {tt : DTT} (h : ∀ F : Fx, DT X F e tt) : PT X e (exT X.K tt) := ⟨fun pins s σ H Q I ⟨F, q⟩ => (h F).run pins s σ H Q I q⟩
def exE (K : Fg) (te : DTE) : TE := fun σ H Q => ∃ F : Fx, lift K F te σ H Q
theorem pe_ex {X : Cx} {e : Expr} {te : DTE} (h : ∀ F : Fx, DE X F e te) : PE X e (exE X.K te) := ⟨fun pins s σ H Q I ⟨F, q⟩ => (h F).run pins s σ H Q I q⟩
/-- a box at p, in the slot i alone -/
theorem rep_box {K : Fg} {H : Hp} {p : Addr} {n : Nat} {σ : St} {ds : DS} {i : Nat} (hb : BoxAt H p n) (hn : ds.n = n) (hl : ds.sl.length = σ.length) (hi : σ[i]? = some (some (.ref p))) (hd : ds.sl[i]? = some (some .box))
    (ho : ∀ (j : Nat) (dv : DV), j ≠ i → ds.sl[j]? = some (some dv) → ∃ v, σ[j]? = some (some v) ∧ ∃ x, dv = .d x ∧ flat x = true ∧ Rp K H [p] v x) : Rep K ⟨H, [p], [p]⟩ H [p] σ ds := by
  obtain ⟨xs, ex⟩ := hb.some
  subst hn
  have mo : ∀ (j : Nat) (q : Addr), MutAt σ ds j q → j = i ∧ q = p := fun j q ⟨h1, dv, h2, h3⟩ => by
    by_cases c : j = i
    · subst c
      rw [hi] at h1; cases h1
      exact ⟨rfl, rfl⟩
    · obtain ⟨v, ev, x, e, _⟩ := ho j dv c h2
      subst e
      exact h3.elim
  have bo : ∀ (j : Nat) (q : Addr), BoxS σ ds j q → j = i ∧ q = p := fun j q ⟨h1, h2⟩ => mo j q ⟨h1, .box, h2, trivial⟩
  refine { lo := fun q hq => ?_, sub := fun q hq => hq, ext := fun a o h _ => h, sl := fun j dv h => ?_, mu := fun j j' q h h' => by rw [(mo j q h).1, (mo j' q h').1], new := fun j q h => .inr (by rw [(mo j q h).2]; simp), newO := fun j q xs h1 h2 => ?_, bx := fun q hq => by rw [List.mem_singleton.mp hq]; exact hb, bu := fun j q h q' hq' => by rw [(bo j q h).2]; exact List.mem_singleton.mp hq', b1 := fun j j' q q' h h' => by rw [(bo j q h).1, (bo j' q' h').1], fo := fun q hq => ?_, bo := fun q hq => hq, len := hl }
  · rw [List.mem_singleton.mp hq]; exact ⟨xs, ex⟩
  · by_cases c : j = i
    · subst c
      rw [hd] at h; cases h
      exact ⟨_, hi, p, rfl, by simp, hb⟩
    · obtain ⟨v, ev, x, e, _, r⟩ := ho j dv c h
      subst e
      exact ⟨v, ev, r⟩
  · have m := mo j q ⟨h1, _, h2, trivial⟩
    rw [m.1, hd] at h2
    cases h2
  · have e : q = p := List.mem_singleton.mp hq
    subst e
    show H q ≠ none
    rw [ex]; simp
theorem rp_int {K : Fg} {H : Hp} {O : List Addr} {k : Int} : Rp K H O (.int k) (.int k) := .int k
/-- what a test of law's body does, over the heap: it keeps all but the box -/
theorem exT_use {K : Fg} {tt : DTT} {σ : St} {H : Hp} {Q : Bool → Hp → Prop} {p : Addr} {ds : DS} {i : Nat} {Qa : Bool → DS → Prop} (R : Rep K ⟨H, [p], [p]⟩ H [p] σ ds) (ht : tt ds Qa) (hi : ∀ j q, MutAt σ ds j q → q = p)
    (hq : ∀ b ds' H', (∀ a o, H a = some o → a ≠ p → H' a = some o) → Qa b ds' → Q b H') : exT K tt σ H Q :=
  ⟨_, [p], ds, Qa, R, ht, fun b ds' H' O' s R' q => hq b ds' H' (fun a o h n => s.kp a o h fun j m => n (hi j a m)) q⟩
theorem same_but {H0 H1 H2 : Hp} {p : Addr} (h0 : H0 p = none) (h : Same H0 H1) (h' : ∀ a o, H1 a = some o → a ≠ p → H2 a = some o) : Same H0 H2 := fun a o e => h' a o (h a o e) (by intro z; subst z; rw [h0] at e; cases e)
def blkB (N : List Str) (up : List (Str × NameKind)) (scope : Scope) (own : List (Str × Nat)) : Bool :=
  (match scope.kind with | .function => true | _ => false) && scope.names.all (fun y => scope.names.lookup y.1 == some y.2) && own.all (fun p => N[p.2]? == some p.1) &&
  scope.names.all (fun y => match y.2 with | .free => up.lookup y.1 == some .cell || up.lookup y.1 == some .free | .local => own.any (fun p => p.1 == y.1) || !N.any (fun z => z == y.1) | .cell => own.any (fun p => p.1 == y.1) || !N.any (fun z => z == y.1) | _ => true)
theorem blk_of {N : List Str} {sc scope : Scope} {own : List (Str × Nat)} (h : blkB N sc.names scope own = true) : BlkOk N sc scope own := by
  unfold blkB at h
  simp only [Bool.and_eq_true, List.all_eq_true] at h
  obtain ⟨⟨⟨h1, h2⟩, h3⟩, h4⟩ := h
  have fin : ∀ y : Str × NameKind, (own.any (fun p => p.1 == y.1) || !N.any (fun z => z == y.1)) = true → y.1 ∈ own.map (·.1) ∨ y.1 ∉ N := fun y h => by
    rw [Bool.or_eq_true] at h
    rcases h with h | h
    · obtain ⟨p, hp, ep⟩ := List.any_eq_true.mp h
      exact .inl (List.mem_map.mpr ⟨p, hp, by simpa using ep⟩)
    · refine .inr fun hm => ?_
      have : N.any (fun z => z == y.1) = true := List.any_eq_true.mpr ⟨y.1, hm, by simp⟩
      rw [this] at h; cases h
  refine ⟨?_, fun y hy => by simpa using h2 y hy, fun p hp => by simpa using h3 p hp, fun y hy e => ?_, fun y hy e => ?_⟩
  · revert h1; cases scope.kind <;> simp
  · have := h4 y hy
    rw [e] at this
    simpa using this
  · have := h4 y hy
    rcases e with e | e <;> rw [e] at this <;> exact fin y this
theorem bit0 (b : Bool) : (0 : Int) ≤ (if b = true then 1 else 0) := by cases b <;> decide
theorem bit64 (b : Bool) : -(2 ^ 64) < (if b = true then (1 : Int) else 0) ∧ (if b = true then (1 : Int) else 0) < 2 ^ 64 := by cases b <;> decide
theorem abs_ge (c : Int) : 0 ≤ (if c < 0 then -c else c) := by split <;> omega
theorem at_int {ns : List Int} {k : Int} (h0 : 0 ≤ k) (h : k < (ns.length : Int)) : ∃ v : Int, atI (ns.map V.int) k = some (.int v) := by
  have hk : k.toNat < ns.length := by omega
  have ek : k = ((k.toNat : Nat) : Int) := by omega
  have q : atI (ns.map V.int) ((k.toNat : Nat) : Int) = some (.int ns[k.toNat]) := atI_nat (by rw [List.getElem?_map, List.getElem?_eq_getElem hk]; rfl)
  rw [← ek] at q
  exact ⟨_, q⟩
end SF

/-! SL19: law read: every box is right as often as it is asked. -/
namespace SF
open PySem PySem.Spec PyProof.Rows L2
theorem bools_true : ∀ i : Nat, boolsD (List.replicate i (.bool true)) = some (List.replicate i true)
  | 0 => rfl
  | i + 1 => by rw [List.replicate_succ, boolsD, bools_true i]; rfl
theorem all_true : ∀ i : Nat, (List.replicate i true).all id = true
  | 0 => rfl
  | i + 1 => by rw [List.replicate_succ, List.all_cons, all_true i]; rfl
def tAllRight (m : Int) : DTT := dNot (dTr (dCB fAll (dCons (dLc (dRng1 (dCons (dC (.int m)) dNil)) (gdName 3) dYes (dCall sp_right (fun as => as) (dCons (dVar 2) dNil)) [3]) dNil)))
theorem all_right {m k : Int} (h0 : 0 ≤ m) (h : m ≤ 1000) : tAllRight m ⟨[none, some (.d (.int k)), some .box, none], 1099511627776⟩ (fun b _ => b = false) := by
  refine lc_in (its := rangeD 0 m.toNat) (ds1 := ⟨[none, some (.d (.int k)), some .box, none], 1099511627776⟩) (fun K hK => ⟨by omega, by omega, hK⟩) rfl (fun i acc ds => acc = List.replicate i (.bool true) ∧ ∃ n, ds = ⟨[none, some (.d (.int k)), some .box, none], n⟩ ∧ 1099511627776 ≤ n + i * 1073741824) ⟨rfl, _, rfl, by show 1099511627776 ≤ 1099511627776 + 0 * 1073741824; decide⟩ ?_ ?_
  · rintro i d acc ds2 hi ⟨rfl, n, rfl, hn⟩
    have hi' : i < m.toNat := by
      have := List.getElem?_eq_some_iff.mp hi
      obtain ⟨q, _⟩ := this
      rw [rangeD_len] at q
      exact q
    refine ⟨rfl, by show 1073741824 ≤ n; omega, fun n' hn' => ?_⟩
    have hn2 : n ≤ n' + 1073741824 := hn'
    exact ⟨by rw [List.replicate_succ'], n', rfl, by omega⟩
  · rintro acc ds2 ⟨rfl, n, rfl, hn⟩
    show someD (boolsD _) _
    rw [rangeD_len, bools_true]
    show (!((List.replicate m.toNat true).all id)) = false
    rw [all_true]; rfl
def tLaw (K : Fg) (c : Int) (tt : DTT) : TS :=
  tSeq (tFor (iRng1 (tCons (tAdd (tC (.int 1)) (tCB (fun xs H Q => ∃ i j, xs = [V.int i, V.int j] ∧ Q (V.int (if j < i then j else i)) H) (tCons (tC (.int c)) (tCons (tCB (fun xs H Q => ∃ p ys, xs = [V.ref p] ∧ (SqL K H p ys ∨ SqT K H p ys) ∧ Q (V.int ys.length) H) (tCons (tVar 0) tNil)) tNil)))) tNil)) (gName 1)
    (tSeq (tAsg (tCall (spBox K) [] E0 (tCons (tVar 0) (tCons (tVar 1) tNil))) (gName 2)) (tIfS (exT K tt) (tRet (tC (.bl false))) tNext)))
  (tRet (tC (.bl true)))
theorem law_read {K : Fg} {c : Int} {tt : DTT} {a : Addr} {ns : List Int} {H : Hp} {Q : VK} (c0 : 0 ≤ c) (c1 : c ≤ 100) (sq : SqL K H a (ns.map V.int)) (q : ∀ H', Q (.bl true) H')
    (ht : ∀ k : Int, tt ⟨[none, some (.d (.int k)), some .box, none], 1099511627776⟩ (fun b _ => b = false)) : tLaw K c tt { nx := fun _ H' => Q .non H', rt := Q } [some (.ref a), none, none, none] H := by
  refine ⟨_, rfl, a, _, rfl, .inl sq, _, _, rfl, _, _, rfl, rfl, _, rfl, by omega, by split <;> omega, ?_⟩
  have hm : (1 + if (((ns.map V.int).length : Nat) : Int) < c then (((ns.map V.int).length : Nat) : Int) else c).toNat ≤ 1000 := by split <;> omega
  generalize (1 + if (((ns.map V.int).length : Nat) : Int) < c then (((ns.map V.int).length : Nat) : Int) else c).toNat = m at hm ⊢
  refine ⟨fun i m' σ H' => m' = 2000 - i ∧ Same H H' ∧ ∃ u v, σ = [some (.ref a), u, v, none], ⟨2000, by omega, fun _ _ z => z, none, none, rfl⟩, ?_⟩
  rintro i m' σ H1 ⟨rfl, s1, u, v, rfl⟩
  by_cases hi : m ≤ i
  · exact .inl ⟨hi, q _⟩
  · refine .inr ⟨(by omega : i < m), fun σ H' => Same H H' ∧ ∃ u v, σ = [some (.ref a), u, v, none], fun σ' H' ⟨h1, h2⟩ => ⟨2000 - (i + 1), by omega, rfl, h1, h2⟩, ?_⟩
    rintro x H2 ⟨rfl, rfl⟩
    refine ⟨_, rfl, _, rfl, a, ns, _, rfl, s1.seq sq, by omega, by omega, fun p H3 hp s3 bx => ?_⟩
    refine exT_use (p := p) (i := 2) (ds := ⟨[none, some (.d (.int (0 + (i : Nat)))), some .box, none], 1099511627776⟩) (Qa := fun b _ => b = false) (rep_box (i := 2) bx rfl rfl rfl rfl ?_) (ht _) ?_ ?_
    · intro j dv hj e
      rcases j with _ | _ | _ | _ | j
      · simp at e
      · cases e; exact ⟨_, rfl, _, rfl, rfl, .int _⟩
      · exact absurd rfl hj
      · simp at e
      · simp at e
    · rintro j r ⟨e1, dv, e2, e3⟩
      rcases j with _ | _ | _ | _ | j
      · simp at e2
      · simp at e2; subst e2; exact e3.elim
      · exact (V.ref.inj (Option.some.inj (Option.some.inj e1))).symm
      · simp at e2
      · simp at e2
    · intro b ds' H4 kp hb
      subst hb
      exact ⟨same_but (H0 := H) (p := p) (by
        cases z : H p with
        | none => rfl
        | some o => rw [s1 p o z] at hp; cases hp) (s1.trans s3) kp, _, _, rfl⟩
end SF

/-! SL20: the built-in names; calls by names. -/
namespace SF
open PySem PySem.Spec PyProof.Rows L2
structure Bi (mg : Str → Option Value) : Prop where
  b_abs : mg "abs" = none
  b_all : mg "all" = none
  b_any : mg "any" = none
  b_bool : mg "bool" = none
  b_enumerate : mg "enumerate" = none
  b_int : mg "int" = none
  b_isinstance : mg "isinstance" = none
  b_len : mg "len" = none
  b_list : mg "list" = none
  b_max : mg "max" = none
  b_min : mg "min" = none
  b_range : mg "range" = none
  b_repr : mg "repr" = none
  b_set : mg "set" = none
  b_sorted : mg "sorted" = none
  b_str : mg "str" = none
  b_sum : mg "sum" = none
  b_tuple : mg "tuple" = none
  b_zip : mg "zip" = none
theorem pick1 {ix : List Nat} {n : Nat} {ws : List Value} (hl : (pick 1 ix ws).length = n) (hn : 0 < n := by decide) : ∃ u0, ws = [u0] := by
  unfold pick at hl
  split at hl
  · match ws with
    | [u0] => exact ⟨u0, rfl⟩
  · simp at hl; omega
theorem pick2 {ix : List Nat} {n : Nat} {ws : List Value} (hl : (pick 2 ix ws).length = n) (hn : 0 < n := by decide) : ∃ u0 u1, ws = [u0, u1] := by
  unfold pick at hl
  split at hl
  · match ws with
    | [u0, u1] => exact ⟨u0, u1, rfl⟩
  · simp at hl; omega
theorem pick3 {ix : List Nat} {n : Nat} {ws : List Value} (hl : (pick 3 ix ws).length = n) (hn : 0 < n := by decide) : ∃ u0 u1 u2, ws = [u0, u1, u2] := by
  unfold pick at hl
  split at hl
  · match ws with
    | [u0, u1, u2] => exact ⟨u0, u1, u2, rfl⟩
  · simp at hl; omega
theorem pick4 {ix : List Nat} {n : Nat} {ws : List Value} (hl : (pick 4 ix ws).length = n) (hn : 0 < n := by decide) : ∃ u0 u1 u2 u3, ws = [u0, u1, u2, u3] := by
  unfold pick at hl
  split at hl
  · match ws with
    | [u0, u1, u2, u3] => exact ⟨u0, u1, u2, u3, rfl⟩
  · simp at hl; omega
theorem pick5 {ix : List Nat} {n : Nat} {ws : List Value} (hl : (pick 5 ix ws).length = n) (hn : 0 < n := by decide) : ∃ u0 u1 u2 u3 u4, ws = [u0, u1, u2, u3, u4] := by
  unfold pick at hl
  split at hl
  · match ws with
    | [u0, u1, u2, u3, u4] => exact ⟨u0, u1, u2, u3, u4, rfl⟩
  · simp at hl; omega
theorem pick6 {ix : List Nat} {n : Nat} {ws : List Value} (hl : (pick 6 ix ws).length = n) (hn : 0 < n := by decide) : ∃ u0 u1 u2 u3 u4 u5, ws = [u0, u1, u2, u3, u4, u5] := by
  unfold pick at hl
  split at hl
  · match ws with
    | [u0, u1, u2, u3, u4, u5] => exact ⟨u0, u1, u2, u3, u4, u5, rfl⟩
  · simp at hl; omega
end SF

/-! SL21: xs[::-1] of lists and tuples. -/
namespace SF
open PySem PySem.Spec PyProof.Rows L2
section
variable {prog : Program} {w : World} {A : Around} {E : Value → Shared → Prop} {s : Shared}
theorem back_adjust (n : Nat) : Builtin.Slice.sliceAdjust none none (-1) (n : Int) = ((n : Int) - 1, -1) := by
  unfold Builtin.Slice.sliceAdjust
  first
    | rfl
    | simp
theorem back_places (n : Nat) : Builtin.Slice.slicePlaces ((n : Int) - 1) (-1) (-1) = n := by
  unfold Builtin.Slice.slicePlaces
  cases n with
  | zero => rfl
  | succ n =>
    simp
    try omega
theorem back_pick (ys : Array Value) : ((List.range ys.size).filterMap fun (k : Nat) => ys[(((ys.size : Int) - 1) + (k : Int) * (-1)).toNat]?).toArray = ys.toList.reverse.toArray := by
  have e : (List.range ys.size).filterMap (fun (k : Nat) => ys[(((ys.size : Int) - 1) + (k : Int) * (-1)).toNat]?) = ((List.range ys.size).map fun k => ys.size - 1 - k).filterMap (ys[·]?) := by
    rw [List.filterMap_map]
    refine congrArg (fun f => List.filterMap f _) (funext fun k => ?_)
    show _ = ys[ys.size - 1 - k]?
    rw [show (((ys.size : Int) - 1) + (k : Int) * (-1)).toNat = ys.size - 1 - k by omega]
  rw [e, PySem.W.krv_range, List.filterMap_reverse, PySem.W.krv_all]
theorem tup_back {t c : Addr} {ys : Array Value} {v1 v2 v3 : Value} {Q : Value → Shared → Prop} (ht : IsTup s.heap t ys) (hc : s.heap.IsSliceOf c v1 v2 v3) (h1 : IsPart v1 none) (h2 : IsPart v2 none) (h3 : IsPart v3 (some (-1))) (hz : ys.size ≤ sizeLine)
    (q : Q (.ref s.heap.objs.size) { s with heap := s.heap.push { cls := .type "tuple", data := .seq ys.toList.reverse.toArray } }) : wpAny (model prog w) A (getItem (.ref t) (.ref c)) Q E s := by
  obtain ⟨so, g1, g2, g3⟩ := id hc
  have ty : s.TypeIs (.ref c) "slice" := ⟨so, g1, g2⟩
  have fits : sizeOk (.seq ys.toList.reverse.toArray) := by
    show (ys.toList.reverse.toArray).size ≤ sizeLine
    simpa using hz
  have app : ∀ (A' : Around) (E' : Value → Shared → Prop), wpAny (model prog w) A' (Builtin.Slice.sliceApplied (.ref c) (pure (ys.size : Int))) (fun r s' => r = ((ys.size : Int) - 1, -1, ys.size) ∧ s' = s) E' s := by
    intro A' E'
    unfold Builtin.Slice.sliceApplied Builtin.Slice.sliceFields
    refine wpAny_bind (wpAny_bind (wpAny_field g1 g3 (x := v1) rfl (wpAny_bind (wpAny_field g1 g3 (x := v2) rfl (wpAny_bind (wpAny_field g1 g3 (x := v3) rfl (wpAny_pure ?_)))))))
    refine wpAny_bind (HT.slicePart_ h3 ?_)
    show wpAny _ _ (if ((-1 : Int) == 0) = true then _ else _) _ _ s
    rw [if_neg (by decide)]
    refine wpAny_bind (HT.slicePart_ h1 (wpAny_bind (HT.slicePart_ h2 (wpAny_bind (wpAny_pure ?_)))))
    show wpAny _ _ (match Builtin.Slice.sliceAdjust none none (-1) (ys.size : Int) with | (lo, hi) => pure (lo, (-1 : Int), Builtin.Slice.slicePlaces lo hi (-1))) _ _ s
    rw [back_adjust]
    show wpAny _ _ (pure ((ys.size : Int) - 1, (-1 : Int), Builtin.Slice.slicePlaces ((ys.size : Int) - 1) (-1) (-1))) _ _ s
    rw [back_places]
    exact wpAny_pure ⟨rfl, rfl⟩
  unfold getItem
  try with_reducible refine wpAny_holding ?_
  first | refine wpAny_bind (wpAny_pure ?_) | skip
  refine wpAny_bind (wpAny_sequenceKey ht.typeIs (by decide) ?_)
  refine wpAny_bind (wpAny_callSpecial?_slot (name := "__getitem__") ht.typeIs PyProof.Rows.slot_tuple_getitem (wpAny_call_entry PyProof.Rows.slot_tuple_getitem ht.typeIs entry_tuple_getitem ?_ (args_tuple_getitem _ _)))
  show wpAny _ _ (Builtin.Tuple.tupleItemsOf (.ref t) >>= _) _ _ s
  refine wpAny_bind (tupleItemsOf_ ht (wpAny_bind (wpAny_typeOf ty ?_)))
  rw [if_pos (by decide)]
  refine wpAny_bind (wpAny_mono (app _ _) (fun r s' hr => ?_) fun _ _ z => z)
  obtain ⟨rfl, rfl⟩ := hr
  show wpAny _ _ (if (((ys.size : Int) - 1) == 0 && (-1 : Int) == 1 && ys.size == ys.size) = true then _ else _) _ _ s'
  rw [if_neg (by simp), back_pick]
  first
    | exact wpAny_bind (m := Builtin.Tuple.tupleExact _) (wpAny_newObj_type (wpAny_pure ⟨_, rfl, wpAny_pure q⟩) fits)
    | exact wpAny_bind (m := Builtin.Tuple.tupleExact _) (wpAny_newObj_type (wpAny_bind (wpAny_pure (wpAny_pure ⟨_, rfl, wpAny_pure q⟩))) fits)
    | exact wpAny_bind (wpAny_bind (m := Builtin.Tuple.tupleExact _) (wpAny_newObj_type (wpAny_pure (wpAny_pure ⟨_, rfl, wpAny_pure q⟩)) fits))
    | exact wpAny_bind (wpAny_bind (m := Builtin.Tuple.tupleExact _) (wpAny_newObj_type (wpAny_pure ⟨_, rfl, wpAny_pure q⟩) fits))
end
section
variable {X : Cx} {F : Fx} {e : Expr} {te : TE} {ta : DTE}
def tRevS (K : Fg) (te : TE) : TE := fun σ H Q => te σ H fun x H1 => ∃ a xs, x = .ref a ∧ ((SqL K H1 a xs ∧ ∀ p, H1 p = none → Q (.ref p) (upd H1 p (.lst xs.reverse))) ∨ (SqT K H1 a xs ∧ ∀ p o, H1 p = none → o.dict = none → Q (.ref p) (upd H1 p (.frz o (.tup xs.reverse)))))
theorem pe_revS {k : Nat} {p1 p2 p3 pos : Pos} (he : PE X e te) : PE X (.Subscript e (.Slice none none (some (.UnaryOp .USub (.Constant (.int 1) k p1) p2)) p3) pos) (tRevS X.K te) := by
  constructor
  intro pins s σ H Q I h
  refine Subscript_ (thn (he.run pins s σ H _ I h) ?_)
  rintro u s1 ⟨x, H1, I1, rx, a, xs, rfl, q⟩
  obtain rfl : u = .ref a := rx
  have step : PO X (some (.UnaryOp .USub (.Constant (.int 1) k p1) p2)) (tPart (tUn (rU fun i => .int (-i)) (tC (.int 1)))) := po_some (pe_un un_neg pe_int)
  refine wpAny_Slice (thn (po_none.run pins s1 σ H1 (fun o H2 => o = none ∧ H2 = H1) I1 ⟨rfl, rfl⟩) ?_)
  rintro v1 s2 ⟨o1, H2, I2, w1, rfl, rfl⟩
  refine thn (po_none.run pins s2 σ H2 (fun o H3 => o = none ∧ H3 = H2) I2 ⟨rfl, rfl⟩) ?_
  rintro v2 s3 ⟨o2, H3, I3, w2, rfl, rfl⟩
  refine thn (step.run pins s3 σ H3 (fun o H4 => o = some (-1) ∧ H4 = H3) I3 ⟨1, rfl, -1, rfl, rfl, rfl⟩) ?_
  rintro v3 s4 ⟨o3, H4, I4, w3, rfl, rfl⟩
  have J : Inv X pins σ H4 { s4 with heap := s4.heap.push { cls := .type "slice", data := .fields #[v1, v2, v3] } } := I4.kept (t' := s4.toks) fun b ob z => Heap.get?_push_of_some _ z
  show wpAny (model X.prog X.w) X.A (subscriptTail e (.Slice none none (some (.UnaryOp .USub (.Constant (.int 1) k p1) p2)) p3) (.ref a) (.ref s4.heap.objs.size)) (EP X pins σ Q) X.xe { s4 with heap := s4.heap.push { cls := .type "slice", data := .fields #[v1, v2, v3] } }
  rcases q with ⟨hs, q⟩ | ⟨hs, q⟩
  · obtain ⟨its, r, ht, hz⟩ := J.list hs
    have hn := r.length
    refine tail_any (ops := [.ref a, .ref s4.heap.objs.size]) ht.isList.typeIs (PySem.slot_list_getitem.lookup) ?_ (by with_unfolding_all rfl)
    refine wpAny_getItem_list_slice ht.isList (Heap.IsSliceOf.new _ v1 v2 v3) w1 w2 w3 (by decide) ?_ (by rw [List.size_toArray]; omega)
    rw [PySem.W.krv_pick]
    exact ⟨.ref _, _, J.laid (t' := s4.toks) (o := .lst xs.reverse) (fun b ob z => Heap.get?_push_of_some _ z) (Nat.le_refl _) ⟨by rw [List.length_reverse]; exact hz, _, 0, r.reverse, Heap.get?_push_size _ rfl⟩, rfl, q _ (J.hok.fresh (Nat.le_refl _))⟩
  · obtain ⟨its, r, ht, hz⟩ := J.tuple hs
    have hn := r.length
    refine tail_any (ops := [.ref a, .ref s4.heap.objs.size]) ht.typeIs (PyProof.Rows.slot_tuple_getitem.lookup) ?_ (by with_unfolding_all rfl)
    refine tup_back ht (Heap.IsSliceOf.new _ v1 v2 v3) w1 w2 w3 (by rw [List.size_toArray]; omega) ?_
    have g := Heap.get?_push_size (s4.heap.push { cls := .type "slice", data := .fields #[v1, v2, v3] }) (o := { cls := .type "tuple", data := .seq its.toArray.toList.reverse.toArray }) rfl
    exact ⟨.ref _, _, J.laid (t' := s4.toks) (o := .frz { cls := .type "tuple", data := .seq its.toArray.toList.reverse.toArray } (.tup xs.reverse)) (fun b ob z => Heap.get?_push_of_some _ z) (Nat.le_refl _) ⟨g, by rw [List.length_reverse]; exact hz, _, r.reverse, _, g, rfl, _, rfl⟩, rfl, q _ _ (J.hok.fresh (Nat.le_refl _)) rfl⟩
def fRev : F1 := fun d Q => match d with
  | .list xs => Q (.own xs.reverse)
  | .tuple xs => Q (.d (.tuple xs.reverse))
  | _ => False
theorem de_rev {k : Nat} {p1 p2 p3 pos : Pos} (he : DE X F e ta) : DE X F (.Subscript e (.Slice none none (some (.UnaryOp .USub (.Constant (.int 1) k p1) p2)) p3) pos) (dOp1 fRev ta) :=
  PE_imp (pe_revS he) fun σ H Q ⟨O, ds, Qa, R, ht, hq⟩ => ⟨O, ds, _, R, ht, fun x ds1 v H1 O1 s1 R1 rx hx => by
    have c := mkCont R s1 R1 hq
    split at hx
    · rename_i d e1
      have w := RpV.vw R1 rx e1
      unfold fRev at hx
      split at hx
      · obtain ⟨p, vs, e2, h1, r1⟩ := w.list
        subst e2
        exact ⟨p, vs, rfl, .inl ⟨.inl (.inl h1), fun q hq2 => c.lst _ _ _ hq2 r1.reverse hx⟩⟩
      · obtain ⟨p, vs, e2, h1, r1⟩ := w.tuple
        subst e2
        exact ⟨p, vs, rfl, .inr ⟨h1, fun q o hq' ho => c.tup _ _ _ _ hq' ho r1.reverse hx⟩⟩
      · exact hx.elim
    · exact hx.elim⟩
end
end SF

/-! SL22: xs[a:c] = ys, the upper end cut at the length. -/
namespace SF
open PySem PySem.Spec PyProof.Rows L2
section
variable {prog : Program} {w : World} {A : Around} {E : Value → Shared → Prop} {s : Shared}
theorem bounds_cut {a c n : Nat} (h : a ≤ n) : sliceBounds (some (a : Int)) (some (c : Int)) none n = ((a : Int), ((min c n : Nat) : Int), 1) := by
  unfold sliceBounds
  simp
  omega
theorem put_slice {l b j : Addr} {old new : Array Value} {k1 k2 : Nat} {v1 v2 : Value} {a c : Nat} {Q : Unit → Shared → Prop} (g : s.heap.get? l = some { cls := .type "list", data := .seq old k1 }) (g' : s.heap.get? b = some { cls := .type "list", data := .seq new k2 }) (ne : l ≠ b)
    (hj : s.heap.IsSliceOf j v1 v2 .none) (h1 : IsPart v1 (some (a : Int))) (h2 : IsPart v2 (some (c : Int))) (ha : a ≤ old.size) (hac : a ≤ c) (hz : old.size + new.size ≤ sizeLine)
    (q : Q () { s with heap := s.heap.update l (Obj.mapSeq fun xs => xs.extract 0 a ++ new ++ xs.extract (min c old.size) xs.size) }) : wpAny (model prog w) A (setItem (.ref l) (.ref j) (.ref b)) Q E s := by
  have tl : s.heap.IsList l old := PySem.IsL.isList g
  have tb : s.heap.IsList b new := PySem.IsL.isList g'
  obtain ⟨so, g1, g2, g3⟩ := id hj
  have ty : s.TypeIs (.ref j) "slice" := ⟨so, g1, g2⟩
  have no0 : ¬ ((rawPart none == rawInt 0) = true) := Bool.false_ne_true
  have two : Builtin.List.listSameRef (.ref l) (.ref b) = false := by unfold Builtin.List.listSameRef; exact beq_eq_false_iff_ne.mpr ne
  have mx : (max (a : Int) ((min c old.size : Nat) : Int)).toNat = min c old.size := by omega
  have fit : ((fun xs : Array Value => xs.extract 0 a ++ new ++ xs.extract (min c old.size) xs.size) old).size ≤ sizeLine + 1 := by simp only [Array.size_append, Array.size_extract]; omega
  unfold setItem; try with_reducible refine wpAny_holding ?_
  first | refine wpAny_bind (wpAny_pure ?_) | skip
  refine wpAny_bind (wpAny_sequenceKey tl.typeIs (by decide) (wpAny_bind (wpAny_callSpecial?_slot (name := "__setitem__") tl.typeIs slot_list_setitem (wpAny_call_entry slot_list_setitem tl.typeIs entry_list_setitem ?_ (args_list_setitem _ _ _)))))
  show wpAny _ _ (Builtin.List.listSubscript? (.ref j) >>= _) _ _ s
  refine wpAny_bind ?_; unfold Builtin.List.listSubscript?; refine wpAny_bind (wpAny_specialOf ty slice_no_index ?_)
  simp only [Option.isNone_none, if_true]; refine wpAny_pure ?_
  show wpAny _ _ (typeOf (.ref j) >>= _) _ _ s
  refine wpAny_bind (wpAny_typeOf ty ?_); rw [if_neg (by decide)]; rw [listSliceParts_eq]
  refine wpAny_bind (wpAny_bind (wpAny_field g1 g3 (x := .none) rfl (wpAny_bind (wpAny_listPart .none ?_)))); rw [if_neg no0]
  refine wpAny_bind (wpAny_field g1 g3 (x := v1) rfl (wpAny_bind (wpAny_listPart h1 (wpAny_bind (wpAny_field g1 g3 (x := v2) rfl (wpAny_bind (wpAny_listPart h2 (wpAny_pure ?_))))))))
  simp only [two, Bool.false_eq_true, if_false]; refine wpAny_bind (m := Builtin.List.listAllItems (.ref b) "must assign iterable to extended slice") ?_
  unfold Builtin.List.listAllItems; refine wpAny_bind (wpAny_typeOf tb.typeIs ?_)
  first
    | (refine PySem.W.KFB.if_so (by decide) ?_; skip)
    | (rw [if_pos (by decide)]; skip)
  unfold Builtin.List.listItems; refine wpAny_bind (wpAny_seqItems g' rfl (wpAny_pure (wpAny_bind (wpAny_bind (wpAny_seqItems g rfl (wpAny_pure ?_))))))
  refine wpAny_bind (wpAny_of_eq ((sliceIndices_raw (some (a : Int)) (some (c : Int)) none old.size (by simp)).trans (congrArg (pure : Int × Int × Int → Sem (Int × Int × Int)) (bounds_cut ha))) ?_)
  show wpAny _ _ (if ((1 : Int) == 1) = true then _ else _) _ _ s; rw [if_pos (by decide)]
  refine wpAny_bind (wpAny_rule ?_); simp only [notLongL hz, Bool.false_eq_true, if_false]
  first | refine wpAny_bind (wpAny_pure ?_) | skip
  show wpAny _ _ (updateSeq l (fun xs => xs.extract 0 ((a : Int)).toNat ++ new ++ xs.extract (max (a : Int) ((min c old.size : Nat) : Int)).toNat xs.size) >>= _) _ _ s
  rw [mx, Int.toNat_natCast]
  refine wpAny_bind (wpAny_updateSeq (hz := Nat.le_trans (Nat.le_add_right _ _) hz) (_hz' := fit) g rfl (wpAny_bind (wpAny_letGo ?_)))
  first
    | exact wpAny_bind (wpAny_pure (wpAny_pure ⟨Value.none, rfl, wpAny_pure q⟩))
    | exact wpAny_pure ⟨Value.none, rfl, wpAny_pure q⟩
end
section
variable {X : Cx} {F : Fx} {o e : Expr} {pos p2 : Pos} {lo hi : Option Expr} {to te : TE} {tl tu : TO}
def gCut (to : TE) (tl tu : TO) : TG := fun v σ H Q => to σ H fun x H1 => tl σ H1 fun y H2 => tu σ H2 fun z H3 => ∃ (l b : Addr) (xs ys : List V) (a c : Nat), x = .ref l ∧ v = .ref b ∧ y = some (a : Int) ∧ z = some (c : Int) ∧ H3 l = some (.lst xs) ∧ H3 b = some (.lst ys) ∧ l ≠ b ∧ a ≤ xs.length ∧ a ≤ c ∧ xs.length + ys.length ≤ sizeLine ∧ Q σ (upd H3 l (.lst (xs.take a ++ ys ++ xs.drop c)))
theorem pg_cut (ho : PE X o to) (hl : PO X lo tl) (hu : PO X hi tu)
    (ha : ∀ v, assign (.Subscript o (.Slice lo hi none p2) pos) X.env v = (do
      let t ← holding [v] (eval o X.env)
      let j ← holding [v, t] (eval (.Slice lo hi none p2) X.env)
      standAt pos
      holding [v, t, j] (setItem t j v)
      release [j, v, t] []) := by intro _; rfl) : PG X (.Subscript o (.Slice lo hi none p2) pos) (gCut to tl tu) := by
  constructor
  intro pins s σ H v u Q I r h
  rw [ha]
  refine wpAny_bind (wpAny_holding (thn (ho.run pins s σ H _ I h) ?_))
  rintro t s1 ⟨x, H1, I1, r1, q1⟩
  refine wpAny_bind (wpAny_holding (wpAny_Slice (thn (hl.run pins s1 σ H1 _ I1 q1) ?_)))
  rintro v1 s2 ⟨y, H2, I2, w1, q2⟩
  refine thn (hu.run pins s2 σ H2 _ I2 q2) ?_
  rintro v2 s3 ⟨z, H3, I3, w2, l, b, xs, ys, a, c, rfl, rfl, rfl, rfl, hH, hB, ne, h1, h2, hz, q⟩
  rw [evalPart_none]
  refine wpAny_pure ?_
  obtain rfl : t = .ref l := r1
  obtain rfl : u = .ref b := r
  have J : Inv X pins σ H3 { s3 with heap := s3.heap.push { cls := .type "slice", data := .fields #[v1, v2, .none] } } := I3.kept (t' := s3.toks) fun b ob z => Heap.get?_push_of_some _ z
  refine wpAny_bind (wpAny_standAt (wpAny_bind (wpAny_holding ?_)))
  obtain ⟨z1, its, n1, rl, hl1, e1⟩ := J.lstM hH
  obtain ⟨z2, its2, n2, rl2, hl2, e2⟩ := J.lstM hB
  refine put_slice (a := a) (c := c) e1 e2 ne (Heap.IsSliceOf.new _ v1 v2 .none) w1 w2 (by rw [List.size_toArray]; omega) h2 (by rw [List.size_toArray, List.size_toArray]; omega) ?_
  refine wpAny_release ⟨σ, _, J.lset (its' := its.take a ++ its2 ++ its.drop c) (t' := s3.toks) hH e1 ?_ (Vals.append (Vals.append (rl.take _) rl2) (rl.drop _)) ?_, q⟩
  · rw [splice_eq its its2 a (min c its.toArray.size)]
    rw [List.size_toArray]
    by_cases hc : c ≤ its.length
    · rw [Nat.min_eq_left hc]
    · rw [Nat.min_eq_right (by omega), List.drop_of_length_le (Nat.le_refl _), List.drop_of_length_le (by omega)]
  · rw [List.length_append, List.length_append, List.length_take, List.length_drop]
    omega
end
end SF
namespace SF
open PySem PySem.Spec PyProof.Rows L2
section
variable {X : Cx} {F : Fx} {o e : Expr} {pos p2 apos : Pos} {lo hi : Expr} {te tl tu : DTE}
/-- x[a:c] = e, x a name in slot k, e a list made there -/
def dSetSl (k : Nat) (tl tu te : DTE) : DTS := fun E ds => te ds fun y ds1 => match y, ds1.sl[k]? with
  | .own ys, some (some (.own _)) => (dP tl) ds1 fun i ds2 => (dP tu) ds2 fun j ds3 => match i, j, ds3.sl[k]? with
    | some a, some c, some (some (.own xs)) => 0 ≤ a ∧ a ≤ xs.length ∧ a ≤ c ∧ xs.length + ys.length ≤ 16777216 ∧ E.nx ⟨ds3.sl.set k (some (.own (xs.take a.toNat ++ ys ++ xs.drop c.toNat))), ds3.n⟩
    | _, _, _ => False
  | _, _ => False
theorem ds_setSl {k : Nat} (ho : PE X o (tVar k)) (hl : DE X F lo tl) (hu : DE X F hi tu) (he : DE X F e te)
    (hs : swapsWithSole [.Subscript o (.Slice (some lo) (some hi) none p2) apos] e pos.line X.env = pure false := by rfl) (hw : swappedStores [.Subscript o (.Slice (some lo) (some hi) none p2) apos] e X.env = pure none := by rfl)
    (h1 : (assignEach [.Subscript o (.Slice (some lo) (some hi) none p2) apos] X.env).map (·.2) = [assign (.Subscript o (.Slice (some lo) (some hi) none p2) apos) X.env] := by rfl)
    (ha : ∀ v, assign (.Subscript o (.Slice (some lo) (some hi) none p2) apos) X.env v = (do
      let t ← holding [v] (eval o X.env)
      let j ← holding [v, t] (eval (.Slice (some lo) (some hi) none p2) X.env)
      standAt apos
      holding [v, t, j] (setItem t j v)
      release [j, v, t] []) := by intro _; rfl) :
    DSt X F (.Assign [.Subscript o (.Slice (some lo) (some hi) none p2) apos] e pos) (dSetSl k tl tu te) :=
  PS_imp (ps_asg he (pg_cut ho (do_some hl) (do_some hu) ha) hs hw h1) fun D σ H ⟨O, ds, E, R, ht, kk⟩ => ⟨O, ds, _, R, ht, fun y ds1 v H1 O1 s1 R1 ry hy => by
    split at hy
    · rename_i ys xs0 e0
      obtain ⟨p, zs, ev, pO1, pO, pF, pH, pL⟩ := ry
      subst ev
      obtain ⟨w, ew, q, vs0, e2, hO, hH, hL⟩ := R1.sl k _ e0
      subst e2
      refine ⟨_, ew, O1, ds1, _, R1, hy, fun i ds2 H2 O2 s2 R2 hi2 => ⟨O2, ds2, _, R2, hi2, fun j ds3 H3 O3 s3 R3 hj => ?_⟩⟩
      have t23 := s2.trans s3
      split at hj
      · rename_i a c xs ek
        obtain ⟨a0, al, ac, sz, nx⟩ := hj
        obtain ⟨w', ew', q', vs, e3, hO3, hH3, hL3⟩ := R3.sl k _ ek
        subst e3
        rw [ew] at ew'
        cases ew'
        have nm : ∀ i, ¬ MutAt σ ds1 i p := fun i m => pO (s1.mutO R p ⟨i, m⟩)
        have ry3 : RpV X.K F H3 O O3 σ ds3 (.ref p) (.own ys) := RpV.step R1 (s1.mutO R) ⟨p, zs, rfl, pO1, pO, pF, pH, pL⟩ t23
        obtain ⟨p', zs', ep, qO1, qO, qF, qH, qL⟩ := ry3
        cases ep
        have qm : MutAt σ ds3 k q := ⟨ew, _, ek, trivial⟩
        have ne : q ≠ p := fun z => qO (z ▸ (s1.trans t23).mutO R q ⟨k, qm⟩)
        obtain ⟨a', rfl⟩ := Int.eq_ofNat_of_zero_le a0
        obtain ⟨c', rfl⟩ := Int.eq_ofNat_of_zero_le (Int.le_trans a0 ac)
        have rl : RpL X.K H3 O3 (vs.take a' ++ zs' ++ vs.drop c') (xs.take a' ++ ys ++ xs.drop c') := ((hL3.take _).append qL).append (hL3.drop _)
        obtain ⟨R4, s4⟩ := R3.updO ew ek rl
        refine ⟨q, p, vs, zs', a', c', rfl, rfl, rfl, rfl, hH3, qH, ne, by rw [hL3.length]; omega, by omega, by rw [hL3.length, qL.length, sizeLine_eq]; exact sz, ?_⟩
        have nx' : E.nx ⟨ds3.sl.set k (some (.own (xs.take a' ++ ys ++ xs.drop c'))), ds3.n⟩ := by simpa using nx
        exact kk.nx O3 _ σ _ (((s1.trans t23).trans s4).hs R) R4 nx'
      · exact hj.elim
    · exact hy.elim⟩
end
end SF

/-! SL23: sorted(set(xs)), xs a list of ints. -/
namespace SF
open PySem PySem.Spec PyProof.Rows L2
/-- a set as it is made -/
abbrev set0 (w : World) : Obj := { cls := .type "set", dict := none, data := .set #[] 0 (.fresh 0 0 (!w.params.followText "set-order")) }
section
variable {P : Program} {w : World} {A : Around} {E : Value → Shared → Prop} {s : Shared}
theorem set_of_list {l : Addr} {ys : Array Value} (ns : List Int) {Q : Value → Shared → Prop} (hd : A.handled = none) (tl : s.heap.IsList l ys) (hi : IntsAre ys.toList ns) (room : ns.length + 1 < scanBound)
    (q : ∀ (hp : Heap) (tk c : Nat), SetR w hp s.heap.objs.size (fun j => decide (j ∈ ns)) c → c ≤ ns.length → (∀ b o, s.heap.get? b = some o → hp.get? b = some o) → Q (.ref s.heap.objs.size) { s with heap := hp, toks := tk }) :
    wpAny (model P w) A (call (.type "set") [.ref l]) Q E s := by
  have sz : ys.size = ns.length := by have := IntsAre.length hi; rwa [Array.length_toList] at this
  obtain ⟨c0, r0, f1⟩ := F.called_set.mro; have f2 := F.called_set.made; have f3 := F.called_set.sub
  refine wpAny_call (codeAny_of_tree (show wpAny _ _ (callAny (.type "set") _) _ _ _ from wpAny_pure ⟨Code.quiet_builtin _ (by decide +kernel), codeAny_builtin F.entry_type_call ?_⟩))
  rw [Around.under_plain (weight_type_call_type "set" [.ref l] []) rfl]
  have f4 := F.called_set.notType; have f5 := F.called_set.canCreate; have f6 := F.typeCall_set_1 (.ref l)
  repeat (any_goals (first | assumption | wp_step))
  refine codeAny_mono (code_set_led1 (.ref l) (E := E) (Q₁ := fun obj s1 => obj = .ref s.heap.objs.size ∧ s1 = { s with heap := s.heap.push (set0 w) }) ⟨rfl, rfl⟩) fun r s1 hr => ?_
  match r, hr with
  | .error _, z => exact z
  | .ok .next, z => exact z.elim
  | .ok .brk, z => exact z.elim
  | .ok .cont, z => exact z.elim
  | .ok (.ret obj), hr =>
    obtain ⟨rfl, rfl⟩ := hr
    have at0 : (s.heap.push (set0 w)).get? s.heap.objs.size = some (set0 w) := Heap.get?_push_size _ rfl
    have ty : Shared.TypeIs { s with heap := s.heap.push (set0 w) } (.ref s.heap.objs.size) "set" := ⟨_, at0, rfl⟩
    have f7 := F.called_set.init.lookup; have f8 := F.called_set.init.bind (.ref s.heap.objs.size)
    repeat (any_goals (first | assumption | wp_step))
    refine codeAny_mono (codeAny_call_builtin (R := wants (fun r s2 => r = .none ∧ ∃ hp tk c, s2 = { s with heap := hp, toks := tk } ∧ SetR w hp s.heap.objs.size (fun j => decide (j ∈ ns)) c ∧ c ≤ ns.length ∧ ∀ b o, s.heap.get? b = some o → hp.get? b = some o) E) F.called_set.init.plain F.entry_set_init (check_set_init_1 ty ?_)) fun r2 s2 hr2 => ?_
    · obtain ⟨ob, g1, g2, k1, g3⟩ := tl
      obtain ⟨ocls, odict, odata, oslots⟩ := ob
      simp only at g2 g3
      subst g2 g3
      have g1' : (s.heap.push (set0 w)).get? l = some { cls := .type "list", dict := odict, data := .seq ys k1, slots := oslots } := Heap.get?_push_of_some _ g1
      have f9 := F.sub_list_set; have f10 := F.sub_list_frozenset
      have nd : (Value.type "list" == Value.type "dict") = false := by decide
      have tl1 : (s.heap.push (set0 w)).IsList l ys := ⟨_, g1', rfl, k1, rfl⟩
      unfold Builtin.«set.__init__» noKeywords Builtin.Frozenset.updateFrom; generalize ePI : pyIter = PI; wp_walk; subst ePI
      refine wpAny_pyIter_list tl1 (wpAny_bind (wpAny_runValue ?_))
      have lS : l < s.heap.objs.size := Heap.lt_size g1
      have hd3 : A.in1.in1.in1.handled = none := by simp [hd]
      have nI : l ≠ (s.heap.push (set0 w)).objs.size := by rw [Heap.size_push]; exact Nat.ne_of_lt (Nat.lt_succ_of_lt lS)
      have nS : s.heap.objs.size ∉ [(s.heap.push (set0 w)).objs.size, l] := by rw [Heap.size_push]; simp only [List.mem_cons, List.not_mem_nil, or_false, not_or]; exact ⟨Nat.ne_of_lt (Nat.lt_succ_self _), Nat.ne_of_gt lS⟩
      have val : ∀ (i : Nat) (v : Value), ys[i]? = some v → ∃ k t, ns[i]? = some k ∧ v = .int k t := fun i v hv => by
        have li : i < ns.length := by rw [← sz]; exact (Array.getElem?_eq_some_iff.mp hv).1
        obtain ⟨t, e⟩ := IntsAre.int_at hi i v (by rw [Array.getElem?_toList]; exact hv)
        exact ⟨ns[i], t, List.getElem?_eq_getElem li, by rw [e, List.getD_eq_getElem?_getD, List.getElem?_eq_getElem li] <;> rfl⟩
      refine set_update_ints ((Walks.list hd3 _ l nI ys).toS) s.heap.objs.size nS ns sz room val (ys.size - 0) 0 _ (by omega) (Nat.zero_le _) ⟨⟨_, Heap.get?_push_size _ rfl, rfl, rfl⟩, (tl1.push _)⟩ ⟨0, Nat.le_refl 0, setR_new_at (Heap.get?_push_of_some _ at0)⟩ ?_
      intro s3 c3 mv hc3 hS3
      obtain ⟨hp, g2, d2, tk, os2⟩ := s3
      have eg : g2 = s.gens := mv.gens
      have ed : d2 = s.drawn := mv.drawn
      have eo : os2 = s.os := mv.os
      subst eg ed eo
      show wpAny _ _ _ _ _ _
      refine wpAny_pure (show wpAny _ _ (ret Value.none) _ _ _ from wpAny_pure ⟨rfl, hp, tk, c3, rfl, hS3, by rw [← sz]; exact hc3, fun b o e => ?_⟩)
      have b0 : b < s.heap.objs.size := Heap.lt_size e
      exact mv.heap b o (by rw [Heap.size_push]; simp only [List.mem_cons, List.not_mem_nil, or_false, not_or]; exact ⟨Nat.ne_of_lt b0, Nat.ne_of_lt (Nat.lt_succ_of_lt b0)⟩) (Heap.get?_push_of_some _ (Heap.get?_push_of_some _ e))
    · match r2, hr2 with
      | .error _, z => exact z
      | .ok .next, z => exact z.elim
      | .ok .brk, z => exact z.elim
      | .ok .cont, z => exact z.elim
      | .ok (.ret r), ⟨er, hp, tk, c, es, hS, hc, kp⟩ =>
        subst er es
        repeat (any_goals (first | assumption | wp_step))
        exact q _ _ _ hS hc kp
end
section
variable {X : Cx} {F : Fx} {a : Expr} {ta : TE} {tA : DTA} {p p2 q pos : Pos}
def rSetList (K : Fg) (w : World) : List V → Hp → VK → Prop := fun vs H Q => ∃ (l : Addr) (ns : List Int), vs = [.ref l] ∧ SqL K H l (ns.map V.int) ∧ ns.length < 64 ∧ ∀ (r : Addr) (c : Nat), H r = none → c ≤ ns.length → Q (.ref r) (upd H r (SetO w r (fun j => decide (j ∈ ns)) c))
theorem cr_setList (hc : X.calm = true) : CallR X (.type "set") (rSetList X.K X.w) := by
  intro pins s σ H vs us Q I r h
  obtain ⟨l, ns, rfl, hq, h64, k⟩ := h
  obtain ⟨u, eu, ru⟩ := vals1 r
  subst eu
  obtain rfl : u = .ref l := ru
  obtain ⟨its, rv, pl, hz⟩ := I.list hq
  refine set_of_list ns (I.ok.hd hc) pl.isList (by simpa using rv.ints) (by unfold scanBound; omega) fun hp tk c hS hc' kp => ?_
  have fr : H s.heap.objs.size = none := I.fresh
  refine ⟨.ref _, _, ?_, rfl, k _ c fr hc'⟩
  exact I.laid (t' := tk) (o := SetO X.w s.heap.objs.size (fun j => decide (j ∈ ns)) c) kp (Nat.le_refl _) (setO_new hS)
def fSortSet : FN := fun ds Q => match ds with
  | [.list xs] => someD (intsD xs) fun ns => ns.length < 64 ∧ ∀ ms : List Int, ms.Pairwise (· < ·) → (∀ k, k ∈ ms ↔ k ∈ ns) → ms.length ≤ ns.length → Q (.own (ms.map PyData.int))
  | _ => False
theorem de_ss (hg : Gl X "sorted") (hm : X.mg "sorted" = none) (hg2 : Gl X "set") (hm2 : X.mg "set" = none) (ha : DA X F [a] tA) (hc : X.calm = true := by rfl)
    (hs : starEach [.Call (.Name "set" p2) [a] [] q] X.env = (false, eval (.Call (.Name "set" p2) [a] [] q) X.env) :: starEach [] X.env := by rfl) (hpl : (backTo pos (starEach [] X.env)).any (·.1) = false := by rfl)
    (hs2 : starEach [a] X.env = (false, eval a X.env) :: starEach [] X.env := by rfl) (hpl2 : (backTo q (starEach [] X.env)).any (·.1) = false := by rfl) :
    DE X F (.Call (.Name "sorted" p) [.Call (.Name "set" p2) [a] [] q] [] pos) (dCB fSortSet tA) :=
  PE_imp (pe_callB (cr_sortedSet hc) hg hm (by decide +kernel) (pa_cons (pe_callTy (cr_setList hc) hg2 hm2 (by decide +kernel) ha (by decide) (by decide) hs2 hpl2) pa_nil hs) (by decide) (by decide) hs hpl) fun σ H Q ⟨O, ds, Qa, R, ht, hq⟩ => ⟨O, ds, _, R, ht, fun xs ds1 vs H1 O1 s1 R1 rx hx => by
    split at hx
    · rename_i dd e1
      have w := RpVs.vw R1 rx.1 e1
      unfold fSortSet at hx
      split at hx
      · rename_i ys
        cases e : intsD ys with
        | none => rw [e] at hx; exact hx.elim
        | some ns =>
          rw [e] at hx
          obtain ⟨h64, hx⟩ := hx
          obtain ⟨v, ev, w⟩ := vw1 w
          obtain ⟨l, us, e2, h1, r1⟩ := w.list
          subst ev e2
          rw [intsD_ok e] at r1
          have er := r1.ints
          subst er
          refine ⟨l, ns, rfl, .inl (.inl h1), h64, fun r c hr hcl => ?_⟩
          have sm := same_new (o := SetO X.w r (fun j => decide (j ∈ ns)) c) hr
          have R2 := R1.grow sm grow_refl (fun _ h => h) (lo_same R1.lo sm)
          have s2 : Step σ H1 O1 ds1 _ O1 ds1 := Step.grow sm grow_refl fun _ h => h
          refine ⟨r, _, c, rfl, upd_same, by omega, fun ms p' hp hmem hlen hn => ?_⟩
          exact (mkCont R (s1.trans s2) R2 hq).lst p' _ _ hn rpl_ints (hx ms hp (fun k => by rw [hmem k]; simp) (by omega))
      · exact hx.elim
    · exact hx.elim⟩
end
end SF

/-! SL24: pick(box, xs) where xs is a list of one's own that is changed later on: the item is handed out, the list stays one's own. -/
namespace SF
open PySem PySem.Spec PyProof.Rows L2
def itsX : D → Option (List D)
  | .list xs => some xs
  | _ => none
def spPick (K : Fg) : Sp := fun vs H Q _ => ∃ (b l : Addr) (xs : List V) (n : Nat), vs = [.ref b, .ref l] ∧ BoxAt H b n ∧ (SqL K H l xs ∨ SqT K H l xs) ∧ l ≠ b ∧ 0 < xs.length ∧ xs.length ≤ 100000 ∧ 3 ≤ n ∧ ∀ v ∈ xs, ∀ H', Keep [b] H H' → BoxAt H' b (n - 3) → Q v H'
/-- the def, by what it does at the heap -/
structure PrH (P : Program) (w : World) (K : Fg) (mg : Str → Option Value) (base : Heap) (k : Nat) (x : Str) (st : Stmt) (ps : List Str) (sp : Sp) : Prop where
  ex : ∃ f fd, FnG P w K mg base (L2.CX P w) k f fd ps sp ∧ Fun K x x st f fd ∧ mg x = some (.ref f) ∧ Binds K fd ps []
theorem PrH.mono {P : Program} {w : World} {K : Fg} {mg : Str → Option Value} {base : Heap} {k j : Nat} {x : Str} {st : Stmt} {ps : List Str} {sp : Sp} (h : PrH P w K mg base k x st ps sp) (hj : k ≤ j) : PrH P w K mg base j x st ps sp := by
  obtain ⟨f, fd, G, r⟩ := h.ex
  exact ⟨f, fd, G.mono hj, r⟩
section
variable {X : Cx} {F : Fx} {k : Nat} {x : Str} {st : Stmt} {ps : List Str} {p pos : Pos} {e0 e1 : Expr} {te : DTE}
def dPick (i : Nat) (te : DTE) : DTE := fun ds Q => match ds.sl[i]? with
  | some (some .box) => te ds fun y ds1 => match ds1.sl[i]?, (peek ds1 y).bind itsX with
    | some (some .box), some xs => 0 < xs.length ∧ xs.length ≤ 100000 ∧ 3 ≤ ds1.n ∧ ∀ z ∈ xs, Q (.d z) ⟨ds1.sl, ds1.n - 3⟩
    | _, _ => False
  | _ => False
theorem de_pick {i : Nat} (I : PrH X.prog X.w X.K X.mg X.base k x st ps (spPick X.K)) (hr : RoomG k X.A) (hg : Gl X x) (h0 : PE X e0 (tVar i)) (h1 : DE X F e1 te) (hdb : (x == ("__debug__" : Str)) = false := by decide)
    (hs : starEach [e0, e1] X.env = (false, eval e0 X.env) :: starEach [e1] X.env := by rfl) (hs1 : starEach [e1] X.env = (false, eval e1 X.env) :: starEach [] X.env := by rfl) (hpl : (backTo pos (starEach [e1] X.env)).any (·.1) = false := by rfl) :
    DE X F (.Call (.Name x p) [e0, e1] [] pos) (dPick i te) := by
  obtain ⟨f, fd, G, Fu, g, bn⟩ := I.ex
  refine PE_imp (pe_callG G hr hg g Fu.kp bn .nil passX (pa_cons h0 (pa_cons h1 pa_nil hs1) hs) hdb hs hpl) fun σ H Q ⟨O, ds, Qa, R, ht, hq⟩ => ?_
  unfold dPick at ht
  split at ht
  · rename_i eb0
    obtain ⟨vb, ev, b, eb, hbO, hbx⟩ := R.sl i _ eb0
    subst eb
    refine ⟨_, ev, O, ds, _, R, ht, fun y ds1 v H1 O1 s1 R1 ry hy => ?_⟩
    split at hy
    · rename_i xs eb1 ei
      obtain ⟨vb', ev', b', eb', hbO', hbx'⟩ := R1.sl i _ eb1
      subst eb'
      rw [ev] at ev'
      cases ev'
      obtain ⟨x0, x1, x3, hz⟩ := hy
      have nodeB : ∀ l vs, (SqL X.K H1 l vs ∨ SqT X.K H1 l vs) → RpL X.K H1 O1 vs xs → v = .ref l → l ≠ b → spPick X.K ([.ref b, v] ++ []) H1 Q E0 := by
        intro l vs sq rl el ne
        subst el
        refine ⟨b, l, vs, ds1.n, rfl, hbx', sq, ne, by rw [rl.length]; exact x0, by rw [rl.length]; exact x1, x3, fun u hu H' kp bx => ?_⟩
        obtain ⟨m, hm⟩ := List.mem_iff_getElem?.mp hu
        have ml : m < xs.length := by rw [← rl.length]; exact (List.getElem?_eq_some_iff.mp hm).1
        obtain ⟨u', eu', ru⟩ := rl.get (List.getElem?_eq_getElem ml)
        rw [hm] at eu'
        cases eu'
        obtain ⟨R2, s2⟩ := R1.called (n' := ds1.n - 3) kp (fun c hc => by rw [List.mem_singleton.mp hc]; exact ⟨bx, i, ev, eb1⟩) (fun z => by cases z) O1 grow_refl (fun _ h => h) (fun q h1 h2 => absurd h1 h2)
        have ru' : Rp X.K H' O1 u xs[m] := Rp.mv R1.lo (s2.keepO R1) s2.o1 ru
        exact hq (.d xs[m]) _ u H' O1 (s1.trans s2) R2 ru' (hz _ (List.getElem_mem ml))
      have data : ∀ zs, Rp X.K H1 O1 v (.list zs) → zs = xs → spPick X.K ([.ref b, v] ++ []) H1 Q E0 := by
        intro zs hz' ez
        subst ez
        cases hz' with
        | lst h1' l1 => exact nodeB _ _ (.inl (.inl (.inl h1'.1))) l1 rfl fun z => h1'.2 (z ▸ hbO')
      cases y with
      | exc xa xb => exact ry.elim
      | d z =>
        have e2 : itsX z = some xs := ei
        cases z with
        | list zs => cases e2; exact data _ ry rfl
        | _ => cases e2
      | own zs =>
        have e2 : some zs = some xs := ei
        cases e2
        obtain ⟨l, vs, el, pO1, pO, pF, pH, pL⟩ := ry
        exact nodeB l vs (.inl (.inl (.inl pH))) pL el fun z => pO (z ▸ hbO)
      | box => exact ry.elim
      | slot m =>
        obtain ⟨c1, dv, c2⟩ := ry
        simp only [peek] at ei
        rw [c2] at ei
        obtain ⟨v', ev2, rs⟩ := R1.sl m _ c2
        rw [c1] at ev2
        cases ev2
        cases dv with
        | exc xa xb => cases ei
        | d z =>
          have e2 : itsX z = some xs := ei
          cases z with
          | list zs => cases e2; exact data _ rs rfl
          | _ => cases e2
        | own zs =>
          have e2 : some zs = some xs := ei
          cases e2
          obtain ⟨l, vs, el, pO, pH, pL⟩ := rs
          subst el
          refine nodeB l vs (.inl (.inl (.inl pH))) pL rfl fun z => ?_
          subst z
          have := R1.mu m i l ⟨c1, _, c2, trivial⟩ ⟨ev, _, eb1, trivial⟩
          subst this
          rw [eb1] at c2
          cases c2
        | box => cases ei
        | slot q => exact rs.elim
    · exact hy.elim
  · exact ht.elim
end
end SF

/-! SL25: x is True, tuple * int, tuple(range(..)), list(range(..)). -/
namespace SF
open PySem PySem.Spec PyProof.Rows L2
section
variable {X : Cx} {F : Fx} {e a b : Expr} {ta tb : DTE} {tA : DTA} {p p2 q pos : Pos}
theorem op_isB : OpR X (compareOp .Is) (fun x y H Q => ∃ i j, x = .bl i ∧ y = .bl j ∧ Q (.bl (i == j)) H) := by
  intro pins s σ H x y v u Q I rx ry h
  obtain ⟨i, j, rfl, rfl, k⟩ := h
  cases rx
  cases ry
  refine wpAny_is_plain rfl (fin_bl I k ?_)
  cases i <;> cases j <;> rfl
theorem op_notB : OpR X (compareOp .IsNot) (fun x y H Q => ∃ i j, x = .bl i ∧ y = .bl j ∧ Q (.bl (!(i == j))) H) := by
  intro pins s σ H x y v u Q I rx ry h
  obtain ⟨i, j, rfl, rfl, k⟩ := h
  cases rx
  cases ry
  refine wpAny_isNot_plain rfl (fin_bl I k ?_)
  cases i <;> cases j <;> rfl
def fIsB : F2 := fun d e Q => match d, e with
  | .bool i, .bool j => Q (.d (.bool (i == j)))
  | _, _ => False
def fNotB : F2 := fun d e Q => match d, e with
  | .bool i, .bool j => Q (.d (.bool (!(i == j))))
  | _, _ => False
theorem cd_isB : CmpD X .Is fIsB := ⟨_, op_isB, by
  intro H O x y d e Qa Q lo wx wy hf k
  unfold fIsB at hf
  split at hf
  · exact ⟨_, _, wx.bool, wy.bool, k.d _ _ (.bl _) hf⟩
  · exact hf.elim⟩
theorem cd_notB : CmpD X .IsNot fNotB := ⟨_, op_notB, by
  intro H O x y d e Qa Q lo wx wy hf k
  unfold fNotB at hf
  split at hf
  · exact ⟨_, _, wx.bool, wy.bool, k.d _ _ (.bl _) hf⟩
  · exact hf.elim⟩
/-! tuple * int -/
def rMulT (K : Fg) : R2 := fun x y H Q => ∃ l k xs, x = .ref l ∧ y = .int k ∧ SqT K H l xs ∧ xs ≠ [] ∧ 2 ≤ k ∧ k ≤ 1000 ∧ xs.length ≤ 1000 ∧ ∀ p o, H p = none → o.dict = none → Q (.ref p) (upd H p (.frz o (.tup (List.replicate k.toNat xs).flatten)))
theorem op_mulT : OpR X (binaryOp .Mult) (rMulT X.K) := by
  intro pins s σ H x y v u Q I rx ry h
  obtain ⟨l, k, xs, rfl, rfl, sq, ne, k2, k3, hz, go⟩ := h
  cases rx
  obtain ⟨t, rfl⟩ := ry
  obtain ⟨its, r, ⟨⟨cls, dd, data, sl⟩, ho, hc, n, hd⟩, hs⟩ := I.tuple sq
  simp only at hc hd
  subst hc hd
  have le : its.length = xs.length := r.length.symm
  have full : its.toArray.isEmpty = false := by
    cases its with
    | nil => exact absurd (List.eq_nil_of_length_eq_zero le.symm) ne
    | cons _ _ => rfl
  have sz : its.toArray.size = xs.length := by rw [List.size_toArray, le]
  have few1 : k.toNat * xs.length ≤ 1000 * 1000 := Nat.mul_le_mul (by omega) hz
  have few2 : ((its.toArray.size : Nat) : Int) * k ≤ 1000000 := by
    rw [sz]
    have : ((xs.length : Nat) : Int) * k ≤ 1000 * k := Int.mul_le_mul_of_nonneg_right (by omega) (by omega)
    omega
  have fl : (List.replicate k.toNat its).flatten.length ≤ sizeLine := by rw [PyProof.Rows.lm_len_rep_flat, le, sizeLine_eq]; omega
  have c0 : (decide (k < -(2 ^ 63)) || decide (k ≥ 2 ^ 63)) = false := by rw [decide_eq_false (by omega), decide_eq_false (by omega)]; rfl
  have c1 : (its.toArray.isEmpty || k == 1) = false := by rw [full, Bool.false_or]; exact beq_eq_false_iff_ne.mpr (by omega)
  have c2 : (decide (k ≤ 0) || its.toArray.isEmpty) = false := by rw [full, Bool.or_false]; exact decide_eq_false (by omega)
  have c3 : Builtin.Tuple.tupleTooMany (((its.toArray.size : Nat) : Int) * k) = false := by unfold Builtin.Tuple.tupleTooMany; rw [sizeLine_eq]; exact decide_eq_false (by omega)
  refine wpAny_binaryOp_repeat_ref (T := "tuple") (U := "int") (by decide) ⟨_, ho, rfl⟩ (fun s' => typeIs_int s' k t) noFill_tuple_mul F.fills_int_mul F.slot_int_rmul repeat_tuple F.slot_int_index.lookup (call_meets F.slot_int_rmul (typeIs_int s k t) F.entry_int_rmul (F.args_int_rmul_2 _ _) (int_rmul_tuple k t l its.toArray n dd sl) ⟨ho, rfl, ⟨_, ho, rfl⟩, call_meets F.slot_tuple_mul ⟨_, ho, rfl⟩ F.entry_tuple_mul (F.args_tuple_mul_2 _ _) (tuple_mulW l its.toArray n dd sl k t c0 c1 c2 (by omega) c3 (by rw [size_rep, List.size_toArray]; exact fl)) ⟨ho, ?_⟩⟩)
  rw [size_rep]
  have g := Heap.get?_push_size s.heap (o := { cls := .type "tuple", data := .seq (List.replicate k.toNat its).flatten.toArray }) rfl
  exact ⟨.ref s.heap.objs.size, _, I.laid (t' := s.toks) (o := .frz { cls := .type "tuple", data := .seq (List.replicate k.toNat its).flatten.toArray } (.tup (List.replicate k.toNat xs).flatten)) (fun b ob z => Heap.get?_push_of_some _ z) (Nat.le_refl _) ⟨g, by rw [PyProof.Rows.lm_len_rep_flat, sizeLine_eq]; omega, _, r.rep k.toNat, _, g, rfl, _, rfl⟩, rfl, go _ _ I.fresh rfl⟩
def fMulT : F2 := fun d e Q => match d, e with
  | .tuple xs, .int k => (xs ≠ [] ∧ 2 ≤ k ∧ k ≤ 1000 ∧ xs.length ≤ 1000) ∧ Q (.d (.tuple (List.replicate k.toNat xs).flatten))
  | _, _ => False
theorem de_mulT (ha : DE X F a ta) (hb : DE X F b tb) : DE X F (.BinOp a .Mult b pos) (dOp2 fMulT ta tb) := de_op2 (pe_op op_mulT ha hb) (by
  intro H O x y d e Qa Q lo wx wy hf k
  unfold fMulT at hf
  split at hf
  · obtain ⟨l, vs, e1, h1, r1⟩ := wx.tuple
    obtain ⟨⟨n1, n2, n3, n4⟩, hf⟩ := hf
    exact ⟨l, _, vs, e1, wy.int, h1, fun z => n1 (by subst z; cases r1; rfl), n2, n3, by rw [r1.length]; exact n4, fun p o hp ho => k.tup p o _ _ hp ho (r1.rep _) hf⟩
  · exact hf.elim)
/-! list(range(a, b)), tuple(range(a, b)) -/
def rgD (i j : Int) : List D := rangeD i (j - i).toNat
theorem rp_rg {K : Fg} {H : Hp} {O : List Addr} {i j : Int} : RpL K H O (rgV i j) (rgD i j) := by
  unfold rgV rgD rangeD
  have : ∀ l : List Nat, RpL K H O (l.map fun k => V.int (i + (k : Nat))) (l.map fun k => PyData.int (i + (k : Nat))) := by
    intro l
    induction l with
    | nil => exact .nil
    | cons x l ih => exact .cons (.int _) ih
  exact this _
def rgOk (i j : Int) : Prop := -1000000000 ≤ i ∧ i ≤ 1000000000 ∧ -1000000000 ≤ j ∧ j ≤ 1000000000 ∧ j - i ≤ 16777216
theorem rgOk.ok {i j : Int} (h : rgOk i j) : RgOk i j := by
  obtain ⟨h1, h2, h3, h4, h5⟩ := h
  exact ⟨by omega, by omega, by omega, by omega, by omega⟩
def tTupRg' (te : L2.St → Hp → (Int → Int → Hp → Prop) → Prop) : TE := fun σ H Q => te σ H fun a b H1 => RgOk a b ∧ ∀ p o, H1 p = none → o.dict = none → Q (.ref p) (upd H1 p (.frz o (.tup (rgV a b))))
theorem pe_tupRg' {te : L2.St → Hp → (Int → Int → Hp → Prop) → Prop} (hc : X.calm = true) (hg : Gl X "tuple") (hm : X.mg "tuple" = none) (he : PRg X e te) (na : starEach [e] X.env = (false, eval e X.env) :: starEach [] X.env := by rfl) : PE X (.Call (.Name "tuple" p) [e] [] pos) (tTupRg' te) := by
  constructor
  intro pins s σ H Q I h
  refine Call_ (ld_blt I hg hm boot_tuple (PyProof.Rows.callWith_type1 (args_cons (thn (he pins s σ H _ I h) ?_) na) na))
  rintro x s1 ⟨r, i, j, t, u, v, H1, rfl, hr, I1, ⟨b1, b2, b3, b4, b5⟩, go⟩
  refine args_nil (call_tuple_range (n := (j - i).toNat) (I1.ok.hd hc) hr (small_one b1 b2 b3 b4) (rangeSize_nat i j) b5 fun hp tk acc hk hi => ?_)
  have I2 : Inv X pins σ H1 { s1 with heap := hp, toks := tk } := I1.kept hk
  have g := Heap.get?_push_size hp (o := { cls := .type "tuple", data := .seq acc }) rfl
  refine ⟨.ref hp.objs.size, _, I2.laid (t' := tk) (o := .frz { cls := .type "tuple", data := .seq acc } (.tup (rgV i j))) (fun c o z => Heap.get?_push_of_some _ z) (Nat.le_refl _) ⟨g, by rw [rgV_length, sizeLine_eq]; omega, acc.toList, vals_rg hi, _, by simpa using g, rfl, _, rfl⟩, rfl, go _ _ (I2.hok.fresh (Nat.le_refl _)) rfl⟩
def dRg2 (mk : List D → DV) (ta tb : DTE) : DTE := fun ds Q => ta ds fun x ds1 => tb ds1 fun y ds2 => match peek ds2 x, peek ds2 y with
  | some (.int i), some (.int j) => rgOk i j ∧ Q (mk (rgD i j)) ds2
  | _, _ => False
def dRg1 (mk : List D → DV) (ta : DTE) : DTE := fun ds Q => ta ds fun x ds1 => match peek ds1 x with
  | some (.int j) => rgOk 0 j ∧ Q (mk (rgD 0 j)) ds1
  | _ => False
abbrev mkL (xs : List D) : DV := .own xs
abbrev mkT (xs : List D) : DV := .d (.tuple xs)
theorem de_lrg1 (hg : Gl X "list") (hm : X.mg "list" = none) (hg2 : Gl X "range") (hm2 : X.mg "range" = none) (ha : DE X F a ta) (hc : X.calm = true := by rfl) (na : starEach [a] X.env = (false, eval a X.env) :: starEach [] X.env := by rfl)
    (nb : starEach [.Call (.Name "range" p2) [a] [] q] X.env = (false, eval (.Call (.Name "range" p2) [a] [] q) X.env) :: starEach [] X.env := by rfl) : DE X F (.Call (.Name "list" p) [.Call (.Name "range" p2) [a] [] q] [] pos) (dRg1 mkL ta) :=
  PE_imp (pe_listRg hc hg hm (prg_1 hg2 hm2 ha na) nb) fun σ H Q ⟨O, ds, Qa, R, ht, hq⟩ => ⟨O, ds, _, R, ht, fun x ds1 v H1 O1 s1 R1 rx hx => by
    split at hx
    · rename_i j e1
      exact ⟨j, (RpV.vw R1 rx e1).int, hx.1.ok, fun l hl => (mkCont R s1 R1 hq).lst l _ _ hl rp_rg hx.2⟩
    · exact hx.elim⟩
theorem de_trg1 (hg : Gl X "tuple") (hm : X.mg "tuple" = none) (hg2 : Gl X "range") (hm2 : X.mg "range" = none) (ha : DE X F a ta) (hc : X.calm = true := by rfl) (na : starEach [a] X.env = (false, eval a X.env) :: starEach [] X.env := by rfl)
    (nb : starEach [.Call (.Name "range" p2) [a] [] q] X.env = (false, eval (.Call (.Name "range" p2) [a] [] q) X.env) :: starEach [] X.env := by rfl) : DE X F (.Call (.Name "tuple" p) [.Call (.Name "range" p2) [a] [] q] [] pos) (dRg1 mkT ta) :=
  PE_imp (pe_tupRg' hc hg hm (prg_1 hg2 hm2 ha na) nb) fun σ H Q ⟨O, ds, Qa, R, ht, hq⟩ => ⟨O, ds, _, R, ht, fun x ds1 v H1 O1 s1 R1 rx hx => by
    split at hx
    · rename_i j e1
      exact ⟨j, (RpV.vw R1 rx e1).int, hx.1.ok, fun l o hl ho => (mkCont R s1 R1 hq).tup l o _ _ hl ho rp_rg hx.2⟩
    · exact hx.elim⟩
theorem rg2_lift {mk : List D → DV} {Q : VK} {σ : St} {H : Hp} {K : Fg} (hmk : mk = mkL ∨ mk = mkT) (h : lift K F (dRg2 mk ta tb) σ H Q) :
    (mk = mkL → tLstRg (tRg2 (lift K F ta) (lift K F tb)) σ H Q) ∧ (mk = mkT → tTupRg' (tRg2 (lift K F ta) (lift K F tb)) σ H Q) := by
  obtain ⟨O, ds, Qa, R, ht, hq⟩ := h
  constructor
  · intro e
    subst e
    exact ⟨O, ds, _, R, ht, fun x ds1 v H1 O1 s1 R1 rx hx => ⟨O1, ds1, _, R1, hx, fun y ds2 w H2 O2 s2 R2 ry hy => by
      have rx2 := RpV.step R1 (s1.mutO R) rx s2
      split at hy
      · rename_i i j e1 e2
        exact ⟨i, j, (RpV.vw R2 rx2 e1).int, (RpV.vw R2 ry e2).int, hy.1.ok, fun l hl => (mkCont R (s1.trans s2) R2 hq).lst l _ _ hl rp_rg hy.2⟩
      · exact hy.elim⟩⟩
  · intro e
    subst e
    exact ⟨O, ds, _, R, ht, fun x ds1 v H1 O1 s1 R1 rx hx => ⟨O1, ds1, _, R1, hx, fun y ds2 w H2 O2 s2 R2 ry hy => by
      have rx2 := RpV.step R1 (s1.mutO R) rx s2
      split at hy
      · rename_i i j e1 e2
        exact ⟨i, j, (RpV.vw R2 rx2 e1).int, (RpV.vw R2 ry e2).int, hy.1.ok, fun l o hl ho => (mkCont R (s1.trans s2) R2 hq).tup l o _ _ hl ho rp_rg hy.2⟩
      · exact hy.elim⟩⟩
theorem de_lrg2 (hg : Gl X "list") (hm : X.mg "list" = none) (hg2 : Gl X "range") (hm2 : X.mg "range" = none) (ha : DE X F a ta) (hb : DE X F b tb) (hc : X.calm = true := by rfl) (na : starEach [a, b] X.env = (false, eval a X.env) :: starEach [b] X.env := by rfl) (nb : starEach [b] X.env = (false, eval b X.env) :: starEach [] X.env := by rfl)
    (hp : (backTo q (starEach [b] X.env)).any (·.1) = false := by rfl) (nc : starEach [.Call (.Name "range" p2) [a, b] [] q] X.env = (false, eval (.Call (.Name "range" p2) [a, b] [] q) X.env) :: starEach [] X.env := by rfl) : DE X F (.Call (.Name "list" p) [.Call (.Name "range" p2) [a, b] [] q] [] pos) (dRg2 mkL ta tb) :=
  PE_imp (pe_listRg hc hg hm (prg_2 hg2 hm2 ha hb na nb hp) nc) fun σ H Q h => (rg2_lift (.inl rfl) h).1 rfl
theorem de_trg2 (hg : Gl X "tuple") (hm : X.mg "tuple" = none) (hg2 : Gl X "range") (hm2 : X.mg "range" = none) (ha : DE X F a ta) (hb : DE X F b tb) (hc : X.calm = true := by rfl) (na : starEach [a, b] X.env = (false, eval a X.env) :: starEach [b] X.env := by rfl) (nb : starEach [b] X.env = (false, eval b X.env) :: starEach [] X.env := by rfl)
    (hp : (backTo q (starEach [b] X.env)).any (·.1) = false := by rfl) (nc : starEach [.Call (.Name "range" p2) [a, b] [] q] X.env = (false, eval (.Call (.Name "range" p2) [a, b] [] q) X.env) :: starEach [] X.env := by rfl) : DE X F (.Call (.Name "tuple" p) [.Call (.Name "range" p2) [a, b] [] q] [] pos) (dRg2 mkT ta tb) :=
  PE_imp (pe_tupRg' hc hg hm (prg_2 hg2 hm2 ha hb na nb hp) nc) fun σ H Q h => (rg2_lift (.inr rfl) h).2 rfl
end
end SF

/-! SL26: sorted(set(xs)), xs a list or a tuple of ints. -/
namespace SF
open PySem PySem.Spec PyProof.Rows L2
section
variable {X : Cx} {F : Fx} {a : Expr} {ta : TE} {tA : DTA} {p p2 q pos : Pos}
def rSetTup (K : Fg) (w : World) : List V → Hp → VK → Prop := fun vs H Q => ∃ (l : Addr) (ns : List Int), vs = [.ref l] ∧ SqT K H l (ns.map V.int) ∧ ns.length < 64 ∧ ∀ (r : Addr) (c : Nat), H r = none → c ≤ ns.length → Q (.ref r) (upd H r (SetO w r (fun j => decide (j ∈ ns)) c))
theorem cr_setTup (hc : X.calm = true) : CallR X (.type "set") (rSetTup X.K X.w) := by
  intro pins s σ H vs us Q I r h
  obtain ⟨l, ns, rfl, hq, h64, k⟩ := h
  obtain ⟨u, eu, ru⟩ := vals1 r
  subst eu
  obtain rfl : u = .ref l := ru
  obtain ⟨its, rv, pl, hz⟩ := I.tuple hq
  refine call_set_tupI ns (I.ok.hd hc) (show s.heap.IsTuple l its.toArray from pl) (by simpa using rv.ints) (by unfold scanBound; omega) fun hp tk c hS hc' kp => ?_
  have fr : H s.heap.objs.size = none := I.fresh
  refine ⟨.ref _, _, ?_, rfl, k _ c fr hc'⟩
  exact I.laid (t' := tk) (o := SetO X.w s.heap.objs.size (fun j => decide (j ∈ ns)) c) kp (Nat.le_refl _) (setO_new hS)
def rSetSeq (K : Fg) (w : World) : List V → Hp → VK → Prop := fun xs H Q => rSetList K w xs H Q ∨ rSetTup K w xs H Q
theorem cr_setSeq (hc : X.calm = true) : CallR X (.type "set") (rSetSeq X.K X.w) := CallR_or (cr_setList hc) (cr_setTup hc)
def fSortSet2 : FN := fun ds Q => match ds with
  | [.list xs] => someD (intsD xs) fun ns => ns.length < 64 ∧ ∀ ms : List Int, ms.Pairwise (· < ·) → (∀ k, k ∈ ms ↔ k ∈ ns) → ms.length ≤ ns.length → Q (.own (ms.map PyData.int))
  | [.tuple xs] => someD (intsD xs) fun ns => ns.length < 64 ∧ ∀ ms : List Int, ms.Pairwise (· < ·) → (∀ k, k ∈ ms ↔ k ∈ ns) → ms.length ≤ ns.length → Q (.own (ms.map PyData.int))
  | _ => False
theorem de_ss2 (hg : Gl X "sorted") (hm : X.mg "sorted" = none) (hg2 : Gl X "set") (hm2 : X.mg "set" = none) (ha : DA X F [a] tA) (hc : X.calm = true := by rfl)
    (hs : starEach [.Call (.Name "set" p2) [a] [] q] X.env = (false, eval (.Call (.Name "set" p2) [a] [] q) X.env) :: starEach [] X.env := by rfl) (hpl : (backTo pos (starEach [] X.env)).any (·.1) = false := by rfl)
    (hs2 : starEach [a] X.env = (false, eval a X.env) :: starEach [] X.env := by rfl) (hpl2 : (backTo q (starEach [] X.env)).any (·.1) = false := by rfl) :
    DE X F (.Call (.Name "sorted" p) [.Call (.Name "set" p2) [a] [] q] [] pos) (dCB fSortSet2 tA) :=
  PE_imp (pe_callB (cr_sortedSet hc) hg hm (by decide +kernel) (pa_cons (pe_callTy (cr_setSeq hc) hg2 hm2 (by decide +kernel) ha (by decide) (by decide) hs2 hpl2) pa_nil hs) (by decide) (by decide) hs hpl) fun σ H Q ⟨O, ds, Qa, R, ht, hq⟩ => ⟨O, ds, _, R, ht, fun xs ds1 vs H1 O1 s1 R1 rx hx => by
    have fin : ∀ {ns : List Int}, (∀ ms : List Int, ms.Pairwise (· < ·) → (∀ k, k ∈ ms ↔ k ∈ ns) → ms.length ≤ ns.length → Qa (.own (ms.map PyData.int)) ds1) → ns.length < 64 → ∀ (r : Addr) (c : Nat), H1 r = none → c ≤ ns.length → rSortedSet X.w [.ref r] (upd H1 r (SetO X.w r (fun j => decide (j ∈ ns)) c)) Q := by
      intro ns hx h64 r c hr hcl
      have sm := same_new (o := SetO X.w r (fun j => decide (j ∈ ns)) c) hr
      have R2 := R1.grow sm grow_refl (fun _ h => h) (lo_same R1.lo sm)
      have s2 : Step σ H1 O1 ds1 _ O1 ds1 := Step.grow sm grow_refl fun _ h => h
      refine ⟨r, _, c, rfl, upd_same, by omega, fun ms p' hp hmem hlen hn => ?_⟩
      exact (mkCont R (s1.trans s2) R2 hq).lst p' _ _ hn rpl_ints (hx ms hp (fun k => by rw [hmem k]; simp) (by omega))
    split at hx
    · rename_i dd e1
      have w := RpVs.vw R1 rx.1 e1
      unfold fSortSet2 at hx
      split at hx
      · rename_i ys
        cases e : intsD ys with
        | none => rw [e] at hx; exact hx.elim
        | some ns =>
          rw [e] at hx
          obtain ⟨h64, hx⟩ := hx
          obtain ⟨v, ev, w⟩ := vw1 w
          obtain ⟨l, us, e2, h1, r1⟩ := w.list
          subst ev e2
          rw [intsD_ok e] at r1
          have er := r1.ints
          subst er
          exact .inl ⟨l, ns, rfl, .inl (.inl h1), h64, fin hx h64⟩
      · rename_i ys
        cases e : intsD ys with
        | none => rw [e] at hx; exact hx.elim
        | some ns =>
          rw [e] at hx
          obtain ⟨h64, hx⟩ := hx
          obtain ⟨v, ev, w⟩ := vw1 w
          obtain ⟨l, us, e2, h1, r1⟩ := w.tuple
          subst ev e2
          rw [intsD_ok e] at r1
          have er := r1.ints
          subst er
          exact .inr ⟨l, ns, rfl, h1, h64, fin hx h64⟩
      · exact hx.elim
    · exact hx.elim⟩
end
end SF

/-! SL27: an own error is made: C(x), whose __init__ says super().__init__(text); self.f = x. -/
namespace SF
open PySem PySem.Spec PyProof.Rows L2
/-- what the class C says in K: B the built-in class above, fI its __init__ -/
structure ErrK (K : Fg) (C fI : Addr) (B newId initId : String) (bmB : List Value) : Prop where
  base : ExcBaseFacts B newId initId bmB
  sto : StoreFacts B bmB "object.__setattr__" "object"
  kx : W.KxsFacts B initId
  ini : W.excInitIn K C bmB newId = true
  over : W.excOver K C bmB = true
  fnd : W.findIn K (.ref C) "__init__" = some (some (.ref fI))
  sup : W.ks_superIn K C C "__init__" = some (some (.builtin initId))
  subB : W.subIn K (.ref C) (.type B) = some true
  opq : W.nsIn K cStatics "thirdparty.any" = some none
  setA : W.findIn K (.ref C) "__setattr__" = some (some (.builtin "object.__setattr__"))
  hd : W.hasDictIn K C = true
  own : W.mroIn K C (.ref C) = some true
/-- its __init__: a def that sees the class -/
structure IniK (P : Program) (K : Fg) (C fI : Addr) (qual : Str) (st : Stmt) (x : Option Str) : Prop where
  ex : ∃ (oc cdo ocl cll : Value) (od cdd cld : Option Addr) (osl csl cls : Array (Option Value)) (dV kV doc pm ct : Value) (an : Option Addr) (cda cc : Addr) (vs : Array Value) (file : Str) (tf : Tok) (cdC : ClassData),
    K.lookup fI = some ⟨.type "function", od, .func (W.fnX "__init__" qual (defArgs st) (defBody st) (defScope st) [("__class__", cc)] dV kV doc pm an (.ref cda) ct), osl⟩ ∧ W.codeIn K (.ref cda) qual = true ∧
    K.lookup cda = some ⟨cdo, cdd, .fields vs, csl⟩ ∧ vs[2]? = some (.str file tf) ∧ ((P.main.file : Str) == file) = true ∧ K.lookup cc = some ⟨cll, cld, .cell (some (.ref C)), cls⟩ ∧ W.clsIn K C = some cdC
section
variable {prog : Program} {w : World} {A : Around} {E : Value → Shared → Prop} {R : Result → Shared → Prop} {K : Fg} {C fI : Addr} {B newId initId : String} {bmB : List Value} {mg mb : Str → Option Value}
/-- super(), at the heap -/
theorem sup_base {s : Shared} {h0 : Heap} {e L : Addr} {m : Str → Option Value} {news : List (Addr × Obj)} {oe : Obj} {st : Stmt} {qual : Str} {body : List Stmt} {p0 p1 : Pos} {whole : Sem Value} {oc cdo cll : Value} {od cdd cld : Option Addr} {osl csl cls : Array (Option Value)} {dV kV doc pm ct : Value} {an : Option Addr} {cda cc : Addr}
    {vs : Array Value} {file : Str} {tf : Tok} {cdC : ClassData} {ar : Arg} {Q : Value → Shared → Prop} (X : K.In h0) (G : h0.Ns mainGlobals mg) (Bn : h0.Ns builtinsNs mb) (F : Fr h0 L s.heap m) (N : News h0 L s.heap news)
    (l1 : K.lookup fI = some ⟨oc, od, .func (W.fnX "__init__" qual (defArgs st) (defBody st) (defScope st) [("__class__", cc)] dV kV doc pm an (.ref cda) ct), osl⟩) (l2 : K.lookup cda = some ⟨cdo, cdd, .fields vs, csl⟩) (l3 : vs[2]? = some (.str file tf)) (l4 : ((prog.main.file : Str) == file) = true)
    (l5 : K.lookup cc = some ⟨cll, cld, .cell (some (.ref C)), cls⟩) (l6 : W.clsIn K C = some cdC) (own : W.mroIn K C (.ref C) = some true) (g1 : mg "super" = none) (g2 : mb "super" = some (.type "super")) (tp : (prog.main.scope.names.lookup ("super" : Str)).isSome = false)
    (k1 : (defScope st).names.lookup ("super" : Str) = some .globalImplicit) (k2 : (defScope st).names.lookup ("__class__" : Str) = some .free) (k3 : (defScope st).names.lookup ar.arg = some .local) (k4 : (defScope st).kind = .function)
    (hp : ((defArgs st).posonlyargs ++ (defArgs st).args).head? = some ar) (hv : m ar.arg = some (.ref e)) (I : W.InstAt s.heap e oe C none)
    (hq : ∀ so h', Fr h0 L h' m → News h0 L h' ((so, W.ks_superObj C e C) :: news) → (∀ p ∈ news, p.1 < so) → Q (.ref so) { s with heap := h' }) :
    _root_.PySem.wpAt (model prog w) A (.func body (W.ksEnv qual (defScope st) L fI (.ref cda) cc)) (attributeBase (.Call (.Name "super" p0) [] [] p1) "__init__" (W.ksEnv qual (defScope st) L fI (.ref cda) cc) whole) Q E s := by
  have XH : K.In s.heap := X.keeps F.keep
  obtain ⟨hp0, gg, dd, tt, os⟩ := s
  obtain ⟨oC, c1, c2⟩ : ∃ oC, hp0.get? C = some oC ∧ oC.data = .cls cdC := by
    unfold W.clsIn at l6
    split at l6
    · rename_i q1 q2 q3 q4 q5
      cases l6
      exact ⟨_, XH _ _ q5, rfl⟩
    · cases l6
  have nocls : ∀ c, oe.data ≠ .cls c := fun c z => by
    have := I.no
    unfold W.notCls at this
    rw [z] at this
    cases this
  refine PySem.ks_wpAt_super_base (env := W.ksEnv qual (defScope st) L fI (.ref cda) cc) k1 k2 (by decide) rfl (XH _ _ l1) rfl hp rfl (XH _ _ l2) rfl l3 l4 tp ?_
  refine W.ks_loadName_global k4 k1 (Calls.loadGlobal_builtin (env := W.ksEnv qual (defScope st) L fI (.ref cda) cc) (G.keeps F.keep) g1 (Bn.keeps F.keep) g2 ⟨rfl, ?_⟩)
  refine wpAny_loadName_free k4 k2 rfl ⟨_, XH _ _ l5, rfl⟩ (wpAny_loadName_local k4 k3 F.ns hv (PySem.ks_wpAny_isType_cls c1 c2 ⟨rfl, ?_⟩))
  refine PySem.ks_wpAny_call_super c1 c2 I.at_ I.cls nocls (W.looks_mroIn XH own) fun h' he hk => ?_
  obtain ⟨F', N', lt⟩ := W.ks_newsPush (s := ⟨hp0, gg, dd, tt, os⟩) F N rfl he hk
  exact hq _ _ F' N' lt
/-- the body of such an __init__, with a field -/
theorem ini_body {s : Shared} {h0 : Heap} {e L t0 : Addr} {m : Str → Option Value} {st : Stmt} {qual f x txt : Str} {p0 p1 p2 p3 p4 p5 p6 p7 p8 p9 : Pos} {kk : Nat} {oc cdo cll : Value} {od cdd cld : Option Addr} {osl csl cls : Array (Option Value)} {dV kV doc pm ct : Value} {an : Option Addr} {cda cc : Addr}
    {vs : Array Value} {file : Str} {tf : Tok} {cdC : ClassData} {ar : Arg} {v : Value} {Q : Flow → Shared → Prop} (T : ErrK K C fI B newId initId bmB) (X : K.In h0) (G : h0.Ns mainGlobals mg) (Bn : h0.Ns builtinsNs mb) (F : Fr h0 L s.heap m) (N : News h0 L s.heap [(e, W.excObj C t0 none .none)])
    (l1 : K.lookup fI = some ⟨oc, od, .func (W.fnX "__init__" qual (defArgs st) (defBody st) (defScope st) [("__class__", cc)] dV kV doc pm an (.ref cda) ct), osl⟩) (l2 : K.lookup cda = some ⟨cdo, cdd, .fields vs, csl⟩) (l3 : vs[2]? = some (.str file tf)) (l4 : ((prog.main.file : Str) == file) = true)
    (l5 : K.lookup cc = some ⟨cll, cld, .cell (some (.ref C)), cls⟩) (l6 : W.clsIn K C = some cdC) (g1 : mg "super" = none) (g2 : mb "super" = some (.type "super")) (tp : (prog.main.scope.names.lookup ("super" : Str)).isSome = false)
    (k1 : (defScope st).names.lookup ("super" : Str) = some .globalImplicit) (k2 : (defScope st).names.lookup ("__class__" : Str) = some .free) (k3 : (defScope st).names.lookup ar.arg = some .local) (k4 : (defScope st).kind = .function) (k5 : (defScope st).names.lookup x = some .local)
    (hp : ((defArgs st).posonlyargs ++ (defArgs st).args).head? = some ar) (hv : m ar.arg = some (.ref e)) (hx : m x = some v) (nf : W.findIn K (.ref C) f = some none) (dx : (x == ("__debug__" : Str)) = false) (da : (ar.arg == ("__debug__" : Str)) = false) {pl : Sem Bool} (hi : interactive (W.ksEnv qual (defScope st) L fI (.ref cda) cc) = false)
    (he : eval (.Call (.Attribute (.Call (.Name "super" p0) [] [] p1) "__init__" p2) [.Constant (.str txt) kk p3] [] p4) (W.ksEnv qual (defScope st) L fI (.ref cda) cc) = (do
      let ov ← attributeBase (.Call (.Name "super" p0) [] [] p1) "__init__" (W.ksEnv qual (defScope st) L fI (.ref cda) cc) (eval (.Call (.Name "super" p0) [] [] p1) (W.ksEnv qual (defScope st) L fI (.ref cda) cc))
      standAt p2.atName
      let (f, first) ← holding [ov] (getMethod ov "__init__" pl)
      callWith p4 f first (backTo p4 (starEach [.Constant (.str txt) kk p3] (W.ksEnv qual (defScope st) L fI (.ref cda) cc))) []))
    (hq : ∀ (h' : Heap) (tk : Nat) (t1 d1 : Addr), (∀ b o, h0.get? b = some o → h'.get? b = some o) → h'.get? e = some (W.excObj C t1 (some d1) .none) → h0.get? d1 = none → h'.Ns1 d1 (fun y => if y = f then some v else none) → Q .next { s with heap := h', toks := tk }) :
    _root_.PySem.wpAt (model prog w) A (.func (defBody st) (W.ksEnv qual (defScope st) L fI (.ref cda) cc)) (execs [.Expr (.Call (.Attribute (.Call (.Name "super" p0) [] [] p1) "__init__" p2) [.Constant (.str txt) kk p3] [] p4) p5, .Assign [.Attribute (.Name ar.arg p6) f p7] (.Name x p8) p9] (W.ksEnv qual (defScope st) L fI (.ref cda) cc)) Q E s := by
  have I0 : W.InstAt s.heap e (W.excObj C t0 none .none) C none := ⟨(N (e, W.excObj C t0 none .none) (by simp)).1, rfl, rfl, trivial⟩
  refine PySem.ks_wpAt_execs_cons (PySem.ks_wpAt_Expr_any (PySem.ks_wpAt_MethodCall (sup_base X G Bn F N l1 l2 l3 l4 l5 l6 T.own g1 g2 tp k1 k2 k3 k4 hp hv I0 fun so h1 F1 N1 lt1 => ?_) he) hi)
  have I1 : W.InstAt h1 e (W.excObj C t0 none .none) C none := ⟨(N1 (e, W.excObj C t0 none .none) (by simp)).1, rfl, rfl, trivial⟩
  refine W.kxs_method T.kx F1 X N1 List.mem_cons_self I1 T.opq T.sup T.subB (by decide) fun u h2 F2 N2 lt2 => ?_
  refine W.kxs_callWith1 N2 List.mem_cons_self (Calls.spliced_cons (Calls.Constant_str (k := kk) (pos := p3) (Calls.spliced_nil ⟨W.kxs_at N2 List.mem_cons_self, ?_⟩)))
  have so_e : so ≠ e := fun z => absurd (lt1 (e, W.excObj C t0 none .none) (by simp)) (by rw [z]; exact Nat.lt_irrefl _)
  have u_e : u ≠ e := fun z => absurd (lt2 (e, W.excObj C t0 none .none) (by simp)) (by rw [z]; exact Nat.lt_irrefl _)
  refine W.kxs_call F2 X N2 T.base T.ini List.mem_cons_self (.tail u_e (.tail so_e (.head fun p hp => nomatch hp))) (by show 1 ≤ sizeLine; rw [sizeLine_eq]; decide) fun t1 h3 F3 N3 lt3 => ?_
  have X3 : K.In h3 := X.keeps F3.keep
  have e3 : h3.get? e = some (W.excObj C t1 none .none) := (N3 (e, W.excObj C t1 none .none) (by simp)).1
  have n0 : h0.get? e = none := (N (e, W.excObj C t0 none .none) (by simp)).2.2
  have I3 : W.InstAt h3 e (W.excObj C t1 none .none) C none := ⟨e3, rfl, rfl, trivial⟩
  have tk : W.takerIn K C f = some none := by unfold W.takerIn; rw [nf]; rfl
  obtain ⟨cd, c1, c2⟩ := W.any_some T.hd
  refine PySem.ks_wpAt_execs_cons (PySem.ks_wpAt_Assign_Attr (wpAt_of_wpAny (wpAny_Name (wpAny_loadName_local k4 k5 F3.ns hx (wpAny_Name (wpAny_loadName_local k4 k3 F3.ns hv ?_) da)) dx)))
  refine W.set_plain (od := none) X3 I3 T.setA (W.osa_openX (od := none) T.sto X3 I3 T.over tk fun b => ?_)
  refine wpAny_bind (wpAny_pure (wpAny_bind (W.instanceDict_exc e3 (W.looks_clsIn X3 c1) c2 (HandSPX.store_in_new ?_ fun h4 tk4 n4 sb => ?_))))
  · exact ⟨_, #[], _, (Heap.get?_update_ne _ _ _ _ (Nat.ne_of_gt (Heap.lt_size e3))).trans (Heap.get?_push_at rfl rfl), rfl, fun e he => absurd he (by simp), fun _ => rfl⟩
  · have old : ∀ b o, h0.get? b = some o → h4.get? b = some o := fun b o z => by
      have b3 := F3.keep b o z
      have ne : b ≠ e := fun q => by rw [q, n0] at z; cases z
      exact (sb.2 b (Nat.ne_of_lt (Heap.lt_size b3))).trans ((Heap.get?_update_ne _ _ _ _ ne).trans (Heap.get?_push_of_some _ b3))
    have d0 : h0.get? h3.objs.size = none := by
      cases z : h0.get? h3.objs.size with
      | none => rfl
      | some o => exact absurd (Heap.lt_size (F3.keep _ _ z)) (Nat.lt_irrefl _)
    have e4 : h4.get? e = some (W.excObj C t1 (some h3.objs.size) .none) := by
      exact (sb.2 e (Nat.ne_of_lt (Heap.lt_size e3))).trans (Heap.get?_update_self _ (Heap.get?_push_of_some _ e3) rfl)
    exact wpAt_of_wpAny (wpAny_execs_nil (hq h4 _ t1 _ old e4 d0 n4))
end
end SF

/-! SL28: C(x) as an expression that makes an error. -/
namespace SF
open PySem PySem.Spec PyProof.Rows L2
/-- all that is asked of an own error class with one field -/
structure EF (P : Program) (K : Fg) (C : Addr) (f : Str) : Prop where
  ex : ∃ (fI : Addr) (B newId initId : String) (bmB : List Value) (st : Stmt) (qual x : Str) (ar : Arg) (oc cdo cll : Value) (od cdd cld : Option Addr) (osl csl cls : Array (Option Value)) (dV kV doc pm ct : Value) (an : Option Addr) (cda cc : Addr) (vs : Array Value) (file : Str) (tf : Tok) (cdC : ClassData)
      (txt : Str) (p0 p1 p2 p3 p4 p5 p6 p7 p8 p9 : Pos) (kk : Nat) (pl : Sem Bool), ErrK K C fI B newId initId bmB ∧
    K.lookup fI = some ⟨oc, od, .func (W.fnX "__init__" qual (defArgs st) (defBody st) (defScope st) [("__class__", cc)] dV kV doc pm an (.ref cda) ct), osl⟩ ∧ W.typeIn K (.ref fI) = some (.type "function") ∧ W.codeIn K (.ref cda) qual = true ∧
    K.lookup cda = some ⟨cdo, cdd, .fields vs, csl⟩ ∧ vs[2]? = some (.str file tf) ∧ ((P.main.file : Str) == file) = true ∧ K.lookup cc = some ⟨cll, cld, .cell (some (.ref C)), cls⟩ ∧ W.clsIn K C = some cdC ∧ (P.main.scope.names.lookup ("super" : Str)).isSome = false ∧
    ((defScope st).names.lookup ("super" : Str) = some .globalImplicit ∧ (defScope st).names.lookup ("__class__" : Str) = some .free ∧ (defScope st).names.lookup ar.arg = some .local ∧ (defScope st).kind = .function ∧ (defScope st).names.lookup x = some .local ∧ (defScope st).isCoroutine = false ∧ (defScope st).isGenerator = false ∧ ∀ y ∈ (defScope st).names, y.2 ≠ .cell) ∧
    ((defArgs st).posonlyargs ++ (defArgs st).args).head? = some ar ∧ (x == ar.arg) = false ∧ W.findIn K (.ref C) f = some none ∧ (x == ("__debug__" : Str)) = false ∧ (ar.arg == ("__debug__" : Str)) = false ∧
    (∀ a u, bindArgs (W.fnX "__init__" qual (defArgs st) (defBody st) (defScope st) [("__class__", cc)] dV kV doc pm an (.ref cda) ct) ⟨[a, u], []⟩ = pure [(ar.arg, a), (x, u)]) ∧
    defBody st = [.Expr (.Call (.Attribute (.Call (.Name "super" p0) [] [] p1) "__init__" p2) [.Constant (.str txt) kk p3] [] p4) p5, .Assign [.Attribute (.Name ar.arg p6) f p7] (.Name x p8) p9] ∧
    (∀ L, interactive (W.ksEnv qual (defScope st) L fI (.ref cda) cc) = false) ∧
    (∀ L, eval (.Call (.Attribute (.Call (.Name "super" p0) [] [] p1) "__init__" p2) [.Constant (.str txt) kk p3] [] p4) (W.ksEnv qual (defScope st) L fI (.ref cda) cc) = (do
      let ov ← attributeBase (.Call (.Name "super" p0) [] [] p1) "__init__" (W.ksEnv qual (defScope st) L fI (.ref cda) cc) (eval (.Call (.Name "super" p0) [] [] p1) (W.ksEnv qual (defScope st) L fI (.ref cda) cc))
      standAt p2.atName
      let (f, first) ← holding [ov] (getMethod ov "__init__" pl)
      callWith p4 f first (backTo p4 (starEach [.Constant (.str txt) kk p3] (W.ksEnv qual (defScope st) L fI (.ref cda) cc))) []))
  exC : W.subIn K (.ref C) (.type "BaseException") = some true
  tyC : W.typeIn K (.ref C) = some (.type "type")
  kC : W.keepIn K (.ref C) = true
section
variable {prog : Program} {w : World} {A : Around} {R : Result → Shared → Prop} {K : Fg} {C : Addr} {f : Str} {mg mb : Str → Option Value} {hp : Heap} {g : Array GenState} {dr : Drawn} {tk : Nat} {os : OsState}
/-- C(u), at the heap -/
theorem ef_call {u : Value} (T : EF prog K C f) (X : K.In hp) (G : hp.Ns mainGlobals mg) (Bn : hp.Ns builtinsNs mb) (g1 : mg "super" = none) (g2 : mb "super" = some (.type "super")) (nl : hp.NoLimit) (rm : (A.under (.builtin "type.__call__" ⟨[.ref C, u], []⟩)).depth < recursionLimit)
    (hq : ∀ (h' : Heap) (tk' : Nat) (t1 d1 : Addr), (∀ b o, hp.get? b = some o → h'.get? b = some o) → h'.get? (hp.objs.size + 1) = some (W.excObj C t1 (some d1) .none) → hp.get? d1 = none → h'.Ns1 d1 (fun y => if y = f then some u else none) → R (.ok (.ret (.ref (hp.objs.size + 1)))) ⟨h', g, dr, tk', os⟩) :
    codeAny (model prog w) A (.call (.ref C) ⟨[u], []⟩) R ⟨hp, g, dr, tk, os⟩ := by
  obtain ⟨fI, B, newId, initId, bmB, st, qual, x, ar, oc, cdo, cll, od, cdd, cld, osl, csl, cls, dV, kV, doc, pm, ct, an, cda, cc, vs, file, tf, cdC, txt, p0, p1, p2, p3, p4, p5, p6, p7, p8, p9, kk, pl, EK, l1, ty, l1c, l2, l3, l4, l5, l6, tp, ⟨k1, k2, k3, k4, k5, k6, k7, k8⟩, har, hxa, nf, dx, da, hb, hbody, hi, he⟩ := T.ex
  obtain ⟨nm, N', qn, bs, bm, hdct, sn, sub, ab, col, dd, q0, q1, q2, q3, q5, hC, hT⟩ := W.excInit_of X EK.ini
  have kk1 : ∀ b o, hp.get? b = some o → ((hp.push (W.kdv_tup [u])).push (HandSPX.excO C hp.objs.size)).get? b = some o := fun b o z => Heap.get?_push_of_some _ (Heap.get?_push_of_some _ z)
  have X1 := X.keeps kk1
  refine HandSPX.call_own EK.base hT hC (W.looks_findIn X EK.fnd) (fun self => W.bind_fn X self ty) (by show 1 ≤ sizeLine; rw [sizeLine_eq]; decide) ?_
  refine PySem.ks_codeAny_call_defAt (fd := W.fnX "__init__" qual (defArgs st) (defBody st) (defScope st) [("__class__", cc)] dV kV doc pm an (.ref cda) ct) (body := defBody st) (binds := [(ar.arg, .ref (hp.objs.size + 1)), (x, u)]) rm (X1 _ _ l1) rfl (nl.keeps kk1) (W.codeRec_of X1 l1c) rfl (.of_eq (hb _ _)) k8 (fun y hy => ?_) (fun h1 hns hk => ?_) k6 k7 k4
  · simp only [List.mem_cons, List.not_mem_nil, or_false] at hy
    rcases hy with z | z <;> subst z
    · exact k3
    · exact k5
  · have sz : ((hp.push (W.kdv_tup [u])).push (HandSPX.excO C hp.objs.size)).objs.size = hp.objs.size + 2 := by simp [Heap.size_push]
    have ge : h1.get? (hp.objs.size + 1) = some (W.excObj C hp.objs.size none .none) := hk _ _ (by heap_get)
    have n0 : hp.get? (hp.objs.size + 1) = none := by
      cases z : hp.get? (hp.objs.size + 1) with
      | none => rfl
      | some o => exact absurd (Heap.lt_size z) (Nat.not_lt.mpr (Nat.le_succ _))
    have F1 : Fr hp ((hp.push (W.kdv_tup [u])).push (HandSPX.excO C hp.objs.size)).objs.size h1 (fun y => [(ar.arg, Value.ref (hp.objs.size + 1)), (x, u)].reverse.lookup y) := ⟨hns, fun b o z => hk b o (kk1 b o z), by rw [sz]; omega⟩
    have N1 : News hp ((hp.push (W.kdv_tup [u])).push (HandSPX.excO C hp.objs.size)).objs.size h1 [(hp.objs.size + 1, W.excObj C hp.objs.size none .none)] := fun p hp' => by
      rw [List.mem_singleton.mp hp']
      exact ⟨ge, by rw [sz]; exact Nat.ne_of_lt (Nat.lt_succ_self _), n0⟩
    have m1 : [(ar.arg, Value.ref (hp.objs.size + 1)), (x, u)].reverse.lookup ar.arg = some (.ref (hp.objs.size + 1)) := by
      have : (ar.arg == x) = false := by rw [Bool.eq_false_iff] at hxa ⊢; exact fun z => hxa (by rw [beq_iff_eq] at z ⊢; exact z.symm)
      simp [List.lookup, this]
    have m2 : [(ar.arg, Value.ref (hp.objs.size + 1)), (x, u)].reverse.lookup x = some u := by simp [List.lookup]
    have key := ini_body (prog := prog) (w := w) (A := (A.under (.builtin "type.__call__" ⟨[.ref C, u], []⟩)).deeper (W.ksEnv qual (defScope st) ((hp.push (W.kdv_tup [u])).push (HandSPX.excO C hp.objs.size)).objs.size fI (.ref cda) cc)) (E := fun e s' => wpAny (model prog w) ((A.under (.builtin "type.__call__" ⟨[.ref C, u], []⟩)).deeper (W.ksEnv qual (defScope st) ((hp.push (W.kdv_tup [u])).push (HandSPX.excO C hp.objs.size)).objs.size fI (.ref cda) cc)) (leaving (W.ksEnv qual (defScope st) ((hp.push (W.kdv_tup [u])).push (HandSPX.excO C hp.objs.size)).objs.size fI (.ref cda) cc) e) (fun _ s'' => W.InitBack (hp.objs.size + 1) R (.error e) s'') (fun e' s'' => W.InitBack (hp.objs.size + 1) R (.error e') s'') s')
      (s := ⟨h1, g, dr, tk + 2, os⟩) (Q := fun f s' => W.InitBack (hp.objs.size + 1) R (.ok (.ret (match f with | .ret v => v | _ => .none))) s') (v := u) EK X G Bn F1 N1 l1 l2 l3 l4 l5 l6 g1 g2 tp k1 k2 k3 k4 k5 har m1 m2 nf dx da (hi _) (he _) (fun h' tk' t1 d1 a1 a2 a3 a4 => ⟨rfl, hq h' tk' t1 d1 a1 a2 a3 a4⟩) (p5 := p5) (p6 := p6) (p7 := p7) (p8 := p8) (p9 := p9)
    rw [← hbody] at key
    exact key
end
end SF

/-! SL29: raise C(x); what leaves a def, over data. -/
namespace SF
open PySem PySem.Spec PyProof.Rows L2
theorem boot_super : bootBuiltins "super" = some (.type "super") := by first | rfl | decide +kernel
def tMkE (C : Addr) (f : Str) (ta : TA) : St → Hp → XK → Prop := fun σ H Q => ta σ H fun vs H1 => ∃ v, vs = [v] ∧ ∀ d, H1 d = none → Q (.ref C) (some d) (upd H1 d (.xd [(f, v)]))
theorem pmk_err {X : Cx} {nm f : Str} {C : Addr} {e : Expr} {ta : TA} {p pos : Pos} {k : Nat} (T : EF X.prog X.K C f) (hr : Room (k + 1) X.A) (hg : Gl X nm) (hm : X.mg nm = some (.ref C)) (ms : X.mg "super" = none) (ha : PA X [e] ta)
    (hdb : (nm == ("__debug__" : Str)) = false := by decide) (he : starEach [e] X.env = (false, eval e X.env) :: starEach [] X.env := by rfl) (hpl : (backTo pos (starEach [] X.env)).any (·.1) = false := by rfl) :
    PMk X (.Call (.Name nm p) [e] [] pos) (tMkE C f ta) := by
  intro pins s σ H Q I h
  refine wpAny_Call_Name_kw (ld_glob I hg hm ?_ hdb)
  refine PySem.W.callWith_K (h₀ := X.base) I.ok.mod.kin T.kC (thn (ha.run pos pins s σ H _ I h) fun us s1 ⟨vs, H1, I1, r1, v, ev, q⟩ => ⟨I1.kIn, ?_⟩) he hpl
  subst ev
  obtain ⟨u, eu, ru⟩ := vals1 r1
  subst eu
  obtain ⟨hp, g, dr, tk, os⟩ := s1
  obtain ⟨mb, b1, b2⟩ := I1.ok.mod.blt
  refine wpAny_call (ef_call T I1.kIn (I1.ok.mod.glob.keeps I1.bk) (b1.keeps I1.bk) ms ((b2 _ (by decide)).trans boot_super) (I1.ok.mod.nolimit.keeps I1.bk) (hr.make C [u] []).depth fun h' tk' t1 d1 kp ge nd n1 => ?_)
  have na : hp.get? (hp.objs.size + 1) = none := by
    cases z : hp.get? (hp.objs.size + 1) with
    | none => rfl
    | some o => exact absurd (Heap.lt_size z) (Nat.not_lt.mpr (Nat.le_succ _))
  have dne : d1 ≠ hp.objs.size + 1 := fun z => by
    obtain ⟨o, es, ep, e1, e2, _⟩ := n1
    rw [z, ge] at e1
    cases e1
    cases e2
  obtain ⟨G, g1, g2⟩ := restrict h' fun b => decide (b ≠ hp.objs.size + 1)
  have gk : ∀ b, b ≠ hp.objs.size + 1 → G.get? b = h'.get? b := fun b hb => g1 b (decide_eq_true hb)
  have ga : G.get? (hp.objs.size + 1) = none := g2 _ (by simp)
  have up : ∀ b o, hp.get? b = some o → G.get? b = some o := fun b o z => (gk b fun y => by rw [y, na] at z; cases z).trans (kp b o z)
  have hd : H1 d1 = none := I1.hok.gone nd
  have haN : H1 (hp.objs.size + 1) = none := I1.hok.gone na
  have J : Inv X pins σ (upd H1 d1 (.xd [(f, v)])) ⟨G, g, dr, tk', os⟩ := I1.laidN (t' := tk') (h' := G) (o := .xd [(f, v)]) up nd hd ⟨_, n1.at fun o y => (gk d1 dne).trans y, fun y => by
    by_cases hy : y = f
    · subst hy; simp [List.lookup]; exact ru
    · have : (y == f) = false := by simpa using hy
      simp [List.lookup, this, hy]
      exact trivial⟩
  refine ⟨hp.objs.size + 1, _, _, ⟨G, g, dr, tk', os⟩, upd H1 d1 (.xd [(f, v)]), .ref C, some d1, rfl, J, fun b o z => ?_, ga, ge, ⟨rfl, rfl⟩, rfl, rfl, by rw [upd_ne dne.symm]; exact haN, rfl, I1.bare, raises_own T.exC T.tyC, q d1 hd⟩
  by_cases hb : b = hp.objs.size + 1
  · rw [hb, ga] at z; cases z
  · exact (gk b hb).symm.trans z
end SF

/-! SL30: raise, calls that may raise, defs that may raise, over data. -/
namespace SF
open PySem PySem.Spec PyProof.Rows L2
abbrev EA := Str → Option (Str × D) → DS → Prop
/-- the wish about errors is heard -/
def TakesD (X : Cx) (F : Fx) (Ea : EA) : Prop := Takes X (fun cv od σ H => ∃ nm fo O ds, Rep X.K F H O σ ds ∧ XcAt X.mg X.K H O nm fo cv od ∧ Ea nm fo ds)
section
variable {X : Cx} {F : Fx} {Ea : EA} {e : Expr} {te : DTE} {k : Nat}
def dRaise (Ea : EA) (nm fl : Str) (te : DTE) : DTS := fun _ ds => te ds fun x ds1 => match frz ds1 x with
  | some (d, ds2) => Ea nm (some (fl, d)) ds2
  | none => False
theorem ds_raise {nm fl : Str} {C : Addr} {p pos pos2 : Pos} (tk : TakesD X F Ea) (T : EF X.prog X.K C fl) (cl : Cl X.K nm C) (hm : X.mg nm = some (.ref C)) (ms : X.mg "super" = none) (hr : Room (k + 1) X.A) (hg : Gl X nm) (he : DE X F e te) (hc : X.calm = true := by rfl)
    (hdb : (nm == ("__debug__" : Str)) = false := by decide) (hs : starEach [e] X.env = (false, eval e X.env) :: starEach [] X.env := by rfl) (hpl : (backTo pos (starEach [] X.env)).any (·.1) = false := by rfl) :
    DSt X F (.Raise (some (.Call (.Name nm p) [e] [] pos)) none pos2) (dRaise Ea nm fl te) :=
  PS_imp (ps_raise hc tk (pmk_err T hr hg hm ms (pa_cons he pa_nil hs) hdb hs hpl)) fun D σ H ⟨O, ds, E, R, ht, kk⟩ => ⟨O, ds, _, R, ht, fun x ds1 v H1 O1 s1 R1 rx hx => ⟨v, rfl, fun d hd => by
    cases ef : frz ds1 x with
    | none => rw [ef] at hx; exact hx.elim
    | some q =>
      obtain ⟨z, ds2⟩ := q
      rw [ef] at hx
      obtain ⟨O2, s2, R2, rz, _, _⟩ := frz_ok R s1 R1 rx ef
      have sm := same_new (o := .xd [(fl, v)]) hd
      exact ⟨nm, some (fl, z), O2, ds2, R2.grow sm grow_refl (fun _ h => h) (lo_same R2.lo sm), ⟨C, cl, rfl, d, v, rfl, upd_same, Rp.mv R2.lo (same_keep sm) grow_refl rz⟩, hx⟩⟩⟩
/-! calls -/
theorem callGS {CX : CXT} {f : Addr} {fd : FuncData} {ps : List Str} {sp : Sp} {E : XK} {pins : List (Addr × Obj)} {σ : St} {H : Hp} {s : Shared} {Q : VK} {us : List Value} {kw : List (Str × Value)} {vs : List V} {bs : List Value} (G : FnG X.prog X.w X.K X.mg X.base CX k f fd ps sp) (hr : RoomG k X.A) (hx : PassesAt CX X σ E) (I : Inv X pins σ H s)
    (hb : BindsTo s fd ⟨us, kw⟩ (ps.zip bs)) (r : Vals vs bs) (h : sp vs H Q E) : wpAny (model X.prog X.w) X.A (call (.ref f) us kw) (EP X pins σ Q) X.xe s := by
  refine wpAny_call (codeAny_mono (G.run X.A X.stack s H ⟨us, kw⟩ bs vs Q E hr I.env0 hb r h) fun r s' hq => ?_)
  match r, hq with
  | .error e, hq => exact hx pins H s e s' I hq
  | .ok (.ret u), hq => exact I.after hq
  | .ok .next, hq => exact hq.elim
  | .ok .brk, hq => exact hq.elim
  | .ok .cont, hq => exact hq.elim
end
section
variable {X : Cx} {F : Fx} {Ea : EA} {CX : CXT} {k : Nat} {f : Addr} {fd : FuncData} {ps ks : List Str} {sp : Sp} {E : St → XK} {x : Str} {p pos : Pos} {e : Expr} {es : List Expr} {kws : List Keyword} {t tk : TA}
theorem pe_callGS (G : FnG X.prog X.w X.K X.mg X.base CX k f fd ps sp) (hr : RoomG k X.A) (hg : Gl X x) (hm : X.mg x = some (.ref f)) (hk : PySem.W.keepIn X.K (.ref f) = true) (hb : Binds X.K fd ps []) (hx : ∀ σ, PassesAt CX X σ (E σ))
    (ha : PA X (e :: es) t) (hdb : (x == ("__debug__" : Str)) = false) (he : starEach (e :: es) X.env = (false, eval e X.env) :: starEach es X.env) (hpl : (backTo pos (starEach es X.env)).any (·.1) = false) :
    PE X (.Call (.Name x p) (e :: es) [] pos) (fun σ H Q => t σ H fun vs H1 => sp vs H1 Q (E σ)) := by
  constructor
  intro pins s σ H Q I h
  refine wpAny_Call_Name_kw (ld_glob I hg hm (PySem.W.callWith_K (h₀ := X.base) I.ok.mod.kin hk (thn (ha.run pos pins s σ H _ I h) ?_) he hpl) hdb)
  rintro us s1 ⟨vs, H1, I1, r, q⟩
  have b := hb s1 us I1.kIn (by rw [List.append_nil, ← r.length]; exact G.len _ _ _ _ q)
  rw [List.append_nil] at b
  exact ⟨I1.kIn, callGS G hr (hx σ) I1 b r q⟩
theorem pe_callGKS {g : List Value → List Value} {gV : List V → List V} (G : FnG X.prog X.w X.K X.mg X.base CX k f fd ps sp) (hr : RoomG k X.A) (hg : Gl X x) (hm : X.mg x = some (.ref f)) (hk : PySem.W.keepIn X.K (.ref f) = true)
    (hto : ∀ (s : Shared) (ws : List Value), X.K.In s.heap → (g ws).length = ps.length → BindsTo s fd ⟨[], ks.zip ws⟩ (ps.zip (g ws))) (hrel : ∀ {zs : List V} {ws : List Value}, Vals zs ws → Vals (gV zs) (g ws)) (hx : ∀ σ, PassesAt CX X σ (E σ))
    (hkw : PK X kws tk) (hall : (backToKw pos (keywordEach kws X.env)).all (·.1.isSome) = true) (hks : (backToKw pos (keywordEach kws X.env)).filterMap (·.1) = ks)
    (hdb : (x == ("__debug__" : Str)) = false) (hpl : (backToKw pos (keywordEach kws X.env)).any (·.1.isNone) = false) :
    PE X (.Call (.Name x p) [] kws pos) (fun σ H Q => tk σ H fun zs H2 => sp (gV zs) H2 Q (E σ)) := by
  constructor
  intro pins s σ H Q I h
  refine wpAny_Call_Name_kw (ld_glob I hg hm (PySem.W.callWith_KW0 (h₀ := X.base) I.ok.mod.kin hk hall (thn (hkw.run pos pins s σ H _ I h) ?_) hpl) hdb)
  rintro ws s2 ⟨zs, H2, I2, rz, q2⟩
  have r2 := hrel rz
  refine ⟨I2.kIn, ?_⟩
  rw [hks]
  exact callGS G hr (hx σ) I2 (hto s2 ws I2.kIn (by rw [← r2.length]; exact G.len _ _ _ _ q2)) r2 q2
end
/-- a call that may raise -/
def dCallX (Ea : EA) (dsp : DSp) (m : List DV → List DV) (ta : DTA) : DTE := fun ds Q => ta ds fun xs ds1 => match argsOf ds1 xs with
  | some args => sameB args (m args) (onceB (m args) (dsp (m args) ds1.n (fun r n' => Q r ⟨aftS ds1 xs r, aftN (m args) ds1.n n'⟩) fun nm fo n' => Ea nm fo ⟨(frzA ds1 xs).sl, aftN (m args) ds1.n n'⟩))
  | none => False
section
variable {X : Cx} {F : Fx} {Ea : EA} {k : Nat} {x : Str} {st : Stmt} {ps ks : List Str} {dsp : DSp} {p pos : Pos} {e : Expr} {es : List Expr} {kws : List Keyword} {tA : DTA}
theorem de_callX (tk : TakesD X F Ea) (I : Pr X.prog X.w X.K X.mg X.base k x st ps dsp) (hr : RoomG k X.A) (hg : Gl X x) (ha : DA X F (e :: es) tA) (hdb : (x == ("__debug__" : Str)) = false := by decide) (he : starEach (e :: es) X.env = (false, eval e X.env) :: starEach es X.env := by rfl) (hpl : (backTo pos (starEach es X.env)).any (·.1) = false := by rfl) :
    DE X F (.Call (.Name x p) (e :: es) [] pos) (dCallX Ea dsp (fun as => as) tA) := by
  obtain ⟨f, fd, G, Fu, g, b⟩ := I.ex
  refine PE_imp (pe_callGS G hr hg g Fu.kp b (passAt tk) ha hdb he hpl) fun σ H Q ⟨O, ds, Qa, R, ht, hq⟩ => ⟨O, ds, _, R, ht, fun xs ds1 vs H1 O1 s1 R1 rx hx => ?_⟩
  cases ea : argsOf ds1 xs with
  | none => rw [ea] at hx; exact hx.elim
  | some args =>
    rw [ea] at hx
    exact call_coreX (gV := fun vs => vs) perm_id R s1 R1 rx ea hx hq fun nm fo ds' cv od H' O' _ R' xc he => ⟨nm, fo, O', ds', R', xc, he⟩
theorem de_callKX {n : Nat} {ix : List Nat} (tk : TakesD X F Ea) (I : Pr X.prog X.w X.K X.mg X.base k x st ps dsp) (hr : RoomG k X.A) (hg : Gl X x) (hkw : DK X F kws tA)
    (hb : ∀ (kV doc pm : Value) (an : Option Addr) (cdv ct : Value) (ws : List Value), (pick n ix ws).length = ps.length → bindArgs (PySem.W.fnOf x x (defArgs st) (defBody st) (defScope st) .none kV doc pm an cdv ct) ⟨[], ks.zip ws⟩ = pure (ps.zip (pick n ix ws)))
    (hall : (backToKw pos (keywordEach kws X.env)).all (·.1.isSome) = true := by rfl) (hks : (backToKw pos (keywordEach kws X.env)).filterMap (·.1) = ks := by rfl)
    (hdb : (x == ("__debug__" : Str)) = false := by decide) (hpl : (backToKw pos (keywordEach kws X.env)).any (·.1.isNone) = false := by rfl) :
    DE X F (.Call (.Name x p) [] kws pos) (dCallX Ea dsp (pick n ix) tA) := by
  obtain ⟨f, fd, G, Fu, g, b⟩ := I.ex
  have hto : ∀ (s : Shared) (ws : List Value), X.K.In s.heap → (pick n ix ws).length = ps.length → BindsTo s fd ⟨[], ks.zip ws⟩ (ps.zip (pick n ix ws)) := by
    obtain ⟨oc, od, kV, doc, pm, an, cdv, ct, osl, efd, lk, hcd⟩ := Fu.ex
    subst efd
    exact fun s ws _ hl => .of_eq (hb kV doc pm an cdv ct ws hl)
  refine PE_imp (pe_callGKS (g := pick n ix) (gV := pick n ix) G hr hg g Fu.kp hto (fun h => pick_paired h) (passAt tk) hkw hall hks hdb hpl) fun σ H Q ⟨O, ds, Qa, R, ht, hq⟩ => ⟨O, ds, _, R, ht, fun xs ds1 vs H1 O1 s1 R1 rx hx => ?_⟩
  cases ea : argsOf ds1 xs with
  | none => rw [ea] at hx; exact hx.elim
  | some args =>
    rw [ea] at hx
    exact call_coreX (gV := pick n ix) ⟨fun h => pick_paired h⟩ R s1 R1 rx ea hx hq fun nm fo ds' cv od H' O' _ R' xc he => ⟨nm, fo, O', ds', R', xc, he⟩
end
/-! defs -/
section
variable {P : Program} {w : World} {K : Fg} {mg : Str → Option Value} {base : Heap} {k : Nat} {x : Str} {st : Stmt} {N ps : List Str} {dsp : DSp}
theorem Df.prX {t : EA → DTS} (D : Df K mg x st ps) (S : FnScope N ps (defScope st)) (len : ∀ args n Q E, dsp args n Q E → args.length = ps.length)
    (der : ∀ (f : Addr) (cdv : Value) (A : Around) (outer : List Env) (s : Shared) (H : Hp) (E : XK) (F : Fx) (Ea : EA), RoomG k (A.deeper (envOfC x (defScope st) s.heap.objs.size f cdv)) → TakesD (cxOf (L2.CX P w) P w K mg base N x (defScope st) f cdv A outer s H E) F Ea →
      DSs (cxOf (L2.CX P w) P w K mg base N x (defScope st) f cdv A outer s H E) F (defBody st) (t Ea))
    (rd : ∀ args n Qa Ea, dsp args n Qa Ea → t (fun nm fo ds => Ea nm fo ds.n) ⟨fun ds => Qa (.d .none) ds.n, fun r ds => Qa r ds.n, fun _ => False, fun _ => False⟩ (startD N.length args n)) : Pr P w K mg base (k + 1) x st ps dsp := by
  obtain ⟨f, fd, Fu, g, b⟩ := D.ex
  have hlen : ∀ vs H Q E, spD K mg dsp vs H Q E → vs.length = ps.length := fun vs H Q E ⟨B, O, args, n, Qa, Ea, _, _, ha, _, hd, _⟩ => by rw [paired_len ha]; exact len _ _ _ _ hd
  refine ⟨f, fd, fnG_of Fu S hlen fun cdv A outer s H vs Q E hr hsp => ?_, Fu, g, b⟩
  have hl := hlen vs H Q E hsp
  obtain ⟨B, O, args, n, Qa, Ea, lo, hb, ha, h1, hd, hq, hx⟩ := hsp
  have hpl : ps.length ≤ N.length := by have := congrArg List.length S.pre; rw [List.length_take] at this; omega
  have tk : TakesD (cxOf (L2.CX P w) P w K mg base N x (defScope st) f cdv A outer s H E) ⟨H, B, O⟩ (fun nm fo ds => Ea nm fo ds.n) := by
    refine Takes.imp (takes_of (E := E) rfl rfl rfl rfl) fun cv od σ' H' ⟨nm, fo, O', ds', R', ⟨c, x1, x2, x3⟩, he⟩ => ?_
    exact hx nm fo ds'.n cv od H' R'.ext (fun b hb => R'.bx b hb) ⟨c, x1, x2, Fld.mv R'.lo keep_refl (less_grow R'.sub) x3⟩ he
  refine ⟨_, der f cdv A outer s H E ⟨H, B, O⟩ _ hr tk, O, _, _, rep_start lo hb ha h1 (by omega), rd args n Qa Ea hd, ?_⟩
  refine ⟨fun O' ds' σ' H' a R' q => ?_, fun O' ds' σ' H' v dv a R' r q => ?_, fun _ _ _ _ _ _ q => q, fun _ _ _ _ _ _ q => q⟩
  · exact hq (.d .none) ds'.n .non H' R'.ext (fun b hb => R'.bx b hb) .non q
  · exact hq dv ds'.n v H' R'.ext (fun b hb => R'.bx b hb) r q
end
end SF

/-! SL31: try: body / except (A, ..) as n: c = n. -/
namespace SF
open PySem PySem.Spec PyProof.Rows L2
section
variable {X : Cx} {pins : List (Addr × Obj)} {σ : St} {H : Hp} {s sI s' : Shared} {B : Heap} {a : Addr} {cv : Value} {od : Option Addr}
theorem xo_ok {P : Program} {w : World} {h : Heap} {oe : Obj} {vs : Array Value} (e : h.get? a = some oe) (z : Zc cv od oe) (d : oe.data = .fields vs) : ObjOk P w H h a (XO cv od a) :=
  ⟨⟨oe, vs, e, z, d⟩, ⟨oe, e⟩, fun _ _ ⟨o, v, q, r⟩ k => ⟨o, v, k o q, r⟩⟩
/-- back on the ground, the error among what is known -/
theorem landT {oe : Obj} {vs : Array Value} (I : Inv X pins σ H sI) (nb : ∀ b o, sI.heap.get? b = some o → b ∉ frs X.stack → B.get? b = some o) (st : B.StaysIn s'.heap) (up : sI.heap.UpToSlots s'.heap) (os : s'.os = sI.os) (ag : AllBare s'.gens) (na : H a = none) (nh : sI.heap.get? a = none)
    (e : s'.heap.get? a = some oe) (z : Zc cv od oe) (d : oe.data = .fields vs) : Inv X pins σ (upd H a (XO cv od a)) s' := by
  have fr : ∀ b ∈ frs X.stack, ∀ o, sI.heap.get? b = some o → ∃ sl, s'.heap.get? b = some { o with slots := sl } := fun b hb o q => by
    obtain ⟨_, o2, q2, nf⟩ := I.stack.mem hb
    rw [q] at q2
    cases q2
    exact up b o q nf
  have ne : ∀ {b : Addr} {o : Obj}, sI.heap.get? b = some o → b ≠ a := fun q y => by rw [y, nh] at q; cases q
  refine I.call' (ch := []) os ⟨fun b o q _ hb _ => st b o (nb b o q hb), fun b o q _ hb _ => fr b hb o q, fun b o q n _ => by rw [upd_ne (ne q)]; exact n, fun b o q _ => ?_, fun b xs q => by rw [upd_ne (ne_of_none q na)]; exact q, fun b o u q => by rw [upd_ne (ne_of_none q na)]; exact q, fun b ps q => ⟨#[], by rw [upd_ne (ne_of_none q na), q]; simp⟩⟩ ((I.inGround nb).laidN st na (xo_ok e z d)) ag fun _ y => nomatch y
  by_cases hb : b ∈ frs X.stack
  · obtain ⟨sl, q2⟩ := fr b hb o q
    exact ⟨_, q2⟩
  · exact ⟨o, st b o (nb b o q hb)⟩
theorem suite0 (I : Inv X pins σ H s) : Inv (X.suite a (X.pn ++ pins)) [] σ H s :=
  ⟨I.ok.suite _ _, I.os, I.bare, I.base, I.loc, I.cell, I.free, I.freeC, fun p hp => I.pin p (by rwa [List.append_nil] at hp), I.hok, I.len⟩
theorem unsuite0 {q : List (Addr × Obj)} (I : Inv (X.suite a (X.pn ++ pins)) q σ H s) (ok : X.Ok) : Inv X pins σ H s :=
  ⟨ok, I.os, I.bare, I.base, I.loc, I.cell, I.free, I.freeC, fun p hp => I.pin p (List.mem_append_left _ hp), I.hok, I.len⟩
/-- what an except clause names, and that it takes an error -/
def TestOk (X : Cx) (te : Expr) (cs : List Value) : Prop := ∀ (a : Addr) (pn pins : List (Addr × Obj)) (σ : St) (H : Hp) (s : Shared) (cls : Value) (Q : Value → Shared → Prop) (E : Value → Shared → Prop), Inv (X.suite a pn) pins σ H s → W.Looks (model X.prog X.w) s.heap (typeOf (.ref a)) cls → W.exmAny X.K cls cs = some true →
  (∀ c h', (∀ b o, s.heap.get? b = some o → h'.get? b = some o) → W.Looks (model X.prog X.w) h' (excMatches (.ref a) c) true → Q c { s with heap := h' }) → wpAny (model X.prog X.w) (X.A.mark (some (.ref a))) (eval te X.env) Q E s
theorem test4 {n1 n2 n3 n4 : Str} {c1 c2 c3 c4 : Value} {p1 p2 p3 p4 pos : Pos} {k : Nat} (g1 : Gl X n1) (g2 : Gl X n2) (g3 : Gl X n3) (g4 : Gl X n4) (m1 : X.mg n1 = some c1) (m2 : X.mg n2 = some c2) (m3 : X.mg n3 = some c3) (m4 : X.mg n4 = some c4)
    (d1 : (n1 == ("__debug__" : Str)) = false := by decide) (d2 : (n2 == ("__debug__" : Str)) = false := by decide) (d3 : (n3 == ("__debug__" : Str)) = false := by decide) (d4 : (n4 == ("__debug__" : Str)) = false := by decide) : TestOk X (.Tuple [.Name n1 p1, .Name n2 p2, .Name n3 p3, .Name n4 p4] k pos) [c1, c2, c3, c4] := by
  intro a pn pins σ H s cls Q E I LT hm q
  refine wpAny_Tuple_spliced (Calls.spliced_cons (ld_glob (X := X.suite a pn) I g1 m1 (Calls.spliced_cons (ld_glob (X := X.suite a pn) I g2 m2 (Calls.spliced_cons (ld_glob (X := X.suite a pn) I g3 m3 (Calls.spliced_cons (ld_glob (X := X.suite a pn) I g4 m4 (Calls.spliced_nil ⟨by show 4 ≤ sizeLine; rw [sizeLine_eq]; decide, ?_⟩) d4)) d3)) d2)) d1))
  have k : ∀ b o, s.heap.get? b = some o → (s.heap.push { cls := .type "tuple", data := .seq [c1, c2, c3, c4].toArray }).get? b = some o := fun b o z => Heap.get?_push_of_some _ z
  exact q _ _ k (W.exm_tup4 (I.kIn.keeps k) (LT.keeps k) (Heap.get?_push_size _ rfl) hm)
theorem test3 {n1 n2 n3 : Str} {c1 c2 c3 : Value} {p1 p2 p3 pos : Pos} {k : Nat} (g1 : Gl X n1) (g2 : Gl X n2) (g3 : Gl X n3) (m1 : X.mg n1 = some c1) (m2 : X.mg n2 = some c2) (m3 : X.mg n3 = some c3)
    (d1 : (n1 == ("__debug__" : Str)) = false := by decide) (d2 : (n2 == ("__debug__" : Str)) = false := by decide) (d3 : (n3 == ("__debug__" : Str)) = false := by decide) : TestOk X (.Tuple [.Name n1 p1, .Name n2 p2, .Name n3 p3] k pos) [c1, c2, c3] := by
  intro a pn pins σ H s cls Q E I LT hm q
  refine wpAny_Tuple_spliced (Calls.spliced_cons (ld_glob (X := X.suite a pn) I g1 m1 (Calls.spliced_cons (ld_glob (X := X.suite a pn) I g2 m2 (Calls.spliced_cons (ld_glob (X := X.suite a pn) I g3 m3 (Calls.spliced_nil ⟨by show 3 ≤ sizeLine; rw [sizeLine_eq]; decide, ?_⟩) d3)) d2)) d1))
  have k : ∀ b o, s.heap.get? b = some o → (s.heap.push { cls := .type "tuple", data := .seq [c1, c2, c3].toArray }).get? b = some o := fun b o z => Heap.get?_push_of_some _ z
  exact q _ _ k (W.exm_tup3 (I.kIn.keeps k) (LT.keeps k) (Heap.get?_push_size _ rfl) hm)
end
/-- the error is kept in slot j; slot i was the clause's name -/
def wHold (K : Fg) (cs : List Value) (i j : Nat) (D : Ends) : WX := fun cls d σ H => W.exmAny K cls cs = some true ∧ ∀ a, H a = none → D.nx (((σ.set i (some (.ref a))).set j (some (.ref a))).set i none) (upd H a (XO cls d a))
theorem flyP {B h h' : Heap} {l : List Env} {a : Addr} {Z : Obj → Prop} (k : ∀ b o, h.get? b = some o → h'.get? b = some o) (f : HandSPX.FlyingZ B l a Z h) : HandSPX.FlyingZ B l a Z h' := by
  obtain ⟨f1, f2, f3, oe, vs, T, oT, ts, x1, x2, x3, x4, x5, x6, x7, x8, x9⟩ := f
  exact ⟨fun b o z => k b o (f1 b o z), f2, Heap.FunFrames.of_keeps (fun b o z _ => ⟨o, k b o z, rfl⟩) f3, oe, vs, T, oT, ts, k _ _ x1, x2, x3, x4, x5, x6, k _ _ x7, x8, x9⟩
theorem ps_hold {X : Cx} {n c : Str} {i j : Nat} {te : Expr} {cs : List Value} {body : List Stmt} {np cp ap pos pos' : Pos} {tb : WX → TS} (hs : X.stack = X.env :: X.outer) (hf : X.env.frame = some X.env.locals) (hN : X.N.Nodup) (hi : X.N[i]? = some n) (hj : X.N[j]? = some c) (hln : X.env.kindOf n = some .local) (hlc : X.env.kindOf c = some .local) (hT : TestOk X te cs)
    (hb : ∀ (W : WX) (pn : List (Addr × Obj)) (xe : Value → Shared → Prop), Takes (X.tr pn xe) W → PassesOwn (model X.prog X.w) X.A X.env xe → PSs (X.tr pn xe) body (tb W))
    (hsu : ∀ (a : Addr) (pn : List (Addr × Obj)), PSs (X.suite a pn) [.Assign [.Name c cp] (.Name n np) ap] (tAsg (tVar i) (gName j))) :
    PS X (.Try body [.ExceptHandler (some te) (some n) [.Assign [.Name c cp] (.Name n np) ap] pos'] [] [] pos) (fun D σ H => tb (wHold X.K cs i j D) D σ H) := by
  constructor
  intro pins s σ H D I h
  have ok := I.ok
  have frm : X.A.frames = some (X.env :: X.outer) := by rw [ok.frames, hs]
  refine wpAny_Try_except (wpAny_mono ((hb (wHold X.K cs i j D) (X.pn ++ pins) _ ?_ PassesOwn.looking).run [] s σ H D (I.toTry _) h) (fun fl s1 q => ?_) fun _ _ z => z)
  · rintro u s2 ⟨a, Bh, sI, pins2, σ2, H2, cls, d, rfl, J0, nb, up, sky, na, os, ag, hm, go⟩
    have J : Inv X pins σ2 H2 sI := J0.ofTry ok
    have sky2 : Sky Bh (X.env :: X.outer) a (Zc cls d) X.env.locals s2.heap := by rw [← hs]; exact sky
    show wpAny (model X.prog X.w) X.A (noteFrame (.ref a) X.env) _ _ _
    refine Sky.land Zc.steady frm hf sky2 fun h3 f3 u3 => ?_
    obtain ⟨oe, vs, e3, z3, d3⟩ := f3.there
    have nfr : a ∉ frs X.stack := fun m => by
      rw [hs] at m
      obtain ⟨_, o', e', nf⟩ := f3.2.2.1.mem m
      rw [e3] at e'; cases e'
      exact nf _ d3
    have nh : sI.heap.get? a = none := by
      cases y : sI.heap.get? a with
      | none => rfl
      | some o =>
        have q := nb a o y nfr
        rw [f3.2.1] at q; cases q
    have J3 : Inv X pins σ2 (upd H2 a (XO cls d a)) { s2 with heap := h3 } := landT J nb f3.1 (up.trans u3) os ag na nh e3 z3 d3
    refine wpAny_handleBy_cons (codeAny_handlers_test ?_) (by intro q; cases q)
    have LT : W.Looks (model X.prog X.w) h3 (typeOf (.ref a)) cls := fun A Q E s k q => wpAny_typeOf_ref (k _ _ e3) (by rw [z3.1]; exact q)
    refine hT a (X.pn ++ pins) [] σ2 _ { s2 with heap := h3 } cls _ _ (suite0 J3) LT hm fun cc h4 k4 LM => LM.here ?_
    refine codeAny_handlers_suite_as (HandSPX.lands_againZ (flyP k4 f3) fun h5 f5 u5 => ?_)
    obtain ⟨oe5, vs5, e5, z5, d5⟩ := f5.there
    have J5 : Inv X pins σ2 (upd H2 a (XO cls d a)) { s2 with heap := h5 } := landT J nb f5.1 ((up.trans u3).trans ((Heap.UpToSlots.of_keeps k4).trans u5)) os ag na nh e5 z5 d5
    refine store_ok (X := X.suite a (X.pn ++ pins)) (v := .ref a) (suite0 J5) hN hi (.inl hln) rfl (fun s6 S6 => ?_) (.inr hln)
    have hlen : i < σ2.length := by
      have := J.len
      have := (List.getElem?_eq_some_iff.mp hi).1
      omega
    refine wpAny_mono ((hsu a (X.pn ++ pins)).run [] s6 _ _ { nx := fun σ' H' => σ' = (σ2.set i (some (.ref a))).set j (some (.ref a)) ∧ H' = upd H2 a (XO cls d a), rt := fun _ _ => False } S6 ⟨.ref a, by rw [List.getElem?_set_self hlen], rfl, rfl⟩) (fun fl s7 q => ?_) fun _ _ z => False.elim z
    cases fl with
    | next =>
      obtain ⟨σ7, H7, S7, rfl, rfl⟩ := q
      exact gone_ok (unsuite0 S7 ok) hN hi hln fun s8 J8 => ⟨_, _, J8, go a na⟩
    | brk => obtain ⟨_, _, _, q⟩ := q; exact q.elim
    | cont => obtain ⟨_, _, _, q⟩ := q; exact q.elim
    | ret u => obtain ⟨_, _, _, _, _, q⟩ := q; exact q.elim
  · cases fl with
    | next => obtain ⟨σ', H', J', q⟩ := q; exact wpAny_execs_nil ⟨σ', H', J'.ofTry ok, q⟩
    | brk => obtain ⟨σ', H', J', q⟩ := q; exact ⟨σ', H', J'.ofTry ok, q⟩
    | cont => obtain ⟨σ', H', J', q⟩ := q; exact ⟨σ', H', J'.ofTry ok, q⟩
    | ret u => obtain ⟨v, σ', H', J', r, q⟩ := q; exact ⟨v, σ', H', J'.ofTry ok, r, q⟩
end SF

/-! SL32: try over data; isinstance(err, C), err.f, err is None. -/
namespace SF
open PySem PySem.Spec PyProof.Rows L2
/-- what an error's class says, so that its instances can be asked -/
structure XC (K : Fg) (c : Addr) : Prop where
  cl : (W.clsIn K c).isSome = true
  ga : W.findIn K (.ref c) "__getattribute__" = some (some (.builtin "BaseException.__getattribute__"))
  gt : W.findIn K (.ref c) "__getattr__" = some none
  sub : W.subIn K (.ref c) (.type "BaseException") = some true
  ca : W.findIn K (.ref c) "__class__" = some (some (.builtin "object.__class__"))
  sp : W.specialIn K (.builtin "object.__class__") "__get__" = some (some (.builtin "getset_descriptor.__get__"))
  tk : W.takesIn K (.builtin "object.__class__") = some true
  mo : W.mroIn K c (.type "object") = some true
  hd : W.hasDictIn K c = true
section
variable {X : Cx} {F : Fx}
/-- the error and its dict, at the heap -/
theorem xo_at {pins : List (Addr × Obj)} {σ : St} {H : Hp} {s : Shared} {a c : Addr} {od : Option Addr} {fo : Option (Str × D)} {O : List Addr} (I : Inv X pins σ H s) (h : H a = some (XO (.ref c) od a)) (f : Fld X.K H O od fo) : ∃ oe odx, W.InstAt s.heap a oe c odx := by
  obtain ⟨⟨oe, vs, e, z, d⟩, _⟩ := I.hok a _ h
  have no : W.notCls oe = true := by unfold W.notCls; rw [d] <;> rfl
  cases fo with
  | none =>
    have eo : od = none := f
    subst eo
    exact ⟨oe, none, ⟨e, z.1, no, by rw [z.2]; trivial⟩⟩
  | some q =>
    obtain ⟨fl, x⟩ := q
    obtain ⟨dd, v, rfl, h1, _⟩ := f
    obtain ⟨mA, hns, _⟩ := I.hok dd _ h1
    obtain ⟨ob, ho, _⟩ := lookIn_ns hns
    exact ⟨oe, some ob, ⟨e, z.1, no, by rw [z.2]; exact ho⟩⟩
def rIsX (K : Fg) (O : List Addr) : List V → Hp → VK → Prop := fun xs H Q => ∃ a c od fo u cv b, xs = [.ref a, u] ∧ H a = some (XO (.ref c) od a) ∧ Fld K H O od fo ∧ XC K c ∧ (∀ v, RelV u v → v = cv) ∧ W.kitOne K (.ref c) cv = some b ∧ Q (.bl b) H
theorem call_isX {O : List Addr} : CallR X (.builtin "isinstance") (fun xs H Q => ∃ O, rIsX X.K O xs H Q) := by
  intro pins s σ H xs us Q I r h
  obtain ⟨O, a, c, od, fo, u, cv, b, rfl, h1, f, T, hv, hk, q⟩ := h
  cases r with
  | cons rx rr =>
    cases rr with
    | cons rt rr =>
      cases rr
      cases rx
      have ec := hv _ rt
      subst ec
      obtain ⟨oe, odx, J⟩ := xo_at I h1 f
      exact W.kia_one (W.kitx_exc T.cl T.ga T.gt T.sub T.ca T.sp T.tk T.mo) I.kIn J hk (fun z => nomatch z) fun tk => ⟨.bl b, H, I.kept (t' := tk) fun _ _ z => z, rfl, q⟩
@[irreducible] def dIsX (ms : List Str) (isa : Str → Str → Bool) (i : Nat) (q : Str) : DTE := fun ds Q => match ds.sl[i]? with
  | some (some (.exc n _)) => ms.contains n = true ∧ Q (.d (.bool (isa n q))) ds
  | _ => False
/-- isinstance(err, C) -/
theorem de_isX {ms : List Str} {isa : Str → Str → Bool} {i : Nat} {q : Str} {e c : Expr} {u : V} {cv : Value} {p pos : Pos} (hg : Gl X "isinstance") (hm : X.mg "isinstance" = none) (he : PE X e (tVar i)) (hc : PE X c (tC u)) (hv : ∀ v, RelV u v → v = cv)
    (hx : ∀ n c, ms.contains n = true → Cl X.K n c → XC X.K c ∧ W.kitOne X.K (.ref c) cv = some (isa n q))
    (hs : starEach [e, c] X.env = (false, eval e X.env) :: starEach [c] X.env := by rfl) (hs2 : starEach [c] X.env = (false, eval c X.env) :: starEach [] X.env := by rfl) (hpl : (backTo pos (starEach [c] X.env)).any (·.1) = false := by rfl) :
    DE X F (.Call (.Name "isinstance" p) [e, c] [] pos) (dIsX ms isa i q) :=
  PE_imp (pe_callB (call_isX (O := [])) hg hm rfl (pa_cons he (pa_cons hc pa_nil hs2) hs) (by decide) (by decide) hs hpl) fun σ H Q ⟨O, ds, Qa, R, ht, hq⟩ => by
    unfold dIsX at ht
    split at ht
    · rename_i n fo en
      obtain ⟨v, ev, a, cc, od, e1, e2, e3, e4⟩ := R.sl i _ en
      subst e1
      obtain ⟨t1, t2⟩ := hx n cc ht.1 e2
      exact ⟨.ref a, ev, O, a, cc, od, fo, u, cv, _, rfl, e3, e4, t1, hv, t2, hq (.d (.bool (isa n q))) ds _ H O Step.refl R (.bl _) ht.2⟩
    · exact ht.elim
/-- err.f -/
@[irreducible] def dFld (ms : List Str) (i : Nat) (f : Str) : DTE := fun ds Q => match ds.sl[i]? with
  | some (some (.exc n (some (fl, x)))) => ms.contains n = true ∧ (fl = f) ∧ Q (.d x) ds
  | _ => False
theorem de_fld {ms : List Str} {i : Nat} {f : Str} {e : Expr} {pos : Pos} (he : PE X e (tVar i)) (hx : ∀ n c, ms.contains n = true → Cl X.K n c → XC X.K c ∧ W.findIn X.K (.ref c) f = some none) (hb : attributeBase e f X.env (eval e X.env) = eval e X.env := by rfl) :
    DE X F (.Attribute e f pos) (dFld ms i f) := by
  refine ⟨fun pins s σ H Q I h => ?_⟩
  obtain ⟨O, ds, Qa, R, ht, hq⟩ := h
  unfold dFld at ht
  split at ht
  · rename_i n fl x en
    obtain ⟨hn, hf, ht⟩ := ht
    subst hf
    obtain ⟨v, ev, a, cc, od, e1, e2, e3, e4⟩ := R.sl i _ en
    subst e1
    obtain ⟨T, nf⟩ := hx n cc hn e2
    refine attr_of hb (thn (he.run pins s σ H (fun y H1 => y = .ref a ∧ H1 = H) I ⟨.ref a, ev, rfl, rfl⟩) fun u s1 ⟨y, H1, I1, ry, eq, eq2⟩ => ?_)
    subst eq eq2
    obtain rfl : u = Value.ref a := ry
    obtain ⟨dd, w, rfl, h1, h2⟩ := e4
    obtain ⟨⟨oe, vs, g1, z, d⟩, _⟩ := I1.hok a _ e3
    obtain ⟨mA, hns, rel⟩ := I1.hok dd _ h1
    obtain ⟨ob, ho, hl⟩ := lookIn_ns hns
    obtain ⟨w2, hw, rw2⟩ := RelO.some_of (v := w) (o := mA fl) (by have := rel fl; simpa [List.lookup] using this)
    have J : W.InstAt s1.heap a oe cc (some ob) := ⟨g1, z.1, by unfold W.notCls; rw [d] <;> rfl, by rw [z.2]; exact ho⟩
    exact HandSPX.exc_get I1.kIn J T.ga T.gt T.sub (W.findObj_own T.hd nf rfl (by rw [hl, hw])) (handed_of rw2) ⟨w, H1, I1.tok _, rw2, hq (.d x) ds w H1 O Step.refl R h2 ht⟩
  · exact ht.elim
/-- err is None -/
@[irreducible] def dIsN (i : Nat) : DTE := fun ds Q => match ds.sl[i]? with
  | some (some (.exc _ _)) => Q (.d (.bool false)) ds
  | some (some (.d x)) => Q (.d (.bool (isNo x))) ds
  | _ => False
theorem isn_lift {i : Nat} {σ : St} {H : Hp} {K : Fg} {Q : V → Hp → Prop} (h : lift K F (dIsN i) σ H Q) : ∃ v, σ[i]? = some (some v) ∧ Q (.bl (decide (v = .non))) H := by
  obtain ⟨O, ds, Qa, R, ht, hq⟩ := h
  unfold dIsN at ht
  split at ht
  · rename_i en
    obtain ⟨v, ev, a, cc, od, e1, e2⟩ := R.sl i _ en
    subst e1
    exact ⟨.ref a, ev, hq (.d (.bool false)) ds _ H O Step.refl R (.bl _) ht⟩
  · rename_i x en
    obtain ⟨v, ev, r⟩ := R.sl i _ en
    refine ⟨v, ev, hq (.d (.bool (isNo x))) ds _ H O Step.refl R ?_ ht⟩
    rw [isn_of (.inl r)]
    exact .bl _
  · exact ht.elim
theorem de_isN {i : Nat} {e : Expr} {k : Nat} {p pos : Pos} (he : PE X e (tVar i)) : DE X F (.Compare e [.Is] [.Constant .none k p] pos) (dIsN i) :=
  PE_imp (pe_cmpR op_isN he pe_non (nomark _)) fun σ H Q h => by
    obtain ⟨v, ev, q⟩ := isn_lift h
    exact ⟨v, ev, rfl, q⟩
theorem dt_isN {i : Nat} {e : Expr} {k : Nat} {p pos : Pos} (he : PE X e (tVar i)) : DT X F (.Compare e [.Is] [.Constant .none k p] pos) (dTst (dIsN i)) :=
  PT_imp (pt_cmpR op_isN he pe_non (nomark _)) fun σ H Q h => by
    obtain ⟨v, ev, q⟩ := isn_lift (tst_lift h)
    exact ⟨v, ev, rfl, q⟩
end
theorem isx_in {ms : List Str} {isa : Str → Str → Bool} {i : Nat} {q n : Str} {fo : Option (Str × D)} {b : Bool} {ds : DS} {Q : DV → DS → Prop} (hs : ds.sl[i]? = some (some (.exc n fo))) (hm : ms.contains n = true) (hb : isa n q = b) (h : Q (.d (.bool b)) ds) : dIsX ms isa i q ds Q := by
  unfold dIsX
  rw [hs]
  exact ⟨hm, by rw [hb]; exact h⟩
theorem fld_in {ms : List Str} {i : Nat} {f n : Str} {x : D} {ds : DS} {Q : DV → DS → Prop} (hs : ds.sl[i]? = some (some (.exc n (some (f, x))))) (hm : ms.contains n = true) (h : Q (.d x) ds) : dFld ms i f ds Q := by
  unfold dFld
  rw [hs]
  exact ⟨hm, rfl, h⟩
theorem isN_exc {i : Nat} {n : Str} {fo : Option (Str × D)} {ds : DS} {Q : DV → DS → Prop} (hs : ds.sl[i]? = some (some (.exc n fo))) (h : Q (.d (.bool false)) ds) : dIsN i ds Q := by
  unfold dIsN
  rw [hs]
  exact h
theorem isN_d {i : Nat} {x : D} {ds : DS} {Q : DV → DS → Prop} (hs : ds.sl[i]? = some (some (.d x))) (h : Q (.d (.bool (isNo x))) ds) : dIsN i ds Q := by
  unfold dIsN
  rw [hs]
  exact h
/-! try -/
structure Ok0 (K : Fg) (F : Fx) (E : DEn) (D : Ends) : Prop where
  nx : ∀ O' ds' σ' H', Rep K F H' O' σ' ds' → E.nx ds' → D.nx σ' H'
  rt : ∀ O' ds' σ' H' v dv, Rep K F H' O' σ' ds' → RpR K F H' v dv → E.rt dv ds' → D.rt v H'
  bk : ∀ O' ds' σ' H', Rep K F H' O' σ' ds' → E.bk ds' → D.bk σ' H'
  ct : ∀ O' ds' σ' H', Rep K F H' O' σ' ds' → E.ct ds' → D.ct σ' H'
def liftS0 (K : Fg) (F : Fx) (t : DTS) : TS := fun D σ H => ∃ O ds E, Rep K F H O σ ds ∧ t E ds ∧ Ok0 K F E D
section
variable {X : Cx} {F : Fx} {st : Stmt} {sts : List Stmt} {t u : DTS}
theorem Ok0.ok {K : Fg} {E : DEn} {D : Ends} {O : List Addr} {H : Hp} (k : Ok0 K F E D) : Ok K F O H E D := ⟨fun O' ds' σ' H' _ => k.nx O' ds' σ' H', fun O' ds' σ' H' v dv _ => k.rt O' ds' σ' H' v dv, fun O' ds' σ' H' _ => k.bk O' ds' σ' H', fun O' ds' σ' H' _ => k.ct O' ds' σ' H'⟩
theorem ds0 (h : DSt X F st t) : PS X st (liftS0 X.K F t) := PS_imp h fun D σ H ⟨O, ds, E, R, ht, k⟩ => ⟨O, ds, E, R, ht, k.ok⟩
theorem dss0_one (h : PS X st (liftS0 X.K F t)) : PSs X [st] (liftS0 X.K F t) := pss_one h
theorem dss0_cons (h1 : PS X st (liftS0 X.K F t)) (h2 : PSs X sts (liftS0 X.K F u)) : PSs X (st :: sts) (liftS0 X.K F (dSeq t u)) := PSs_imp (pss_cons h1 h2) fun D σ H ⟨O, ds, E, R, ht, k⟩ =>
  ⟨O, ds, _, R, ht, ⟨fun O' ds' σ' H' R' h => ⟨O', ds', E, R', h, k⟩, k.rt, k.bk, k.ct⟩⟩
end
section
variable {K : Fg} {F : Fx} {H : Hp} {O : List Addr} {σ : St} {ds : DS} {v : V}
theorem Rep.setE {nm : Str} {fo : Option (Str × D)} (R : Rep K F H O σ ds) (i : Nat) (h : ExS K H O v nm fo) : Rep K F H O (σ.set i (some v)) ⟨ds.sl.set i (some (.exc nm fo)), ds.n⟩ := by
  have mut_of : ∀ j q, MutAt (σ.set i (some v)) ⟨ds.sl.set i (some (.exc nm fo)), ds.n⟩ j q → MutAt σ ds j q := fun j q ⟨a, dv, b, c⟩ => by
    rcases sl_set_of b with ⟨e1, e2⟩ | ⟨e1, e2⟩
    · subst e2; exact c.elim
    · rw [List.getElem?_set_ne e1] at a
      exact ⟨a, dv, e2, c⟩
  have box_of : ∀ j q, BoxS (σ.set i (some v)) ⟨ds.sl.set i (some (.exc nm fo)), ds.n⟩ j q → BoxS σ ds j q := fun j q ⟨a, b⟩ => by
    rcases sl_set_of b with ⟨e1, e2⟩ | ⟨e1, e2⟩
    · cases e2
    · rw [List.getElem?_set_ne e1] at a
      exact ⟨a, e2⟩
  refine ⟨R.lo, R.sub, R.ext, fun j dv hj => ?_, fun j k q a b => R.mu j k q (mut_of j q a) (mut_of k q b), fun j q a => R.new j q (mut_of j q a), fun j q ys a b => ?_, R.bx, fun j q hb => R.bu j q (box_of j q hb), fun j k q r h1 h2 => R.b1 j k q r (box_of j q h1) (box_of k r h2), R.fo, R.bo, by simpa using R.len⟩
  · rcases sl_set_of hj with ⟨e1, e2⟩ | ⟨e1, e2⟩
    · subst e1 e2
      have hi : i < σ.length := by
        have q := (List.getElem?_eq_some_iff.mp hj).1
        have := R.len
        simp at q
        omega
      exact ⟨v, by rw [List.getElem?_set_self hi], h⟩
    · obtain ⟨w, ew, r⟩ := R.sl j dv e2
      exact ⟨w, by rw [List.getElem?_set_ne e1]; exact ew, r⟩
  · rcases sl_set_of b with ⟨e1, e2⟩ | ⟨e1, e2⟩
    · cases e2
    · rw [List.getElem?_set_ne e1] at a
      exact R.newO j q ys a e2
theorem Rep.clr (R : Rep K F H O σ ds) (i : Nat) : Rep K F H O (σ.set i none) ⟨ds.sl.set i none, ds.n⟩ := by
  have ne : ∀ {j : Nat} {dv : DV}, (ds.sl.set i none)[j]? = some (some dv) → i ≠ j ∧ ds.sl[j]? = some (some dv) := fun {j dv} h => by
    by_cases e : i = j
    · subst e
      by_cases hi : i < ds.sl.length
      · rw [List.getElem?_set_self hi] at h; cases h
      · rw [List.getElem?_eq_none (by simpa using hi)] at h; cases h
    · rw [List.getElem?_set_ne e] at h; exact ⟨e, h⟩
  have mut_of : ∀ j q, MutAt (σ.set i none) ⟨ds.sl.set i none, ds.n⟩ j q → MutAt σ ds j q := fun j q ⟨a, dv, b, c⟩ => by
    obtain ⟨e1, e2⟩ := ne b
    rw [List.getElem?_set_ne e1] at a
    exact ⟨a, dv, e2, c⟩
  have box_of : ∀ j q, BoxS (σ.set i none) ⟨ds.sl.set i none, ds.n⟩ j q → BoxS σ ds j q := fun j q ⟨a, b⟩ => by
    obtain ⟨e1, e2⟩ := ne b
    rw [List.getElem?_set_ne e1] at a
    exact ⟨a, e2⟩
  refine ⟨R.lo, R.sub, R.ext, fun j dv hj => ?_, fun j k q a b => R.mu j k q (mut_of j q a) (mut_of k q b), fun j q a => R.new j q (mut_of j q a), fun j q ys a b => ?_, R.bx, fun j q hb => R.bu j q (box_of j q hb), fun j k q r h1 h2 => R.b1 j k q r (box_of j q h1) (box_of k r h2), R.fo, R.bo, by simpa using R.len⟩
  · obtain ⟨e1, e2⟩ := ne hj
    obtain ⟨w, ew, r⟩ := R.sl j dv e2
    exact ⟨w, by rw [List.getElem?_set_ne e1]; exact ew, r⟩
  · obtain ⟨e1, e2⟩ := ne b
    rw [List.getElem?_set_ne e1] at a
    exact R.newO j q ys a e2
end
def dTry (ms : List Str) (tB : EA → DTS) (i j : Nat) : DTS := fun E ds => tB (fun nm fo ds' => ms.contains nm = true ∧ E.nx ⟨(ds'.sl.set j (some (.exc nm fo))).set i none, ds'.n⟩) E ds
theorem ds_try {X : Cx} {F : Fx} {n c : Str} {i j : Nat} {te : Expr} {cs : List Value} {body : List Stmt} {np cp ap pos pos' : Pos} {tB : EA → DTS} {ms : List Str} (hN : X.N.Nodup) (hij : i ≠ j) (hT : TestOk X te cs) (hm : ∀ nm c, ms.contains nm = true → Cl X.K nm c → W.exmAny X.K (.ref c) cs = some true)
    (hb : ∀ (pn : List (Addr × Obj)) (xe : Value → Shared → Prop) (Ea : EA), TakesD (X.tr pn xe) F Ea → DSs (X.tr pn xe) F body (tB Ea))
    (hsu : ∀ (a : Addr) (pn : List (Addr × Obj)), PSs (X.suite a pn) [.Assign [.Name c cp] (.Name n np) ap] (tAsg (tVar i) (gName j)))
    (hi : X.N[i]? = some n := by rfl) (hj : X.N[j]? = some c := by rfl) (hln : X.env.kindOf n = some .local := by rfl) (hlc : X.env.kindOf c = some .local := by rfl) (hs : X.stack = X.env :: X.outer := by rfl) (hf : X.env.frame = some X.env.locals := by rfl) :
    PS X (.Try body [.ExceptHandler (some te) (some n) [.Assign [.Name c cp] (.Name n np) ap] pos'] [] [] pos) (liftS0 X.K F (dTry ms tB i j)) := by
  refine PS_imp (ps_hold (tb := fun W D σ H => ∃ Ea : EA, (∀ cv od σ H, (∃ nm fo O ds, Rep X.K F H O σ ds ∧ XcAt X.mg X.K H O nm fo cv od ∧ Ea nm fo ds) → W cv od σ H) ∧ liftS X.K F (tB Ea) D σ H) hs hf hN hi hj hln hlc hT (fun W pn xe tk _ => ?_) hsu) fun D σ H ⟨O, ds, E, R, ht, kk⟩ => ⟨_, ?_, O, ds, E, R, ht, kk.ok⟩
  · exact ⟨fun pins s σ H D I ⟨Ea, hi, h⟩ => (hb pn xe Ea (tk.imp hi)).run pins s σ H D I h⟩
  · rintro cv od σ2 H2 ⟨nm, fo, O2, ds2, R2, ⟨cc, c1, rfl, c3⟩, hn, hE⟩
    refine ⟨hm nm cc hn c1, fun a na => ?_⟩
    have sm := same_new (o := XO (.ref cc) od a) na
    have R3 := R2.grow sm grow_refl (fun _ h => h) (lo_same R2.lo sm)
    have R4 := R3.setE (v := .ref a) (nm := nm) (fo := fo) j ⟨a, cc, od, rfl, c1, upd_same, c3.mv R2.lo (same_keep sm) grow_refl⟩
    have R5 := R4.clr i
    have e : ((σ2.set i (some (V.ref a))).set j (some (V.ref a))).set i none = (σ2.set j (some (V.ref a))).set i none := by
      rw [List.set_comm _ _ hij, List.set_set]
    rw [e]
    exact kk.nx O2 _ _ _ R5 hE
/-- a def that catches what it calls, by its body -/
theorem Df.pr0 {P : Program} {w : World} {K : Fg} {mg : Str → Option Value} {base : Heap} {k : Nat} {x : Str} {st : Stmt} {N ps : List Str} {dsp : DSp} {t : DTS} (D : Df K mg x st ps) (S : FnScope N ps (defScope st)) (len : ∀ args n Q E, dsp args n Q E → args.length = ps.length)
    (der : ∀ (f : Addr) (cdv : Value) (A : Around) (outer : List Env) (s : Shared) (H : Hp) (E : XK) (F : Fx), RoomG k (A.deeper (envOfC x (defScope st) s.heap.objs.size f cdv)) →
      PSs (cxOf (L2.CX P w) P w K mg base N x (defScope st) f cdv A outer s H E).nox (defBody st) (liftS0 K F t))
    (rd : ∀ args n Qa Ea, dsp args n Qa Ea → t ⟨fun ds => Qa (.d .none) ds.n, fun r ds => Qa r ds.n, fun _ => False, fun _ => False⟩ (startD N.length args n)) : Pr P w K mg base (k + 1) x st ps dsp := by
  obtain ⟨f, fd, Fu, g, b⟩ := D.ex
  have hlen : ∀ vs H Q E, spD K mg dsp vs H Q E → vs.length = ps.length := fun vs H Q E ⟨B, O, args, n, Qa, Ea, _, _, ha, _, hd, _⟩ => by rw [paired_len ha]; exact len _ _ _ _ hd
  refine ⟨f, fd, fnG_of Fu S hlen fun cdv A outer s H vs Q E hr hsp => ?_, Fu, g, b⟩
  have hl := hlen vs H Q E hsp
  obtain ⟨B, O, args, n, Qa, Ea, lo, hb, ha, h1, hd, hq, _⟩ := hsp
  have hpl : ps.length ≤ N.length := by have := congrArg List.length S.pre; rw [List.length_take] at this; omega
  refine ⟨_, (der f cdv A outer s H E ⟨H, B, O⟩ hr).nox, O, _, _, rep_start lo hb ha h1 (by omega), rd args n Qa Ea hd, ?_⟩
  refine ⟨fun O' ds' σ' H' R' q => ?_, fun O' ds' σ' H' v dv R' r q => ?_, fun _ _ _ _ _ q => q, fun _ _ _ _ _ q => q⟩
  · exact hq (.d .none) ds'.n .non H' R'.ext (fun b hb => R'.bx b hb) .non q
  · exact hq dv ds'.n v H' R'.ext (fun b hb => R'.bx b hb) r q
end SF

/-! SL33: xs.count(x); sorted(tuple of ints); the table of errors. -/
namespace SF
open PySem PySem.Spec PyProof.Rows L2
section
variable {X : Cx} {F : Fx}
/-! count -/
theorem count_eqU {x : V} : ∀ {xs : List V} {us : List Value}, Vals xs us → xs.all flatV = true → us.countP (eqU x) = xs.countP fun y => eqV y x
  | _, _, .nil, _ => rfl
  | y :: xs, u :: us, .cons r t, f => by
    rw [List.all_cons, Bool.and_eq_true] at f
    simp only [List.countP_cons, eqU_of r f.1, count_eqU t f.2]
def rCntF (K : Fg) : V → List V → Hp → VK → Prop := fun x xs H Q => ∃ (p : Addr) (vs : List V) (v : V), x = .ref p ∧ xs = [v] ∧ SqL K H p vs ∧ flatV v = true ∧ vs.all flatV = true ∧ Q (.int ((vs.countP fun y => eqV y v : Nat) : Int)) H
theorem mt_cntF : MtR X "list.count" (rCntF X.K) := by
  intro pins s σ H x xs v us Q I rx rxs h
  obtain ⟨p, vs, y, rfl, rfl, hs, f1, f2, q⟩ := h
  cases rx
  obtain ⟨u, rfl, ru⟩ := rxs.one
  obtain ⟨its, rv, ⟨⟨cls, dd, data, sl⟩, n, ho, hc, hdn, hd⟩, hlen⟩ := I.list hs
  simp only at hc hd
  subst hc hd
  refine call_meets PySem.F.slot_list_count ⟨_, ho, rfl⟩ PySem.F.entry_list_count (PySem.F.args_list_count_2 _ _) (SeqAt.list_countAt p its.toArray n dd sl u (eqU y)) ⟨ho, fun z hz => mem_eqAt ru f1 rv f2 z (by simpa using hz), ?_⟩
  refine ⟨.int _, H, I.tok _, ⟨s.toks, ?_⟩, q⟩
  show Value.int ((its.toArray.toList.countP (eqU y) : Nat) : Int) s.toks = _
  rw [show its.toArray.toList = its by simp, count_eqU rv f2]
def cntD (xs : List D) (x : D) : Nat := xs.countP fun y => PyData.eqv y x
def dCnt (ta tb : DTE) : DTE := fun ds Q => ta ds fun x ds1 => match peek ds1 x with
  | some (.list _) => tb ds1 fun y ds2 => match peek ds2 x, peek ds2 y with
    | some (.list xs), some d => match scD d && xs.all scD with
      | true => Q (.d (.int (cntD xs d : Nat))) ds2
      | false => False
    | _, _ => False
  | _ => False
theorem cnt_vals {K : Fg} {H : Hp} {O : List Addr} {x : D} {v : V} (rx : Rp K H O v x) (sx : scD x = true) : ∀ {vs : List V} {xs : List D}, RpL K H O vs xs → xs.all scD = true → (vs.countP fun y => eqV y v) = cntD xs x
  | _, _, .nil, _ => rfl
  | _, _, .cons r t, h => by
    rw [List.all_cons, Bool.and_eq_true] at h
    have ih := cnt_vals rx sx t h.2
    unfold cntD at ih ⊢
    simp only [List.countP_cons, ih, sc_eq r rx h.1 sx]
theorem de_cnt {o e : Expr} {ta tb : DTE} {apos cpos : Pos} (ho : DE X F o ta) (hE : DE X F e tb) (hbase : attributeBase o "count" X.env (eval o X.env) = eval o X.env := by rfl)
    (hfew : ((backTo cpos (starEach [e] X.env)).all (fun x => !x.1) && (backToKw cpos (keywordEach [] X.env)).all (fun x => x.1.isSome) && decide ([e].length + ([] : List Keyword).length + (if ([] : List Keyword).isEmpty then 0 else 1) < 30)) = true := by rfl)
    (hline : (apos.endLine == cpos.line) = true := by rfl) (hs : starEach [e] X.env = (false, eval e X.env) :: starEach [] X.env := by rfl) (hplain : (backTo cpos (starEach [] X.env)).any (·.1) = false := by rfl) :
    DE X F (.Call (.Attribute o "count" apos) [e] [] cpos) (dCnt ta tb) :=
  PE_imp (pe_bm PySem.F.plainAttrs_list PySem.F.slot_list_count PySem.F.type_list_count mt_cntF ho (pa_cons hE pa_nil hs) hbase hfew hline hs hplain) fun σ H Q ⟨O, ds, Qa, R, ht, hq⟩ => ⟨O, ds, _, R, ht, fun x ds1 v H1 O1 s1 R1 rx hx => by
    split at hx
    · rename_i xs0 e0
      obtain ⟨p, vs0, e1, h1, r1⟩ := (RpV.vw R1 rx e0).list
      subst e1
      refine ⟨.inl ⟨rfl, vs0, .inl (.inl h1)⟩, O1, ds1, _, R1, hx, fun y ds2 w H2 O2 s2 R2 ry hy => ?_⟩
      have rx2 := RpV.step R1 (s1.mutO R) rx s2
      split at hy
      · rename_i xs d ex ey
        cases es : (scD d && xs.all scD) with
        | false => rw [es] at hy; exact hy.elim
        | true =>
          rw [es] at hy
          rw [Bool.and_eq_true] at es
          obtain ⟨q, vs, e2, h2, r2⟩ := (RpV.vw R2 rx2 ex).list
          cases e2
          have rw' := (RpV.vw R2 ry ey).sc es.1
          have fl := sc_any rw' es.1 r2 es.2
          refine ⟨p, vs, w, rfl, rfl, .inl (.inl h2), sc_flat rw' es.1, fl.1, ?_⟩
          rw [cnt_vals rw' es.1 r2 es.2]
          exact (mkCont R (s1.trans s2) R2 hq).d _ _ (.int _) hy
      · exact hy.elim
    · exact hx.elim⟩
end
/-! the table of errors: a name, its class and the built-in one above -/
def errUp : List (Str × List Str) := [("Unfit", ["Unfit", "ValueError"]), ("SameMachine", ["SameMachine", "ValueError"]), ("Misfit", ["Misfit", "ValueError"]), ("Duplicate", ["Duplicate", "ValueError"]), ("Contradiction", ["Contradiction", "ValueError"]), ("BadText", ["BadText", "ValueError"]), ("BadLine", ["BadLine", "ValueError"]),
  ("NoMachine", ["NoMachine", "LookupError"]), ("NotInRack", ["NotInRack", "LookupError"]), ("NoRow", ["NoRow", "LookupError"]), ("NoNumber", ["NoNumber", "LookupError"]), ("NoSpindle", ["NoSpindle", "LookupError"]), ("NoState", ["NoState", "LookupError"]),
  ("Locked", ["Locked", "RuntimeError"]), ("NotLocked", ["NotLocked", "RuntimeError"]), ("Unreachable", ["Unreachable", "RuntimeError"]), ("TooMany", ["TooMany", "OverflowError"]), ("Full", ["Full", "OverflowError"]), ("NoSetting", ["NoSetting", "RuntimeError"]), ("LastSpindle", ["LastSpindle", "RuntimeError"]), ("OtherShop", ["OtherShop", "RuntimeError"])]
def isaE (n q : Str) : Bool := ((errUp.lookup n).getD []).contains q
structure ErrTab (K : Fg) (ms : List Str) (own : List (Str × Addr)) (blt : List String) (fls : List Str) (cs : List Value) : Prop where
  xc : ∀ n c, ms.contains n = true → Cl K n c → XC K c
  ex : ∀ n c, ms.contains n = true → Cl K n c → W.exmAny K (.ref c) cs = some true
  ko : ∀ n c q C, ms.contains n = true → Cl K n c → (q, C) ∈ own → W.kitOne K (.ref c) (.ref C) = some (isaE n q)
  kb : ∀ n c (T : String), ms.contains n = true → Cl K n c → T ∈ blt → W.kitOne K (.ref c) (.type T) = some (isaE n T)
  nf : ∀ n c f, ms.contains n = true → Cl K n c → f ∈ fls → W.findIn K (.ref c) f = some none
end SF

/-! SL34: sorted(tuple of ints); errors without a field. -/
namespace SF
open PySem PySem.Spec PyProof.Rows L2
section
variable {prog : Program} {w : World} {A : Around} {E : Value → Shared → Prop} {s : Shared}
theorem tup_collect {l : Addr} {vs : List Value} {Q : List Value → Shared → Prop} (hl : s.heap.IsTuple l vs.toArray) (hz : vs.length ≤ sizeLine)
    (q : Q vs { s with heap := (s.heap.push (seqObj "list" #[] 0)).update s.heap.objs.size (Obj.mapSeq (· ++ vs.toArray)) }) : wpAny (model prog w) A (collect (.ref l)) Q E s := by
  obtain ⟨o, g1, g2, n, g3⟩ := id hl
  unfold collect
  refine wpAny_bind (wpAny_runValue (codeAny_builtin entry_proto_collect' (show wpAny _ _ (do again (.builtin "list.__iadd__" ⟨[← newList [], .ref l], []⟩)) _ _ s from wpAny_bind (wpAny_newList (wpAny_pure ⟨Code.quiet_builtin _ (by decide +kernel), codeAny_builtin entry_list_iadd' ?_⟩)))))
  have g1' : (s.heap.push (seqObj "list" #[] 0)).get? l = some o := Heap.get?_push_of_some _ g1
  show wpAny _ _ (Builtin.List.listExtendWith (.ref s.heap.objs.size) (.ref l) (.ref s.heap.objs.size)) _ _ ({ s with heap := s.heap.push (seqObj "list" #[] 0) } : Shared)
  unfold Builtin.List.listExtendWith
  refine wpAny_bind (wpAny_typeOf (T := "tuple") ⟨o, g1', g2⟩ ?_)
  rw [if_pos (by rw [show (Value.type "tuple" == Value.type "tuple") = true from rfl]; simp)]
  refine wpAny_bind (listItems_at g1' g3 (wpAny_bind (listItems_at (xs := #[]) (n := 0) (Heap.get?_push_size _ rfl) rfl ?_)))
  rw [if_neg (by simp)]
  refine wpAny_bind (listUpdate_at (xs := #[]) (n := 0) (Heap.get?_push_size _ rfl) rfl (wpAny_pure ?_) (Nat.zero_le _) (by show (#[] ++ vs.toArray).size ≤ sizeLine + 1; simp only [Array.size_append, List.size_toArray, List.length_nil]; omega))
  refine wpAny_bind (wpAny_load (get?_update_seq (Heap.get?_push_size _ rfl) _) ?_)
  show wpAny (model prog w) A (pure ((#[] : Array Value) ++ vs.toArray).toList) Q E _
  have e : ((#[] : Array Value) ++ vs.toArray).toList = vs := by simp
  rw [e]
  exact wpAny_pure q
theorem tup_sorted {l : Addr} {vs : List Value} {ns : List Int} {Q : Value → Shared → Prop} (hl : s.heap.IsTuple l vs.toArray) (hI : IntsAre vs ns) (hz : vs.length ≤ sizeLine)
    (q : ∀ (out : Array Value) (ns' : List Int), IntsAre out.toList ns' → ns'.Perm ns → ns'.Pairwise (· ≤ ·) → Q (.ref (s.heap.objs.size + 1)) { s with heap := sortedAll s.heap vs out }) : wpAny (model prog w) A (call (.builtin "sorted") [.ref l]) Q E s := by
  refine Calls.call_function_entry kind_sorted plain_sorted entry_sorted (args_sorted1 _) ?_
  unfold Builtin.«sorted»
  refine wpAny_bind (m := checkCount "sorted" 1 1 _) (wpAny_pure (wpAny_bind (tup_collect hl hz (wpAny_bind (wpAny_newList ?_)))))
  have z1 : ((s.heap.push (seqObj "list" #[] 0)).update s.heap.objs.size (Obj.mapSeq (· ++ vs.toArray))).objs.size = s.heap.objs.size + 1 := by rw [Heap.size_update, size_push']
  have z2 : (((s.heap.push (seqObj "list" #[] 0)).update s.heap.objs.size (Obj.mapSeq (· ++ vs.toArray))).push (seqObj "list" vs.toArray 0)).get? (s.heap.objs.size + 1) = some (seqObj "list" vs.toArray 0) := by
    rw [← z1]
    exact Heap.get?_push_size _ rfl
  show wpAny _ _ _ _ _ ({ s with heap := ((s.heap.push (seqObj "list" #[] 0)).update s.heap.objs.size (Obj.mapSeq (· ++ vs.toArray))).push (seqObj "list" vs.toArray 0) } : Shared)
  rw [z1]
  exact wpAny_bind (wpAny_holding (wpAny_call_entry slot_list_sort ⟨_, z2, rfl⟩ entry_list_sort (list_sort_treeAny z2 hI hz fun out ns' a1 a2 a3 => ⟨_, rfl, wpAny_pure ⟨_, rfl, q out ns' a1 a2 a3⟩⟩) (args_list_sort _)))
end
section
variable {X : Cx} {F : Fx}
def rSortedT (K : Fg) : List V → Hp → VK → Prop := fun vs H Q => ∃ (a : Addr) (ns : List Int), vs = [V.ref a] ∧ SqT K H a (ns.map V.int) ∧ ∀ (ns' : List Int) (p : Addr), ns'.Perm ns → ns'.Pairwise (· ≤ ·) → H p = none → Q (.ref p) (upd H p (.lst (ns'.map V.int)))
theorem cr_sortedT : CallR X (.builtin "sorted") (rSortedT X.K) := by
  intro pins s σ H vs us Q I r h
  obtain ⟨a, ns, rfl, hs, q⟩ := h
  obtain ⟨its, rv, hl, hz⟩ := I.tuple hs
  rw [Vals.ref1 r]
  have hi := rv.ints
  have hz' : its.length ≤ sizeLine := by rw [← rv.length]; exact hz
  refine tup_sorted (show s.heap.IsTuple a its.toArray from hl) hi hz' fun out ns' h1 h2 h3 => ?_
  obtain ⟨ep, he'⟩ := PyProof.Rows.sortedAll_at s.heap its out
  have hlen : (ns'.map V.int).length ≤ sizeLine := by
    rw [List.length_map, h2.length_eq]
    rw [List.length_map] at hz
    exact hz
  exact ⟨.ref _, upd H (s.heap.objs.size + 1) (.lst (ns'.map V.int)), I.laid (t' := s.toks) (fun _ _ => PyProof.Rows.sortedAll_old) (Nat.le_succ _) ⟨hlen, out.toList, ep, vals_of_ints h1, he'⟩, rfl, q ns' _ h2 h3 (I.hok.fresh (Nat.le_succ _))⟩
def fSortedT : FN := fun ds Q => match ds with
  | [.tuple xs] => someD (intsD xs) fun ns => ∀ ns' : List Int, ns'.Perm ns → ns'.Pairwise (· ≤ ·) → Q (.own (ns'.map PyData.int))
  | _ => False
theorem bd_sortedT : BlD X (.builtin "sorted") fSortedT := ⟨_, cr_sortedT, by
  intro H O xs ds Qa Q lo w hf k
  unfold fSortedT at hf
  split at hf
  · rename_i xs
    cases e : intsD xs with
    | none => rw [e] at hf; exact hf.elim
    | some ns =>
      rw [e] at hf
      obtain ⟨v, ev, w⟩ := vw1 w
      obtain ⟨p, vs, e1, h1, r1⟩ := w.tuple
      subst ev e1
      rw [intsD_ok e] at r1
      have er := r1.ints
      subst er
      exact ⟨p, ns, rfl, h1, fun ns' q hp hs hq => k.lst q _ _ hq rpl_ints (hf ns' hp hs)⟩
  · exact hf.elim⟩
end
/-! errors without a field -/
section
variable {prog : Program} {w : World} {A : Around} {E : Value → Shared → Prop} {R : Result → Shared → Prop} {K : Fg} {C fI : Addr} {B newId initId : String} {bmB : List Value} {mg mb : Str → Option Value}
theorem ini_body0 {s : Shared} {h0 : Heap} {e L t0 : Addr} {m : Str → Option Value} {st : Stmt} {qual txt : Str} {p0 p1 p2 p3 p4 p5 : Pos} {kk : Nat} {oc cdo cll : Value} {od cdd cld : Option Addr} {osl csl cls : Array (Option Value)} {dV kV doc pm ct : Value} {an : Option Addr} {cda cc : Addr}
    {vs : Array Value} {file : Str} {tf : Tok} {cdC : ClassData} {ar : Arg} {Q : Flow → Shared → Prop} (T : ErrK K C fI B newId initId bmB) (X : K.In h0) (G : h0.Ns mainGlobals mg) (Bn : h0.Ns builtinsNs mb) (F : Fr h0 L s.heap m) (N : News h0 L s.heap [(e, W.excObj C t0 none .none)])
    (l1 : K.lookup fI = some ⟨oc, od, .func (W.fnX "__init__" qual (defArgs st) (defBody st) (defScope st) [("__class__", cc)] dV kV doc pm an (.ref cda) ct), osl⟩) (l2 : K.lookup cda = some ⟨cdo, cdd, .fields vs, csl⟩) (l3 : vs[2]? = some (.str file tf)) (l4 : ((prog.main.file : Str) == file) = true)
    (l5 : K.lookup cc = some ⟨cll, cld, .cell (some (.ref C)), cls⟩) (l6 : W.clsIn K C = some cdC) (g1 : mg "super" = none) (g2 : mb "super" = some (.type "super")) (tp : (prog.main.scope.names.lookup ("super" : Str)).isSome = false)
    (k1 : (defScope st).names.lookup ("super" : Str) = some .globalImplicit) (k2 : (defScope st).names.lookup ("__class__" : Str) = some .free) (k3 : (defScope st).names.lookup ar.arg = some .local) (k4 : (defScope st).kind = .function)
    (hp : ((defArgs st).posonlyargs ++ (defArgs st).args).head? = some ar) (hv : m ar.arg = some (.ref e)) {pl : Sem Bool} (hi : interactive (W.ksEnv qual (defScope st) L fI (.ref cda) cc) = false)
    (he : eval (.Call (.Attribute (.Call (.Name "super" p0) [] [] p1) "__init__" p2) [.Constant (.str txt) kk p3] [] p4) (W.ksEnv qual (defScope st) L fI (.ref cda) cc) = (do
      let ov ← attributeBase (.Call (.Name "super" p0) [] [] p1) "__init__" (W.ksEnv qual (defScope st) L fI (.ref cda) cc) (eval (.Call (.Name "super" p0) [] [] p1) (W.ksEnv qual (defScope st) L fI (.ref cda) cc))
      standAt p2.atName
      let (f, first) ← holding [ov] (getMethod ov "__init__" pl)
      callWith p4 f first (backTo p4 (starEach [.Constant (.str txt) kk p3] (W.ksEnv qual (defScope st) L fI (.ref cda) cc))) []))
    (hq : ∀ (h' : Heap) (tk : Nat) (t1 : Addr), (∀ b o, h0.get? b = some o → h'.get? b = some o) → h'.get? e = some (W.excObj C t1 none .none) → Q .next { s with heap := h', toks := tk }) :
    _root_.PySem.wpAt (model prog w) A (.func (defBody st) (W.ksEnv qual (defScope st) L fI (.ref cda) cc)) (execs [.Expr (.Call (.Attribute (.Call (.Name "super" p0) [] [] p1) "__init__" p2) [.Constant (.str txt) kk p3] [] p4) p5] (W.ksEnv qual (defScope st) L fI (.ref cda) cc)) Q E s := by
  have I0 : W.InstAt s.heap e (W.excObj C t0 none .none) C none := ⟨(N (e, W.excObj C t0 none .none) (by simp)).1, rfl, rfl, trivial⟩
  refine PySem.ks_wpAt_execs_cons (PySem.ks_wpAt_Expr_any (PySem.ks_wpAt_MethodCall (sup_base X G Bn F N l1 l2 l3 l4 l5 l6 T.own g1 g2 tp k1 k2 k3 k4 hp hv I0 fun so h1 F1 N1 lt1 => ?_) he) hi)
  have I1 : W.InstAt h1 e (W.excObj C t0 none .none) C none := ⟨(N1 (e, W.excObj C t0 none .none) (by simp)).1, rfl, rfl, trivial⟩
  refine W.kxs_method T.kx F1 X N1 List.mem_cons_self I1 T.opq T.sup T.subB (by decide) fun u h2 F2 N2 lt2 => ?_
  refine W.kxs_callWith1 N2 List.mem_cons_self (Calls.spliced_cons (Calls.Constant_str (k := kk) (pos := p3) (Calls.spliced_nil ⟨W.kxs_at N2 List.mem_cons_self, ?_⟩)))
  have so_e : so ≠ e := fun z => absurd (lt1 (e, W.excObj C t0 none .none) (by simp)) (by rw [z]; exact Nat.lt_irrefl _)
  have u_e : u ≠ e := fun z => absurd (lt2 (e, W.excObj C t0 none .none) (by simp)) (by rw [z]; exact Nat.lt_irrefl _)
  refine W.kxs_call F2 X N2 T.base T.ini List.mem_cons_self (.tail u_e (.tail so_e (.head fun p hp => nomatch hp))) (by show 1 ≤ sizeLine; rw [sizeLine_eq]; decide) fun t1 h3 F3 N3 lt3 => ?_
  exact wpAt_of_wpAny (wpAny_execs_nil (hq h3 _ t1 F3.keep (N3 (e, W.excObj C t1 none .none) (by simp)).1))
end
structure EF0 (P : Program) (K : Fg) (C : Addr) : Prop where
  ex : ∃ (fI : Addr) (B newId initId : String) (bmB : List Value) (st : Stmt) (qual : Str) (ar : Arg) (oc cdo cll : Value) (od cdd cld : Option Addr) (osl csl cls : Array (Option Value)) (dV kV doc pm ct : Value) (an : Option Addr) (cda cc : Addr) (vs : Array Value) (file : Str) (tf : Tok) (cdC : ClassData)
      (txt : Str) (p0 p1 p2 p3 p4 p5 : Pos) (kk : Nat) (pl : Sem Bool), ErrK K C fI B newId initId bmB ∧
    K.lookup fI = some ⟨oc, od, .func (W.fnX "__init__" qual (defArgs st) (defBody st) (defScope st) [("__class__", cc)] dV kV doc pm an (.ref cda) ct), osl⟩ ∧ W.typeIn K (.ref fI) = some (.type "function") ∧ W.codeIn K (.ref cda) qual = true ∧
    K.lookup cda = some ⟨cdo, cdd, .fields vs, csl⟩ ∧ vs[2]? = some (.str file tf) ∧ ((P.main.file : Str) == file) = true ∧ K.lookup cc = some ⟨cll, cld, .cell (some (.ref C)), cls⟩ ∧ W.clsIn K C = some cdC ∧ (P.main.scope.names.lookup ("super" : Str)).isSome = false ∧
    ((defScope st).names.lookup ("super" : Str) = some .globalImplicit ∧ (defScope st).names.lookup ("__class__" : Str) = some .free ∧ (defScope st).names.lookup ar.arg = some .local ∧ (defScope st).kind = .function ∧ (defScope st).isCoroutine = false ∧ (defScope st).isGenerator = false ∧ ∀ y ∈ (defScope st).names, y.2 ≠ .cell) ∧
    ((defArgs st).posonlyargs ++ (defArgs st).args).head? = some ar ∧
    (∀ a, bindArgs (W.fnX "__init__" qual (defArgs st) (defBody st) (defScope st) [("__class__", cc)] dV kV doc pm an (.ref cda) ct) ⟨[a], []⟩ = pure [(ar.arg, a)]) ∧
    defBody st = [.Expr (.Call (.Attribute (.Call (.Name "super" p0) [] [] p1) "__init__" p2) [.Constant (.str txt) kk p3] [] p4) p5] ∧
    (∀ L, interactive (W.ksEnv qual (defScope st) L fI (.ref cda) cc) = false) ∧
    (∀ L, eval (.Call (.Attribute (.Call (.Name "super" p0) [] [] p1) "__init__" p2) [.Constant (.str txt) kk p3] [] p4) (W.ksEnv qual (defScope st) L fI (.ref cda) cc) = (do
      let ov ← attributeBase (.Call (.Name "super" p0) [] [] p1) "__init__" (W.ksEnv qual (defScope st) L fI (.ref cda) cc) (eval (.Call (.Name "super" p0) [] [] p1) (W.ksEnv qual (defScope st) L fI (.ref cda) cc))
      standAt p2.atName
      let (f, first) ← holding [ov] (getMethod ov "__init__" pl)
      callWith p4 f first (backTo p4 (starEach [.Constant (.str txt) kk p3] (W.ksEnv qual (defScope st) L fI (.ref cda) cc))) []))
  exC : W.subIn K (.ref C) (.type "BaseException") = some true
  tyC : W.typeIn K (.ref C) = some (.type "type")
  kC : W.keepIn K (.ref C) = true
section
variable {prog : Program} {w : World} {A : Around} {R : Result → Shared → Prop} {K : Fg} {C : Addr} {mg mb : Str → Option Value} {hp : Heap} {g : Array GenState} {dr : Drawn} {tk : Nat} {os : OsState}
theorem ef0_call (T : EF0 prog K C) (X : K.In hp) (G : hp.Ns mainGlobals mg) (Bn : hp.Ns builtinsNs mb) (g1 : mg "super" = none) (g2 : mb "super" = some (.type "super")) (nl : hp.NoLimit) (rm : (A.under (.builtin "type.__call__" ⟨[.ref C], []⟩)).depth < recursionLimit)
    (hq : ∀ (h' : Heap) (tk' : Nat) (t1 : Addr), (∀ b o, hp.get? b = some o → h'.get? b = some o) → h'.get? (hp.objs.size + 1) = some (W.excObj C t1 none .none) → R (.ok (.ret (.ref (hp.objs.size + 1)))) ⟨h', g, dr, tk', os⟩) :
    codeAny (model prog w) A (.call (.ref C) ⟨[], []⟩) R ⟨hp, g, dr, tk, os⟩ := by
  obtain ⟨fI, B, newId, initId, bmB, st, qual, ar, oc, cdo, cll, od, cdd, cld, osl, csl, cls, dV, kV, doc, pm, ct, an, cda, cc, vs, file, tf, cdC, txt, p0, p1, p2, p3, p4, p5, kk, pl, EK, l1, ty, l1c, l2, l3, l4, l5, l6, tp, ⟨k1, k2, k3, k4, k6, k7, k8⟩, har, hb, hbody, hi, he⟩ := T.ex
  obtain ⟨nm, N', qn, bs, bm, hdct, sn, sub, ab, col, dd, q0, q1, q2, q3, q5, hC, hT⟩ := W.excInit_of X EK.ini
  have kk1 : ∀ b o, hp.get? b = some o → ((hp.push (W.kdv_tup [])).push (HandSPX.excO C hp.objs.size)).get? b = some o := fun b o z => Heap.get?_push_of_some _ (Heap.get?_push_of_some _ z)
  have X1 := X.keeps kk1
  refine HandSPX.call_own EK.base hT hC (W.looks_findIn X EK.fnd) (fun self => W.bind_fn X self ty) (by show 0 ≤ sizeLine; exact Nat.zero_le _) ?_
  refine PySem.ks_codeAny_call_defAt (fd := W.fnX "__init__" qual (defArgs st) (defBody st) (defScope st) [("__class__", cc)] dV kV doc pm an (.ref cda) ct) (body := defBody st) (binds := [(ar.arg, .ref (hp.objs.size + 1))]) rm (X1 _ _ l1) rfl (nl.keeps kk1) (W.codeRec_of X1 l1c) rfl (.of_eq (hb _)) k8 (fun y hy => by rw [List.mem_singleton.mp hy]; exact k3) (fun h1 hns hk => ?_) k6 k7 k4
  have sz : ((hp.push (W.kdv_tup [])).push (HandSPX.excO C hp.objs.size)).objs.size = hp.objs.size + 2 := by simp [Heap.size_push]
  have ge : h1.get? (hp.objs.size + 1) = some (W.excObj C hp.objs.size none .none) := hk _ _ (by heap_get)
  have n0 : hp.get? (hp.objs.size + 1) = none := by
    cases z : hp.get? (hp.objs.size + 1) with
    | none => rfl
    | some o => exact absurd (Heap.lt_size z) (Nat.not_lt.mpr (Nat.le_succ _))
  have F1 : Fr hp ((hp.push (W.kdv_tup [])).push (HandSPX.excO C hp.objs.size)).objs.size h1 (fun y => [(ar.arg, Value.ref (hp.objs.size + 1))].reverse.lookup y) := ⟨hns, fun b o z => hk b o (kk1 b o z), by rw [sz]; omega⟩
  have N1 : News hp ((hp.push (W.kdv_tup [])).push (HandSPX.excO C hp.objs.size)).objs.size h1 [(hp.objs.size + 1, W.excObj C hp.objs.size none .none)] := fun p hp' => by
    rw [List.mem_singleton.mp hp']
    exact ⟨ge, by rw [sz]; exact Nat.ne_of_lt (Nat.lt_succ_self _), n0⟩
  have m1 : [(ar.arg, Value.ref (hp.objs.size + 1))].reverse.lookup ar.arg = some (.ref (hp.objs.size + 1)) := by simp [List.lookup]
  have key := ini_body0 (prog := prog) (w := w) (A := (A.under (.builtin "type.__call__" ⟨[.ref C], []⟩)).deeper (W.ksEnv qual (defScope st) ((hp.push (W.kdv_tup [])).push (HandSPX.excO C hp.objs.size)).objs.size fI (.ref cda) cc)) (E := fun e s' => wpAny (model prog w) ((A.under (.builtin "type.__call__" ⟨[.ref C], []⟩)).deeper (W.ksEnv qual (defScope st) ((hp.push (W.kdv_tup [])).push (HandSPX.excO C hp.objs.size)).objs.size fI (.ref cda) cc)) (leaving (W.ksEnv qual (defScope st) ((hp.push (W.kdv_tup [])).push (HandSPX.excO C hp.objs.size)).objs.size fI (.ref cda) cc) e) (fun _ s'' => W.InitBack (hp.objs.size + 1) R (.error e) s'') (fun e' s'' => W.InitBack (hp.objs.size + 1) R (.error e') s'') s')
    (s := ⟨h1, g, dr, tk + 1, os⟩) (Q := fun f s' => W.InitBack (hp.objs.size + 1) R (.ok (.ret (match f with | .ret v => v | _ => .none))) s') EK X G Bn F1 N1 l1 l2 l3 l4 l5 l6 g1 g2 tp k1 k2 k3 k4 har m1 (hi _) (he _) (fun h' tk' t1 a1 a2 => ⟨rfl, hq h' tk' t1 a1 a2⟩) (p5 := p5)
  rw [← hbody] at key
  exact key
end
theorem pmk_err0 {X : Cx} {nm : Str} {C : Addr} {p pos : Pos} {k : Nat} (T : EF0 X.prog X.K C) (hr : Room (k + 1) X.A) (hg : Gl X nm) (hm : X.mg nm = some (.ref C)) (ms : X.mg "super" = none) (hdb : (nm == ("__debug__" : Str)) = false := by decide) :
    PMk X (.Call (.Name nm p) [] [] pos) (fun σ H Q => Q (.ref C) none H) := by
  intro pins s σ H Q I h
  refine wpAny_Call_Name_kw (ld_glob I hg hm (PySem.W.callWith_K0 I.kIn T.kC ?_) hdb)
  obtain ⟨hp, g, dr, tk, os⟩ := s
  obtain ⟨mb, b1, b2⟩ := I.ok.mod.blt
  refine wpAny_call (ef0_call T I.kIn (I.ok.mod.glob.keeps I.bk) (b1.keeps I.bk) ms ((b2 _ (by decide)).trans boot_super) (I.ok.mod.nolimit.keeps I.bk) (hr.make C [] []).depth fun h' tk' t1 kp ge => ?_)
  have na : hp.get? (hp.objs.size + 1) = none := by
    cases z : hp.get? (hp.objs.size + 1) with
    | none => rfl
    | some o => exact absurd (Heap.lt_size z) (Nat.not_lt.mpr (Nat.le_succ _))
  obtain ⟨G, g1, g2⟩ := restrict h' fun b => decide (b ≠ hp.objs.size + 1)
  have gk : ∀ b, b ≠ hp.objs.size + 1 → G.get? b = h'.get? b := fun b hb => g1 b (decide_eq_true hb)
  have ga : G.get? (hp.objs.size + 1) = none := g2 _ (by simp)
  have up : ∀ b o, hp.get? b = some o → G.get? b = some o := fun b o z => (gk b fun y => by rw [y, na] at z; cases z).trans (kp b o z)
  refine ⟨hp.objs.size + 1, _, _, ⟨G, g, dr, tk', os⟩, H, .ref C, none, rfl, I.kept (t' := tk') up, fun b o z => ?_, ga, ge, ⟨rfl, rfl⟩, rfl, rfl, I.hok.gone na, rfl, I.bare, raises_own T.exC T.tyC, h⟩
  by_cases hb : b = hp.objs.size + 1
  · rw [hb, ga] at z; cases z
  · exact (gk b hb).symm.trans z
def dRaise0 (Ea : EA) (nm : Str) : DTS := fun _ ds => Ea nm none ds
theorem ds_raise0 {X : Cx} {F : Fx} {Ea : EA} {nm : Str} {C : Addr} {p pos pos2 : Pos} {k : Nat} (tk : TakesD X F Ea) (T : EF0 X.prog X.K C) (cl : Cl X.K nm C) (hm : X.mg nm = some (.ref C)) (ms : X.mg "super" = none) (hr : Room (k + 1) X.A) (hg : Gl X nm) (hc : X.calm = true := by rfl) (hdb : (nm == ("__debug__" : Str)) = false := by decide) :
    DSt X F (.Raise (some (.Call (.Name nm p) [] [] pos)) none pos2) (dRaise0 Ea nm) :=
  PS_imp (ps_raise hc tk (pmk_err0 T hr hg hm ms hdb)) fun D σ H ⟨O, ds, E, R, ht, kk⟩ => ⟨nm, none, O, ds, R, ⟨C, cl, rfl, rfl⟩, ht⟩
end SF

/-! SL35: own error classes, from what K says. -/
namespace SF
open PySem PySem.Spec PyProof.Rows L2
/-- the j-th statement of a class -/
def clsSt (st : Stmt) (j : Nat) : Stmt := match st with
  | .ClassDef _ _ _ body .. => body.getD j (.Pass ⟨0, 0, 0, 0⟩)
  | _ => .Pass ⟨0, 0, 0, 0⟩
def plF : Sem Bool := do return (← (pure (some false) : Sem (Option Bool))).getD true
section
variable {P : Program} {K : Fg} {C fI : Addr} {B newId initId : String} {bmB : List Value}
abbrev iniCall (txt : Str) (kk : Nat) (p0 p1 p2 p3 p4 : Pos) : Expr := .Call (.Attribute (.Call (.Name "super" p0) [] [] p1) "__init__" p2) [.Constant (.str txt) kk p3] [] p4
theorem ef_mk (st : Stmt) {qual x f : Str} {ar : Arg} {oc cdo cll : Value} {od cdd cld : Option Addr} {osl csl cls : Array (Option Value)} {dV kV doc pm ct : Value} {an : Option Addr} {cda cc : Addr} {vs : Array Value} {file : Str} {tf : Tok} {cdC : ClassData} {txt : Str} {p0 p1 p2 p3 p4 p5 p6 p7 p8 p9 : Pos} {kk : Nat}
    (base : ExcBaseFacts B newId initId bmB) (sto : StoreFacts B bmB "object.__setattr__" "object") (kx : W.KxsFacts B initId)
    (k1 : (defScope st).names.lookup ("super" : Str) = some .globalImplicit) (k2 : (defScope st).names.lookup ("__class__" : Str) = some .free) (har : ((defArgs st).posonlyargs ++ (defArgs st).args).head? = some ar) (k3 : (defScope st).names.lookup ar.arg = some .local) (k4 : (defScope st).kind = .function) (k6 : (defScope st).isCoroutine = false) (k7 : (defScope st).isGenerator = false) (k8 : ∀ y ∈ (defScope st).names, y.2 ≠ .cell)
    (k5 : (defScope st).names.lookup x = some .local) (hxa : (x == ar.arg) = false) (dx : (x == ("__debug__" : Str)) = false) (da : (ar.arg == ("__debug__" : Str)) = false)
    (hb : ∀ (kV doc pm ct : Value) (an : Option Addr) (cda cc : Addr) (a u : Value), bindArgs (W.fnX "__init__" qual (defArgs st) (defBody st) (defScope st) [("__class__", cc)] dV kV doc pm an (.ref cda) ct) ⟨[a, u], []⟩ = pure [(ar.arg, a), (x, u)])
    (hbody : defBody st = [.Expr (iniCall txt kk p0 p1 p2 p3 p4) p5, .Assign [.Attribute (.Name ar.arg p6) f p7] (.Name x p8) p9])
    (he : ∀ (L fI cda cc : Addr), eval (iniCall txt kk p0 p1 p2 p3 p4) (W.ksEnv qual (defScope st) L fI (.ref cda) cc) = (do
      let ov ← attributeBase (.Call (.Name "super" p0) [] [] p1) "__init__" (W.ksEnv qual (defScope st) L fI (.ref cda) cc) (eval (.Call (.Name "super" p0) [] [] p1) (W.ksEnv qual (defScope st) L fI (.ref cda) cc))
      standAt p2.atName
      let (f, first) ← holding [ov] (getMethod ov "__init__" plF)
      callWith p4 f first (backTo p4 (starEach [.Constant (.str txt) kk p3] (W.ksEnv qual (defScope st) L fI (.ref cda) cc))) []))
    (hi : ∀ (L fI cda cc : Addr), interactive (W.ksEnv qual (defScope st) L fI (.ref cda) cc) = false)
    (fnd : W.findIn K (.ref C) "__init__" = some (some (.ref fI))) (l1 : K.lookup fI = some ⟨oc, od, .func (W.fnX "__init__" qual (defArgs st) (defBody st) (defScope st) [("__class__", cc)] dV kV doc pm an (.ref cda) ct), osl⟩) (ty : W.typeIn K (.ref fI) = some (.type "function")) (l1c : W.codeIn K (.ref cda) qual = true) (l2 : K.lookup cda = some ⟨cdo, cdd, .fields vs, csl⟩) (l3 : vs[2]? = some (.str file tf)) (l4 : ((P.main.file : Str) == file) = true) (l5 : K.lookup cc = some ⟨cll, cld, .cell (some (.ref C)), cls⟩) (l6 : W.clsIn K C = some cdC) (tp : (P.main.scope.names.lookup ("super" : Str)).isSome = false)
    (ini : W.excInitIn K C bmB newId = true) (over : W.excOver K C bmB = true) (sup : W.ks_superIn K C C "__init__" = some (some (.builtin initId))) (subB : W.subIn K (.ref C) (.type B) = some true) (opq : W.nsIn K cStatics "thirdparty.any" = some none) (setA : W.findIn K (.ref C) "__setattr__" = some (some (.builtin "object.__setattr__"))) (hd : W.hasDictIn K C = true) (own : W.mroIn K C (.ref C) = some true)
    (nf : W.findIn K (.ref C) f = some none) (exC : W.subIn K (.ref C) (.type "BaseException") = some true) (tyC : W.typeIn K (.ref C) = some (.type "type")) (kC : W.keepIn K (.ref C) = true) : EF P K C f :=
  ⟨⟨fI, B, newId, initId, bmB, st, qual, x, ar, oc, cdo, cll, od, cdd, cld, osl, csl, cls, dV, kV, doc, pm, ct, an, cda, cc, vs, file, tf, cdC, txt, p0, p1, p2, p3, p4, p5, p6, p7, p8, p9, kk, plF, ⟨base, sto, kx, ini, over, fnd, sup, subB, opq, setA, hd, own⟩, l1, ty, l1c, l2, l3, l4, l5, l6, tp, ⟨k1, k2, k3, k4, k5, k6, k7, k8⟩, har, hxa, nf, dx, da, fun a u => hb _ _ _ _ _ _ _ a u, hbody, fun L => hi L _ _ _, fun L => he L _ _ _⟩, exC, tyC, kC⟩
theorem ef0_mk (st : Stmt) {qual : Str} {ar : Arg} {oc cdo cll : Value} {od cdd cld : Option Addr} {osl csl cls : Array (Option Value)} {dV kV doc pm ct : Value} {an : Option Addr} {cda cc : Addr} {vs : Array Value} {file : Str} {tf : Tok} {cdC : ClassData} {txt : Str} {p0 p1 p2 p3 p4 p5 : Pos} {kk : Nat}
    (base : ExcBaseFacts B newId initId bmB) (sto : StoreFacts B bmB "object.__setattr__" "object") (kx : W.KxsFacts B initId)
    (k1 : (defScope st).names.lookup ("super" : Str) = some .globalImplicit) (k2 : (defScope st).names.lookup ("__class__" : Str) = some .free) (har : ((defArgs st).posonlyargs ++ (defArgs st).args).head? = some ar) (k3 : (defScope st).names.lookup ar.arg = some .local) (k4 : (defScope st).kind = .function) (k6 : (defScope st).isCoroutine = false) (k7 : (defScope st).isGenerator = false) (k8 : ∀ y ∈ (defScope st).names, y.2 ≠ .cell)
    (hb : ∀ (kV doc pm ct : Value) (an : Option Addr) (cda cc : Addr) (a : Value), bindArgs (W.fnX "__init__" qual (defArgs st) (defBody st) (defScope st) [("__class__", cc)] dV kV doc pm an (.ref cda) ct) ⟨[a], []⟩ = pure [(ar.arg, a)])
    (hbody : defBody st = [.Expr (iniCall txt kk p0 p1 p2 p3 p4) p5])
    (he : ∀ (L fI cda cc : Addr), eval (iniCall txt kk p0 p1 p2 p3 p4) (W.ksEnv qual (defScope st) L fI (.ref cda) cc) = (do
      let ov ← attributeBase (.Call (.Name "super" p0) [] [] p1) "__init__" (W.ksEnv qual (defScope st) L fI (.ref cda) cc) (eval (.Call (.Name "super" p0) [] [] p1) (W.ksEnv qual (defScope st) L fI (.ref cda) cc))
      standAt p2.atName
      let (f, first) ← holding [ov] (getMethod ov "__init__" plF)
      callWith p4 f first (backTo p4 (starEach [.Constant (.str txt) kk p3] (W.ksEnv qual (defScope st) L fI (.ref cda) cc))) []))
    (hi : ∀ (L fI cda cc : Addr), interactive (W.ksEnv qual (defScope st) L fI (.ref cda) cc) = false)
    (fnd : W.findIn K (.ref C) "__init__" = some (some (.ref fI))) (l1 : K.lookup fI = some ⟨oc, od, .func (W.fnX "__init__" qual (defArgs st) (defBody st) (defScope st) [("__class__", cc)] dV kV doc pm an (.ref cda) ct), osl⟩) (ty : W.typeIn K (.ref fI) = some (.type "function")) (l1c : W.codeIn K (.ref cda) qual = true) (l2 : K.lookup cda = some ⟨cdo, cdd, .fields vs, csl⟩) (l3 : vs[2]? = some (.str file tf)) (l4 : ((P.main.file : Str) == file) = true) (l5 : K.lookup cc = some ⟨cll, cld, .cell (some (.ref C)), cls⟩) (l6 : W.clsIn K C = some cdC) (tp : (P.main.scope.names.lookup ("super" : Str)).isSome = false)
    (ini : W.excInitIn K C bmB newId = true) (over : W.excOver K C bmB = true) (sup : W.ks_superIn K C C "__init__" = some (some (.builtin initId))) (subB : W.subIn K (.ref C) (.type B) = some true) (opq : W.nsIn K cStatics "thirdparty.any" = some none) (setA : W.findIn K (.ref C) "__setattr__" = some (some (.builtin "object.__setattr__"))) (hd : W.hasDictIn K C = true) (own : W.mroIn K C (.ref C) = some true)
    (exC : W.subIn K (.ref C) (.type "BaseException") = some true) (tyC : W.typeIn K (.ref C) = some (.type "type")) (kC : W.keepIn K (.ref C) = true) : EF0 P K C :=
  ⟨⟨fI, B, newId, initId, bmB, st, qual, ar, oc, cdo, cll, od, cdd, cld, osl, csl, cls, dV, kV, doc, pm, ct, an, cda, cc, vs, file, tf, cdC, txt, p0, p1, p2, p3, p4, p5, kk, plF, ⟨base, sto, kx, ini, over, fnd, sup, subB, opq, setA, hd, own⟩, l1, ty, l1c, l2, l3, l4, l5, l6, tp, ⟨k1, k2, k3, k4, k6, k7, k8⟩, har, fun a => hb _ _ _ _ _ _ _ a, hbody, fun L => hi L _ _ _, fun L => he L _ _ _⟩, exC, tyC, kC⟩
theorem tab_mk {ms : List Str} {own : List (Str × Addr)} {blt : List String} {fls : List Str} {cs : List Value}
    (h : ∀ n, ms.contains n = true → ∃ C, Cl K n C ∧ XC K C ∧ W.exmAny K (.ref C) cs = some true ∧ (∀ q D, (q, D) ∈ own → W.kitOne K (.ref C) (.ref D) = some (isaE n q)) ∧ (∀ T, T ∈ blt → W.kitOne K (.ref C) (.type T) = some (isaE n T)) ∧ ∀ f ∈ fls, W.findIn K (.ref C) f = some none) : ErrTab K ms own blt fls cs := by
  have key : ∀ n c C, Cl K n c → Cl K n C → c = C := fun n c C h1 h2 => by
    unfold Cl at h1 h2
    rw [h1] at h2
    cases h2
    rfl
  refine ⟨fun n c hn hc => ?_, fun n c hn hc => ?_, fun n c q D hn hc hq => ?_, fun n c T hn hc hT => ?_, fun n c f hn hc hf => ?_⟩
  all_goals
    obtain ⟨C, h1, h2, h3, h4, h5, h6⟩ := h n hn
    cases key n _ _ hc h1
  · exact h2
  · exact h3
  · exact h4 q D hq
  · exact h5 T hT
  · exact h6 f hf
end
end SF

/-! SL36: enumerate of lists and tuples. -/
namespace SF
open PySem PySem.Spec PyProof.Rows L2
section
variable {prog : Program} {w : World} {A : Around} {E : Value → Shared → Prop} {s : Shared}
theorem meets_enum1 {v : Value} {o : Obj} {H : Heap → Prop} (B : PySem.Begins v o H) :
    Meets (Builtin.«enumerate.__new__» ⟨[.type "enumerate", v], []⟩) (fun _ R s => H s.heap ∧
      R (.ok (.ret (.ref (s.heap.push o).objs.size))) { s with heap := (s.heap.push o).push { cls := .type "enumerate", data := .fields #[.none, .bool false, .ref s.heap.objs.size, rawInt 0, .none, .none] } }) :=
  .of_wp fun prog w A R s h => by
    obtain ⟨hp, g, d, tk, os⟩ := s; obtain ⟨h1, h⟩ := h
    have hsub := sub_enumerate
    have q1 : ∀ {A' : Around} {E : Value → Shared → Prop} {Q : Value → Shared → Prop}, Q (.ref hp.objs.size) ⟨hp.push o, g, d, tk, os⟩ → wpAny (model prog w) A' (pyIter v) Q E ⟨hp, g, d, tk, os⟩ :=
      fun q => B.iter prog w _ _ ⟨hp, g, d, tk, os⟩ _ h1 q
    wp_walk using q1
    refine wpAny_stack_any fun st => wpAny_pure ?_
    split
    · rename_i c _ _ _ _ _
      cases (c == Value.type "enumerate")
      · wp_walk using q1
        exact ⟨_, rfl, h⟩
      · wp_walk using q1
        exact ⟨_, rfl, h⟩
    · wp_walk using q1
      exact ⟨_, rfl, h⟩
theorem call_enumT {l : Addr} {items : Array Value} {Q : Value → Shared → Prop} (hL : s.heap.IsTuple l items)
    (h : ∀ h', IsEnum h' (s.heap.objs.size + 1) s.heap.objs.size 0 .none → h'.IsTupleIter s.heap.objs.size l 0 → h'.objs.size = s.heap.objs.size + 2 →
      (∀ b o, s.heap.get? b = some o → h'.get? b = some o) → Q (.ref (s.heap.objs.size + 1)) { s with heap := h' }) :
    wpAny (model prog w) A (call (.type "enumerate") [.ref l]) Q E s := by
  refine callType_new F.called_enumerate (by decide) (F.typeCall_enumerate_1 _) (F.newCall_enumerate_1 _) (fun obj => F.args_object_init_2 obj _) F.entry_enumerate_new
    (meets_enum1 (PySem.begins_tuple l items)) ⟨hL, ?_⟩
  have hz : (s.heap.push { cls := .type "tuple_iterator", data := .fields #[.ref l, .int 0 0] }).objs.size = s.heap.objs.size + 1 := Heap.size_push ..
  show _ ∧ _
  rw [hz]
  have he : IsEnum ((s.heap.push { cls := .type "tuple_iterator", data := .fields #[.ref l, .int 0 0] }).push
      { cls := .type "enumerate", data := .fields #[.none, .bool false, .ref s.heap.objs.size, rawInt 0, .none, .none] }) (s.heap.objs.size + 1) s.heap.objs.size 0 .none := by
    have := Heap.get?_push_size (s.heap.push { cls := .type "tuple_iterator", data := .fields #[.ref l, .int 0 0] })
      (o := { cls := .type "enumerate", data := .fields #[.none, .bool false, .ref s.heap.objs.size, rawInt 0, .none, .none] }) rfl
    rw [hz] at this; exact this
  refine ⟨⟨_, he, rfl⟩, h _ he ⟨_, Heap.get?_push_of_some _ (Heap.get?_push_size _ rfl), rfl, rfl⟩ (by rw [Heap.size_push, hz]) fun b o x => Heap.get?_push_of_some _ (Heap.get?_push_of_some _ x)⟩
end
/-- the tuple at a, each item in a new pair -/
def IteT (K : Fg) (a : Addr) : It :=
  ⟨fun i H => ∃ (xs : List V) (x : V), SqT K H a xs ∧ xs[i]? = some x, fun i H v H' => ∃ T x, v = .ref T ∧ H T = none ∧ H' = upd H T (.tup [.int (i : Nat), x]) ∧ ∀ xs, SqT K H a xs → xs[i]? = some x, fun i H => ∃ xs : List V, SqT K H a xs ∧ xs.length = i⟩
theorem turn_enumT {P : Program} {w : World} {K : Fg} {elts : List Expr} {kk : Nat} {tpos : Pos} (a e it : Addr) :
    Turn P w K (.Tuple elts kk tpos) (IteT K a) [e, it] e (fun i h => (∃ old, IsEnum h e it ((i : Nat) : Int) old) ∧ h.IsTupleIter it a i ∧ e ≠ it ∧ a ≠ it ∧ e ≠ a) where
  mem := by simp
  obj := fun i h st b hb => by
    obtain ⟨⟨old, he⟩, ⟨o, ho, hc, hd⟩, _⟩ := st
    have e' : b = e ∨ b = it := by simpa using hb
    rcases e' with z | z
    · rw [z]; exact ⟨_, he, fun v q => nomatch q⟩
    · rw [z]; exact ⟨o, ho, fun v q => by rw [hd] at q; cases q⟩
  keep := fun i h h' st k => let ⟨⟨old, he⟩, hi, hne⟩ := st; ⟨⟨old, k e (by simp) _ he⟩, hi.at fun o q => k it (by simp) o q, hne⟩
  item := by
    intro X hP hw hK hc i pins s σ H E I hf st hg
    subst hP hw hK
    obtain ⟨⟨old, he⟩, hit, hne, hai, hea⟩ := st
    obtain ⟨xs, x, hq, hx⟩ := hg
    obtain ⟨its, rv, p, hz⟩ := I.tuple hq
    obtain ⟨u, hu, ru⟩ := rv.get hx
    have hel : e < s.heap.objs.size := Heap.lt_size he
    have hil : it < s.heap.objs.size := by obtain ⟨_, q, _⟩ := hit; exact Heap.lt_size q
    have il : i < its.toArray.size := by have := (List.getElem?_eq_some_iff.mp hu).1; simpa using this
    refine wpAny_pyNext_enum_itemD (PySem.Draws.tuple (A := X.A.in1) (I.ok.hd hc) it a hai its.toArray) he ⟨hit, p⟩ il hne (by simp [hne, hea]) fun x' h' tk hx' ho hit' hT hsz hk => ?_
    have ex : x' = u := by
      have h1 : its.toArray[i]? = some u := by simpa using hu
      rw [h1] at hx'; cases hx'; rfl
    subst ex
    refine ⟨_, rfl, wpAny_letOwnedTupleGo_enum (s := { s with heap := h', toks := tk + 1 }) ho fun h'' he' sb => ?_⟩
    have hT2 : h''.get? s.heap.objs.size = some { cls := .type "tuple", data := .seq #[.int i tk, x'] } := (sb.2 _ (Nat.ne_of_gt hel)).trans hT
    have new : ObjOk X.prog X.w (upd H s.heap.objs.size (.tup [.int (i : Nat), x])) h'' s.heap.objs.size (.tup [.int (i : Nat), x]) :=
      ⟨by show 2 ≤ sizeLine; decide, [.int i tk, x'], .cons ⟨_, rfl⟩ (.cons ru .nil), ⟨_, hT2, rfl, _, rfl⟩⟩
    have I1 : Inv X pins σ (upd H s.heap.objs.size (.tup [.int (i : Nat), x])) { s with heap := h'', toks := tk + 1 } :=
      I.turnedNew (ch := [e, it]) (fun b ob hb q => (sb.2 b (fun z => hb (by simp [z]))).trans (hk b ob (fun z => hb (by simp [z])) (fun z => hb (by simp [z])) q)) hf (Nat.le_refl _) new
    refine ⟨.ref s.heap.objs.size, _, I1, rfl, ⟨_, x, rfl, I.hok.fresh (Nat.le_refl _), rfl, fun ys hy => by rw [I.tuple_inj hy hq]; exact hx⟩, ⟨⟨x', ?_⟩, hit'.1.at fun o q => (sb.2 it (Ne.symm hne)).trans q, hne, hai, hea⟩, fun b hb => ?_⟩
    · have e1 : ((i + 1 : Nat) : Int) = (i : Int) + 1 := by omega
      rw [e1]; exact he'
    · have hb' : b < s.heap.objs.size := by
        have e' : b = e ∨ b = it := by simpa using hb
        rcases e' with z | z
        · rw [z]; exact hel
        · rw [z]; exact hil
      rw [upd_ne (Nat.ne_of_lt hb')]
      exact (hf b hb).1
  done := by
    intro X hP hw hK hc i pins s σ H E I hf st hg
    subst hP hw hK
    obtain ⟨⟨old, he⟩, hit, hne, hai, hea⟩ := st
    obtain ⟨xs, hq, hx⟩ := hg
    obtain ⟨its, rv, p, hz⟩ := I.tuple hq
    obtain ⟨f0, f1, f2, f3, f4, f5⟩ := hf it (by simp)
    have hl := rv.length
    have hi : i = its.toArray.size := by simp; omega
    subst hi
    exact wpAny_pyNext_enum_endD (PySem.Draws.tuple (A := X.A.in1) (I.ok.hd hc) it a hai its.toArray) he ⟨hit, p⟩ fun h' eb => ⟨rfl, I.turned (t' := s.toks) (fun b o hb q => eb b o hb q) f0 f1 f3 f4 f5⟩
  self := fun A i s Q E st h => let ⟨⟨_, he⟩, _⟩ := st; wpAny_pyIter_enum he h
def iEnumT (K : Fg) (ta : TA) : TI := fun σ H R => ta σ H fun vs H1 => ∃ a xs, vs = [.ref a] ∧ ((SqL K H1 a xs ∧ R (Ite K a) H1) ∨ (SqT K H1 a xs ∧ R (IteT K a) H1))
theorem pi_enumT {X : Cx} {e : Expr} {ta : TA} {p pos tpos : Pos} {elts : List Expr} {kk : Nat} (hg : Gl X "enumerate") (hm : X.mg "enumerate" = none) (ha : PA X [e] ta) (hs : starEach [e] X.env = [(false, eval e X.env)] := by rfl) :
    PI X (.Tuple elts kk tpos) (.Call (.Name "enumerate" p) [e] [] pos) (iEnumT X.K ta) := by
  refine ⟨fun pins s σ H R I h => ?_⟩
  refine Call_ (ld_blt I hg hm boot_enumerate (PyProof.Rows.callWith_type1 (thn (ha.run pos pins s σ H _ I h) fun us s1 ⟨vs, H1, I1, r1, q1⟩ => ?_) hs rfl))
  obtain ⟨a, xs, ex, q1⟩ := q1
  subst ex
  cases r1 with
  | cons r rr =>
    cases rr
    cases r
    have fp : ∀ b ∈ [s1.heap.objs.size + 1, s1.heap.objs.size], FpOk X pins H1 b := fun b hb => by
      have e' : b = s1.heap.objs.size + 1 ∨ b = s1.heap.objs.size := by simpa using hb
      have hle : s1.heap.objs.size ≤ b := by
        rcases e' with z | z
        · rw [z]; exact Nat.le_add_right _ _
        · rw [z]; exact Nat.le_refl _
      exact I1.fpOk hle (I1.hok.fresh hle)
    rcases q1 with ⟨hq, q⟩ | ⟨hq, q⟩
    · obtain ⟨its, rv, p', hz⟩ := I1.list hq
      refine call_enumerate_list p'.isList fun h' he hit hsz hk => wpAny_pyIter_enum he ?_
      have I2 : Inv X pins σ H1 { s1 with heap := h' } := I1.kept (t' := s1.toks) hk
      exact ⟨s1.heap.objs.size + 1, [s1.heap.objs.size + 1, s1.heap.objs.size], _, _, H1, rfl, I2, turn_enum a (s1.heap.objs.size + 1) s1.heap.objs.size, ⟨⟨.none, he⟩, hit, Nat.succ_ne_self _⟩, fp, q⟩
    · obtain ⟨its, rv, p', hz⟩ := I1.tuple hq
      obtain ⟨o1, ho1, _⟩ := id p'
      have hlt := Heap.lt_size ho1
      refine call_enumT (show s1.heap.IsTuple a its.toArray from p') fun h' he hit hsz hk => wpAny_pyIter_enum he ?_
      have I2 : Inv X pins σ H1 { s1 with heap := h' } := I1.kept (t' := s1.toks) hk
      exact ⟨s1.heap.objs.size + 1, [s1.heap.objs.size + 1, s1.heap.objs.size], _, _, H1, rfl, I2, turn_enumT a (s1.heap.objs.size + 1) s1.heap.objs.size, ⟨⟨.none, he⟩, hit, Nat.succ_ne_self _, Nat.ne_of_lt hlt, Nat.ne_of_gt (Nat.lt_succ_of_lt hlt)⟩, fp, q⟩
/-! over data -/
def enumD (xs : List D) : List D := (List.range xs.length).zipWith (fun i x => .tuple [.int ((i : Nat) : Int), x]) xs
theorem enumD_len {xs : List D} : (enumD xs).length = xs.length := by unfold enumD; simp
theorem enumD_get {xs : List D} {i : Nat} {x : D} (h : xs[i]? = some x) : (enumD xs)[i]? = some (.tuple [.int (i : Nat), x]) := by
  have hi := (List.getElem?_eq_some_iff.mp h).1
  unfold enumD
  rw [List.getElem?_zipWith, List.getElem?_range hi, h]
section
variable {X : Cx} {F : Fx} {e a b : Expr} {tA : DTA} {p pos tpos : Pos}
theorem itok_enum {K : Fg} {H : Hp} {O : List Addr} {a : Addr} {vs : List V} {xs : List D} (lo : LO O H) (h : LsA H O a vs) (r : RpL K H O vs xs) (hz : xs.length ≤ 16777216) : ItOk false K (Ite K a) (enumD xs) O H where
  len := by rw [enumD_len, sizeLine_eq]; omega
  go := fun H2 O2 lo2 hs i hi => by
    rw [enumD_len] at hi
    have h2 : SqL K H2 a vs := .inl (.inl (hs.kp a _ h.1 h.2))
    obtain ⟨v, ev, rv⟩ := (hs_rpl lo hs r).get (List.getElem?_eq_getElem hi)
    refine ⟨⟨vs, v, h2, ev⟩, fun x H3 hy => ?_⟩
    obtain ⟨T, x1, e1, hT, e2, f1⟩ := hy
    subst e1 e2
    have q1 := f1 vs h2
    rw [ev] at q1; cases q1
    have sm := same_new (o := .tup [.int (i : Nat), v]) hT
    refine ⟨_, enumD_get (List.getElem?_eq_getElem hi), sm, T, [.int (i : Nat), v], _, rfl, rfl, .inl (.inl upd_same), ?_⟩
    exact .cons (.int _) (.cons (Rp.mv lo2 (same_keep sm) grow_refl rv) .nil)
  stop := fun H2 O2 lo2 hs => ⟨vs, .inl (.inl (hs.kp a _ h.1 h.2)), by rw [enumD_len, r.length]; omega⟩
theorem itok_enumT {K : Fg} {H : Hp} {O : List Addr} {a : Addr} {vs : List V} {xs : List D} (lo : LO O H) (h : SqT K H a vs) (r : RpL K H O vs xs) (hz : xs.length ≤ 16777216) : ItOk false K (IteT K a) (enumD xs) O H where
  len := by rw [enumD_len, sizeLine_eq]; omega
  go := fun H2 O2 lo2 hs i hi => by
    rw [enumD_len] at hi
    have h2 : SqT K H2 a vs := SqT.mv lo hs.kp h
    obtain ⟨v, ev, rv⟩ := (hs_rpl lo hs r).get (List.getElem?_eq_getElem hi)
    refine ⟨⟨vs, v, h2, ev⟩, fun x H3 hy => ?_⟩
    obtain ⟨T, x1, e1, hT, e2, f1⟩ := hy
    subst e1 e2
    have q1 := f1 vs h2
    rw [ev] at q1; cases q1
    have sm := same_new (o := .tup [.int (i : Nat), v]) hT
    refine ⟨_, enumD_get (List.getElem?_eq_getElem hi), sm, T, [.int (i : Nat), v], _, rfl, rfl, .inl (.inl upd_same), ?_⟩
    exact .cons (.int _) (.cons (Rp.mv lo2 (same_keep sm) grow_refl rv) .nil)
  stop := fun H2 O2 lo2 hs => ⟨vs, SqT.mv lo hs.kp h, by rw [enumD_len, r.length]⟩
def dEnum (tA : DTA) : DTI := fun ds Q => tA ds fun xs ds1 => match frzL ds1 xs with
  | some ([.list xs], ds2) => xs.length ≤ 16777216 ∧ Q (enumD xs) ds2
  | some ([.tuple xs], ds2) => xs.length ≤ 16777216 ∧ Q (enumD xs) ds2
  | _ => False
theorem di_enum {elts : List Expr} {kk : Nat} (hg : Gl X "enumerate") (hm : X.mg "enumerate" = none) (ha : DA X F [a] tA) (hs : starEach [a] X.env = [(false, eval a X.env)] := by rfl) :
    DI false X F (.Tuple elts kk tpos) (.Call (.Name "enumerate" p) [a] [] pos) (dEnum tA) :=
  PI_imp (pi_enumT hg hm ha hs) fun σ H Q ⟨O, ds, Qa, R, ht, hq⟩ => ⟨O, ds, _, R, ht, fun xs ds1 vs H1 O1 s1 R1 rx hx => by
    split at hx
    · rename_i xs ds2 e
      obtain ⟨O2, s2, R2, rl, _⟩ := frzL_ok R s1 R1 rx e
      cases rl with
      | cons r1 rl =>
        cases rl
        cases r1 with
        | lst h1 l1 => exact ⟨_, _, rfl, .inl ⟨.inl (.inl h1.1), hq _ ds2 H1 O2 _ s2 R2 (itok_enum R2.lo h1 l1 hx.1) hx.2⟩⟩
    · rename_i xs ds2 e
      obtain ⟨O2, s2, R2, rl, _⟩ := frzL_ok R s1 R1 rx e
      cases rl with
      | cons r1 rl =>
        cases rl
        cases r1 with
        | tup h1 l1 => exact ⟨_, _, rfl, .inr ⟨TpA.seq h1, hq _ ds2 H1 O2 _ s2 R2 (itok_enumT R2.lo (TpA.seq h1) l1 hx.1) hx.2⟩⟩
    · exact hx.elim⟩
end
end SF

/-! SL37: x[i], x[j] = a, b. -/
namespace SF
open PySem PySem.Spec PyProof.Rows L2
section
variable {X : Cx} {F : Fx}
def dPutIx (k : Nat) (ti : DTE) (d : D) (N : DS → Prop) : DS → Prop := fun ds => match ds.sl[k]? with
  | some (some (.own _)) => ti ds fun x ds2 => match ds2.sl[k]?, peek ds2 x with
    | some (some (.own xs)), some (.int i) => someD (ixN xs.length i) fun j => N ⟨ds2.sl.set k (some (.own (xs.set j d))), ds2.n⟩
    | _, _ => False
  | _ => False
theorem put_ix {K : Fg} {H : Hp} {O : List Addr} {σ : St} {ds : DS} {v : V} {d : D} {k : Nat} {ti : DTE} {N : DS → Prop} {Q : St → Hp → Prop} (R : Rep K F H O σ ds) (rv : Rp K H O v d) (h : dPutIx k ti d N ds)
    (hq : ∀ O' ds' H', Step σ H O ds H' O' ds' → Rep K F H' O' σ ds' → N ds' → Q σ H') : gSub (tVar k) (lift K F ti) rSetL v σ H Q := by
  unfold dPutIx at h
  split at h
  · rename_i xs0 e0
    obtain ⟨w, ew, q, vs0, e2, hO, hH, hL⟩ := R.sl k _ e0
    subst e2
    refine ⟨_, ew, O, ds, _, R, h, fun x ds2 u H2 O2 s2 R2 rx hx => ?_⟩
    split at hx
    · rename_i xs i ek ei
      cases ej : ixN xs.length i with
      | none => rw [ej] at hx; exact hx.elim
      | some j =>
        rw [ej] at hx
        have eu : u = .int i := (RpV.vw R2 rx ei).int
        obtain ⟨w3, ew3, q3, vs3, e3, hO3, hH3, hL3⟩ := R2.sl k _ ek
        rw [ew] at ew3; cases ew3; cases e3
        obtain ⟨R4, s4⟩ := R2.updO ew ek (RpL.set (Rp.mv R.lo (s2.keepO R) s2.o1 rv) j hL3)
        exact ⟨q, vs3, i, j, rfl, eu, hH3, by rw [hL3.length]; exact ej, hq _ _ _ (s2.trans s4) R4 hx⟩
    · exact hx.elim
  · exact h.elim
def dSwap (k : Nat) (ti1 ti2 : DTE) (tA : DTA) : DTS := fun E ds => dTup tA ds fun v ds1 => match v with
  | .d (.tuple [x, y]) => dPutIx k ti1 x (dPutIx k ti2 y E.nx) ds1
  | _ => False
theorem ds_swap {k : Nat} {st : Stmt} {ti1 ti2 : DTE} {tA : DTA} (h : PS X st (tAsg (lift X.K F (dTup tA)) (gTup X.K 2 (gCons (gSub (tVar k) (lift X.K F ti1) rSetL) (gCons (gSub (tVar k) (lift X.K F ti2) rSetL) gNil))))) :
    DSt X F st (dSwap k ti1 ti2 tA) := PS_imp h fun D σ H ⟨O, ds, E, R, ht, kk⟩ =>
  ⟨O, ds, _, R, ht, fun y ds1 v H1 O1 s1 R1 ry hy => by
    split at hy
    · rename_i x y
      obtain ⟨a, vs, e, hs, rl⟩ := Vw.tuple (.inl ry)
      subst e
      cases rl with
      | cons r1 rl =>
        cases rl with
        | cons r2 rl =>
          cases rl
          refine ⟨a, _, rfl, hs, rfl, _, _, rfl, put_ix R1 r1 hy fun O2 ds2 H2 s2 R2 h2 => ?_⟩
          refine ⟨_, _, rfl, put_ix R2 (Rp.mv R1.lo (s2.keepO R1) s2.o1 r2) h2 fun O3 ds3 H3 s3 R3 h3 => ?_⟩
          exact ⟨rfl, kk.nx O3 _ σ _ ((s1.trans (s2.trans s3)).hs R) R3 h3⟩
    · exact hy.elim⟩
theorem ps_swap {a b t1 t2 : Expr} {g1 g2 : TG} {tA : DTA} {kt k2 : Nat} {pt pt2 pos : Pos} (hc : X.calm = true) (hd : DA X F [a, b] tA) (h1 : PG X t1 g1) (h2 : PG X t2 g2)
    (hs : swapsWithSole [.Tuple [t1, t2] kt pt] (.Tuple [a, b] k2 pt2) pos.line X.env = pure false := by rfl) (hw : swappedStores [.Tuple [t1, t2] kt pt] (.Tuple [a, b] k2 pt2) X.env = pure none := by rfl)
    (ha : (assignEach [.Tuple [t1, t2] kt pt] X.env).map (·.2) = [assign (.Tuple [t1, t2] kt pt) X.env] := by rfl) (e1 : (assignEach [t1, t2] X.env).map (·.2) = assign t1 X.env :: (assignEach [t2] X.env).map (·.2) := by rfl) (e2 : (assignEach [t2] X.env).map (·.2) = assign t2 X.env :: (assignEach [] X.env).map (·.2) := by rfl)
    (hn : (assignEach [t1, t2] X.env).length = 2 := by rfl) (hst : (assignEach [t1, t2] X.env).findIdx? (·.1) = none := by rfl) :
    PS X (.Assign [.Tuple [t1, t2] kt pt] (.Tuple [a, b] k2 pt2) pos) (tAsg (lift X.K F (dTup tA)) (gTup X.K 2 (gCons g1 (gCons g2 gNil)))) :=
  ps_asg (de_tup hd) (pg_tup hc (pgs_cons h1 (pgs_cons h2 pgs_nil e2) e1) hn hst) hs hw ha
end
end SF

/-! SL38: isinstance(err, (C, ..)). -/
namespace SF
open PySem PySem.Spec PyProof.Rows L2
section
variable {X : Cx} {F : Fx}
def rIsXT (K : Fg) : List V → Hp → VK → Prop := fun xs H Q => ∃ (O : List Addr) (a c : Addr) (od : Option Addr) (fo : Option (Str × D)) (tp : Addr) (cs : List V) (us : List Value) (b : Bool), xs = [.ref a, .ref tp] ∧ H tp = some (.tup cs) ∧ Paired ClsV cs us ∧ H a = some (XO (.ref c) od a) ∧ Fld K H O od fo ∧ XC K c ∧ W.kitAny K (.ref c) us = some b ∧ Q (.bl b) H
theorem call_isXT : CallR X (.builtin "isinstance") (rIsXT X.K) := by
  intro pins s σ H xs us Q I r h
  obtain ⟨O, a, c, od, fo, tp, cs, ws, b, rfl, hT, k, h1, f, T, hk, q⟩ := h
  cases r with
  | cons rx rr =>
    cases rr with
    | cons rt rr =>
      cases rr
      cases rx
      cases rt
      obtain ⟨oe, odx, J⟩ := xo_at I h1 f
      obtain ⟨_, its, rv, o, h1', h2, n, h3⟩ := (show ObjOk X.prog X.w H s.heap tp (.tup cs) from I.hok tp _ hT)
      have e3 := ClsV.all k rv
      subst e3
      obtain ⟨oc, od', dt, sl⟩ := o
      simp only at h2 h3
      subst h2 h3
      exact W.kia_tup (W.kitx_exc T.cl T.ga T.gt T.sub T.ca T.sp T.tk T.mo) I.kIn J h1' hk (fun z => nomatch z) fun tk => ⟨.bl b, H, I.kept (t' := tk) fun _ _ z => z, rfl, q⟩
def tCs (us : List V) : TA := fun _ H Q => Q us H
theorem pcs_nil : PA X [] (tCs []) := pa_nil
theorem pcs_cons {e : Expr} {es : List Expr} {u : V} {us : List V} (he : PE X e (tC u)) (hr : PA X es (tCs us)) (hs : starEach (e :: es) X.env = (false, eval e X.env) :: starEach es X.env := by rfl) : PA X (e :: es) (tCs (u :: us)) := pa_cons he hr hs
theorem kit_list {K : Fg} {t : Value} {f : Str → Bool} : ∀ {us : List Value} {qs : List Str}, Paired (fun u q => W.kitOne K t u = some (f q)) us qs → W.kitAny K t us = some (qs.any f)
  | _, _, .nil => rfl
  | _, _, .cons (a := u) (b := q) h r => by
    rw [List.any_cons]
    cases e : f q with
    | true => exact kitAny_cons (h.trans (by rw [e])) (fun z => by cases z) fun _ => rfl
    | false => exact kitAny_cons (h.trans (by rw [e])) (fun _ => by rw [Bool.false_or]; exact kit_list r) fun z => by cases z
@[irreducible] def dIsXs (ms : List Str) (isa : Str → Str → Bool) (i : Nat) (qs : List Str) : DTE := fun ds Q => match ds.sl[i]? with
  | some (some (.exc n _)) => ms.contains n = true ∧ Q (.d (.bool (qs.any (isa n)))) ds
  | _ => False
theorem de_isXs {ms : List Str} {isa : Str → Str → Bool} {i : Nat} {qs : List Str} {e : Expr} {cs : List Expr} {us : List V} {ws : List Value} {p tp pos : Pos} {x1} (hg : Gl X "isinstance") (hm : X.mg "isinstance" = none) (he : PE X e (tVar i)) (hc : PA X cs (tCs us)) (hl : us.length ≤ 1000) (hv : Paired ClsV us ws)
    (hx : ∀ n c, ms.contains n = true → Cl X.K n c → XC X.K c ∧ Paired (fun u q => W.kitOne X.K (.ref c) u = some (isa n q)) ws qs)
    (hs : starEach [e, .Tuple cs x1 tp] X.env = (false, eval e X.env) :: starEach [.Tuple cs x1 tp] X.env := by rfl) (hs2 : starEach [.Tuple cs x1 tp] X.env = (false, eval (.Tuple cs x1 tp) X.env) :: starEach [] X.env := by rfl) (hpl : (backTo pos (starEach [.Tuple cs x1 tp] X.env)).any (·.1) = false := by rfl) :
    DE X F (.Call (.Name "isinstance" p) [e, .Tuple cs x1 tp] [] pos) (dIsXs ms isa i qs) :=
  PE_imp (pe_callB call_isXT hg hm rfl (pa_cons he (pa_cons (pe_tup hc) pa_nil hs2) hs) (by decide) (by decide) hs hpl) fun σ H Q ⟨O, ds, Qa, R, ht, hq⟩ => by
    unfold dIsXs at ht
    split at ht
    · rename_i n fo en
      obtain ⟨v, ev, a, cc, od, e1, e2, e3, e4⟩ := R.sl i _ en
      subst e1
      obtain ⟨t1, t2⟩ := hx n cc ht.1 e2
      refine ⟨.ref a, ev, Nat.le_trans hl k_line, fun q hq' => ?_⟩
      have sm := same_new (o := .tup us) hq'
      have R2 := R.grow sm grow_refl (fun _ h => h) (lo_same R.lo sm)
      have s2 : Step σ H O ds _ O ds := Step.grow sm grow_refl fun _ h => h
      have e3' := sm _ _ e3
      exact ⟨O, a, cc, od, fo, q, us, ws, _, rfl, upd_same, hv, e3', e4.mv R.lo (same_keep sm) grow_refl, t1, kit_list t2, hq (.d (.bool (qs.any (isa n)))) ds _ _ O s2 R2 (.bl _) ht.2⟩
    · exact ht.elim
end
theorem isxs_in {ms : List Str} {isa : Str → Str → Bool} {i : Nat} {qs : List Str} {n : Str} {fo : Option (Str × D)} {b : Bool} {ds : DS} {Q : DV → DS → Prop} (hs : ds.sl[i]? = some (some (.exc n fo))) (hm : ms.contains n = true) (hb : qs.any (isa n) = b) (h : Q (.d (.bool b)) ds) : dIsXs ms isa i qs ds Q := by
  unfold dIsXs
  rw [hs]
  exact ⟨hm, by rw [hb]; exact h⟩
end SF

/-! SL39: subscripts, in, len as words that are not looked through; in for data of any depth. -/
namespace SF
open PySem PySem.Spec PyProof.Rows L2
section
variable {X : Cx} {F : Fx} {a b e : Expr} {ta tb : DTE} {pos : Pos}
@[irreducible] def gIx : F2 := fIx
theorem gIx_i {d e : D} {Q : DV → Prop} (h : fIx d e Q) : gIx d e Q := by unfold gIx; exact h
theorem gIx_eq : gIx = fIx := by unfold gIx; rfl
theorem de_gix (ha : DE X F a ta) (hb : DE X F b tb) (hs : PlainIx b) : DE X F (.Subscript a b pos) (dOp2 gIx ta tb) := by rw [gIx_eq]; exact de_ix ha hb hs
@[irreducible] def gIn : F2 := fIn
@[irreducible] def gNotIn : F2 := fNotIn
theorem gIn_i {d e : D} {Q : DV → Prop} (h : fIn d e Q) : gIn d e Q := by unfold gIn; exact h
theorem gNotIn_i {d e : D} {Q : DV → Prop} (h : fNotIn d e Q) : gNotIn d e Q := by unfold gNotIn; exact h
theorem cd_gin : CmpD X .In gIn := by unfold gIn; exact cd_in
theorem cd_gnotIn : CmpD X .NotIn gNotIn := by unfold gNotIn; exact cd_notIn
@[irreducible] def gLen : FN := fLen
theorem gLen_i {xs : List D} {Q : DV → Prop} (h : fLen xs Q) : gLen xs Q := by unfold gLen; exact h
theorem bd_glen : BlD X (.builtin "len") gLen := by unfold gLen; exact bd_len
theorem RoomG.units65 {k : Nat} {A : Around} (h : RoomG k A) : A.units + 65 < cLine := by have := h.rm.un; omega
/-! in, deep -/
@[irreducible] def gInD : F2 := fun x d Q => match d with
  | .list xs => SeqAt.shaped x = true ∧ SeqAt.shaped (.list xs) = true ∧ Q (.d (.bool (xs.any fun z => PyData.eqv z x)))
  | _ => False
@[irreducible] def gNotInD : F2 := fun x d Q => match d with
  | .list xs => SeqAt.shaped x = true ∧ SeqAt.shaped (.list xs) = true ∧ Q (.d (.bool (!xs.any fun z => PyData.eqv z x)))
  | _ => False
theorem gInD_i {x : D} {xs : List D} {Q : DV → Prop} (h1 : SeqAt.shaped x = true) (h2 : SeqAt.shaped (.list xs) = true) (q : Q (.d (.bool (xs.any fun z => PyData.eqv z x)))) : gInD x (.list xs) Q := by unfold gInD; exact ⟨h1, h2, q⟩
theorem gNotInD_i {x : D} {xs : List D} {Q : DV → Prop} (h1 : SeqAt.shaped x = true) (h2 : SeqAt.shaped (.list xs) = true) (q : Q (.d (.bool (!xs.any fun z => PyData.eqv z x)))) : gNotInD x (.list xs) Q := by unfold gNotInD; exact ⟨h1, h2, q⟩
theorem cd_ginD (hu : X.A.units + 65 < cLine) : CmpD X .In gInD := ⟨_, op_inD hu, by
  intro H O x y d e Qa Q lo wx wy hf k
  unfold gInD at hf
  split at hf
  · exact ⟨d, _, wx.dp, wy.dp, hf.1, hf.2.1, k.d _ _ (.bl _) hf.2.2⟩
  · exact hf.elim⟩
theorem cd_gnotInD (hu : X.A.units + 65 < cLine) : CmpD X .NotIn gNotInD := ⟨_, op_notInD hu, by
  intro H O x y d e Qa Q lo wx wy hf k
  unfold gNotInD at hf
  split at hf
  · exact ⟨d, _, wx.dp, wy.dp, hf.1, hf.2.1, k.d _ _ (.bl _) hf.2.2⟩
  · exact hf.elim⟩
end
end SF

/-! SL40: defs with one default, the empty tuple. -/
namespace SF
open PySem PySem.Spec PyProof.Rows L2
/-- an empty tuple that stands in the written part -/
def Ety (K : Fg) (z : V) : Prop := ∃ a, z = .ref a ∧ SqT K noH a [] ∧ ∃ o, K.lookup a = some o ∧ o.dict = none
theorem Ety.rp {K : Fg} {z : V} {H : Hp} {O : List Addr} (h : Ety K z) : Rp K H O z (.tuple []) := by
  obtain ⟨a, rfl, h1, h2⟩ := h
  exact .tup (.inr ⟨h1, h2⟩) .nil
structure PrE (P : Program) (w : World) (K : Fg) (mg : Str → Option Value) (base : Heap) (k : Nat) (x : Str) (st : Stmt) (ps : List Str) (dsp : DSp) : Prop where
  ex : ∃ f fd z dd, FnG P w K mg base (L2.CX P w) k f fd ps (spD K mg dsp) ∧ PySem.W.keepIn K (.ref f) = true ∧ mg x = some (.ref f) ∧ Binds K fd ps [] ∧ Vals [z] dd ∧ Binds K fd ps dd ∧ Ety K z
structure DfE (K : Fg) (mg : Str → Option Value) (x : Str) (st : Stmt) (ps : List Str) : Prop where
  ex : ∃ f fd z dd, FunD K x x (defArgs st) (defBody st) (defScope st) [z] [] f fd ∧ mg x = some (.ref f) ∧ Binds K fd ps [] ∧ Vals [z] dd ∧ Binds K fd ps dd ∧ Ety K z
section
variable {P : Program} {w : World} {K : Fg} {mg : Str → Option Value} {base : Heap} {k : Nat} {x : Str} {st : Stmt} {N ps : List Str} {dsp : DSp}
theorem PrE.mono {j : Nat} (h : PrE P w K mg base k x st ps dsp) (hj : k ≤ j) : PrE P w K mg base j x st ps dsp := by
  obtain ⟨f, fd, z, dd, G, r⟩ := h.ex
  exact ⟨f, fd, z, dd, G.mono hj, r⟩
theorem fnG_ofD {CX : CXT} {qual : Str} {dvs : List V} {kws : List (Str × V)} {f : Addr} {fd : FuncData} {sp : Sp} (Fu : FunD K x qual (defArgs st) (defBody st) (defScope st) dvs kws f fd) (S : FnScope N ps (defScope st)) (len : ∀ vs H Q E, sp vs H Q E → vs.length = ps.length)
    (hbody : ∀ (cdv : Value) (A : Around) (outer : List Env) (s : Shared) (H : Hp) (vs : List V) (Q : VK) (E : XK), RoomG k (A.deeper (envOfC qual (defScope st) s.heap.objs.size f cdv)) → sp vs H Q E →
      ∃ t, PSs (cxOf CX P w K mg base N qual (defScope st) f cdv A outer s H E) (defBody st) t ∧ t { nx := fun _ H' => Q .non H', rt := Q } (start N vs) H) : FnG P w K mg base CX (k + 1) f fd ps sp := by
  obtain ⟨oc, od, dV, kV, doc, pm, an, cdv, ct, osl, efd, lk, hcd, _, _⟩ := Fu.ex
  constructor
  · exact len
  intro A outer s H args us vs Q E hr e0 hb r hsp
  subst efd
  have old : ∀ b o, base.get? b = some o → s.heap.get? b = some o := fun b o e => (e0.bs b o e).1
  have KX : K.In s.heap := e0.mod.kin.keeps old
  have lim : s.heap.NoLimit := e0.mod.nolimit.keeps old
  refine codeAny_call_function hr.rm.depth (KX _ _ lk) rfl S.co S.gen rfl (PySem.W.codeRec_of KX hcd) (hb _ _ _ _ ?_)
  refine wpAny_newFunctionEnv_cells S.kind ?_ ?_
  · rintro ⟨n, v⟩ hy
    exact (S.par n (List.of_mem_zip hy).1).elim .inl fun q => .inr ⟨q, PySem.W.cellsFrom_some _ _ _ (.inl q)⟩
  rintro env rfl s1 x1
  obtain ⟨t, ht, hq⟩ := hbody cdv A outer s H vs Q E ⟨hr.rm.deeper _, hr.gd⟩ hsp
  have I := inv_start (CX := CX) (E := E) S hr.rm.hd e0 (len _ _ _ _ hsp) r x1
  refine ⟨lim.keeps x1.toInCall.keep, codeAny_func (wpAny_mono (ht.run [] s1 _ H _ I hq) ?_ fun e s' z => z)⟩
  intro fl s' hs
  cases fl with
  | ret u => obtain ⟨v, σ', H', J, rv, q⟩ := hs; exact ⟨v, H', J.os, J.bare, J.base, J.hok, rv, q⟩
  | next => obtain ⟨σ', H', J, q⟩ := hs; exact ⟨.non, H', J.os, J.bare, J.base, J.hok, rfl, q⟩
  | brk => obtain ⟨_, _, _, q⟩ := hs; exact q.elim
  | cont => obtain ⟨_, _, _, q⟩ := hs; exact q.elim
theorem DfE.prX {t : EA → DTS} (D : DfE K mg x st ps) (S : FnScope N ps (defScope st)) (len : ∀ args n Q E, dsp args n Q E → args.length = ps.length)
    (der : ∀ (f : Addr) (cdv : Value) (A : Around) (outer : List Env) (s : Shared) (H : Hp) (E : XK) (F : Fx) (Ea : EA), RoomG k (A.deeper (envOfC x (defScope st) s.heap.objs.size f cdv)) → TakesD (cxOf (L2.CX P w) P w K mg base N x (defScope st) f cdv A outer s H E) F Ea →
      DSs (cxOf (L2.CX P w) P w K mg base N x (defScope st) f cdv A outer s H E) F (defBody st) (t Ea))
    (rd : ∀ args n Qa Ea, dsp args n Qa Ea → t (fun nm fo ds => Ea nm fo ds.n) ⟨fun ds => Qa (.d .none) ds.n, fun r ds => Qa r ds.n, fun _ => False, fun _ => False⟩ (startD N.length args n)) : PrE P w K mg base (k + 1) x st ps dsp := by
  obtain ⟨f, fd, z, dd, Fu, g, b, r, b2, et⟩ := D.ex
  have hlen : ∀ vs H Q E, spD K mg dsp vs H Q E → vs.length = ps.length := fun vs H Q E ⟨B, O, args, n, Qa, Ea, _, _, ha, _, hd, _⟩ => by rw [paired_len ha]; exact len _ _ _ _ hd
  refine ⟨f, fd, z, dd, fnG_ofD Fu S hlen fun cdv A outer s H vs Q E hr hsp => ?_, Fu.kp, g, b, r, b2, et⟩
  have hl := hlen vs H Q E hsp
  obtain ⟨B, O, args, n, Qa, Ea, lo, hb, ha, h1, hd, hq, hx⟩ := hsp
  have hpl : ps.length ≤ N.length := by have := congrArg List.length S.pre; rw [List.length_take] at this; omega
  have tk : TakesD (cxOf (L2.CX P w) P w K mg base N x (defScope st) f cdv A outer s H E) ⟨H, B, O⟩ (fun nm fo ds => Ea nm fo ds.n) := by
    refine Takes.imp (takes_of (E := E) rfl rfl rfl rfl) fun cv od σ' H' ⟨nm, fo, O', ds', R', ⟨c, x1, x2, x3⟩, he⟩ => ?_
    exact hx nm fo ds'.n cv od H' R'.ext (fun b hb => R'.bx b hb) ⟨c, x1, x2, Fld.mv R'.lo keep_refl (less_grow R'.sub) x3⟩ he
  refine ⟨_, der f cdv A outer s H E ⟨H, B, O⟩ _ hr tk, O, _, _, rep_start lo hb ha h1 (by omega), rd args n Qa Ea hd, ?_⟩
  refine ⟨fun O' ds' σ' H' a R' q => ?_, fun O' ds' σ' H' v dv a R' r q => ?_, fun _ _ _ _ _ _ q => q, fun _ _ _ _ _ _ q => q⟩
  · exact hq (.d .none) ds'.n .non H' R'.ext (fun b hb => R'.bx b hb) .non q
  · exact hq dv ds'.n v H' R'.ext (fun b hb => R'.bx b hb) r q
end
theorem paired_snoc {α β : Type} {R : α → β → Prop} {a : α} {b : β} (h : R a b) : ∀ {xs : List α} {ys : List β}, Paired R xs ys → Paired R (xs ++ [a]) (ys ++ [b])
  | _, _, .nil => .cons h .nil
  | _, _, .cons q r => .cons q (paired_snoc h r)
theorem perm_dfl {K : Fg} {z : V} (h : Ety K z) : Perm' K (fun vs => vs ++ [z]) (fun as => as ++ [.d (.tuple [])]) := ⟨fun p => paired_snoc (show ArgD K _ _ _ z (.d (.tuple [])) from h.rp) p⟩
section
variable {X : Cx} {F : Fx} {k : Nat} {x : Str} {st : Stmt} {ps ks : List Str} {dsp : DSp} {p pos : Pos} {e : Expr} {es : List Expr} {kws : List Keyword} {tA : DTA}
/-- all given -/
theorem de_callE0 (I : PrE X.prog X.w X.K X.mg X.base k x st ps dsp) (hr : RoomG k X.A) (hg : Gl X x) (ha : DA X F (e :: es) tA) (hdb : (x == ("__debug__" : Str)) = false := by decide) (he : starEach (e :: es) X.env = (false, eval e X.env) :: starEach es X.env := by rfl) (hpl : (backTo pos (starEach es X.env)).any (·.1) = false := by rfl) :
    DE X F (.Call (.Name x p) (e :: es) [] pos) (dCall dsp (fun as => as) tA) := by
  obtain ⟨f, fd, z, dd, G, kp, g, b, _⟩ := I.ex
  exact de_call G hr hg g kp b passX ha hdb he hpl
/-- all but the last -/
theorem de_callE (I : PrE X.prog X.w X.K X.mg X.base k x st ps dsp) (hr : RoomG k X.A) (hg : Gl X x) (ha : DA X F (e :: es) tA) (hdb : (x == ("__debug__" : Str)) = false := by decide) (he : starEach (e :: es) X.env = (false, eval e X.env) :: starEach es X.env := by rfl) (hpl : (backTo pos (starEach es X.env)).any (·.1) = false := by rfl) :
    DE X F (.Call (.Name x p) (e :: es) [] pos) (dCall dsp (fun as => as ++ [.d (.tuple [])]) tA) := by
  obtain ⟨f, fd, z, dd, G, kp, g, b, r, b2, et⟩ := I.ex
  exact PE_imp (pe_callG G hr hg g kp b2 r passX ha hdb he hpl) fun σ H Q ⟨O, ds, Qa, R, ht, hq⟩ => ⟨O, ds, _, R, ht, fun xs ds1 vs H1 O1 s1 R1 rx hx => by
    cases ea : argsOf ds1 xs with
    | none => rw [ea] at hx; exact hx.elim
    | some args =>
      rw [ea] at hx
      exact call_core (gV := fun vs => vs ++ [z]) (perm_dfl et) R s1 R1 rx ea hx hq⟩
end
/-- from what K says -/
theorem dfe_mk {K : Fg} {mg : Str → Option Value} {h : Heap} {x : Str} {st : Stmt} {ps : List Str} {f T E : Addr} {od an odT odE : Option Addr} {sl slT slE : Array (Option Value)} {oc ocT ocE kV dc pm cd ct : Value} {nT nE : Nat} (X : K.In h) (G : h.Ns mainGlobals mg) (m : Nat) (hps : ps.length = m + 1)
    (hb : ∀ (kV dc pm : Value) (an : Option Addr) (cd ct : Value) (us its : List Value), us.length = m → its.length = 1 → ∃ k, bindArgs (PySem.W.fnOf x x (defArgs st) (defBody st) (defScope st) (.ref T) kV dc pm an cd ct) ⟨us, []⟩ = seqItems? (.ref T) >>= k ∧ k (some its.toArray) = pure (ps.zip (us ++ its.drop 0)))
    (hb1 : ∀ (kV dc pm : Value) (an : Option Addr) (cd ct : Value) (us its : List Value), us.length = m + 1 → its.length = 1 → ∃ k, bindArgs (PySem.W.fnOf x x (defArgs st) (defBody st) (defScope st) (.ref T) kV dc pm an cd ct) ⟨us, []⟩ = seqItems? (.ref T) >>= k ∧ k (some its.toArray) = pure (ps.zip (us ++ its.drop 1)))
    (a : PySem.W.nsIn K mainGlobals x = some (some (.ref f))) (l : K.lookup f = some ⟨oc, od, .func (PySem.W.fnOf x x (defArgs st) (defBody st) (defScope st) (.ref T) kV dc pm an cd ct), sl⟩) (c : PySem.W.codeIn K cd x = true) (k : PySem.W.keepIn K (.ref f) = true)
    (lT : K.lookup T = some ⟨ocT, odT, .seq #[.ref E] nT, slT⟩) (lE : K.lookup E = some ⟨.type "tuple", none, .seq #[] nE, slE⟩) : DfE K mg x st ps := by
  have Fu : FunD K x x (defArgs st) (defBody st) (defScope st) [.ref E] [] f _ := ⟨⟨oc, od, .ref T, kV, dc, pm, an, cd, ct, sl, rfl, l, c, .inr ⟨by simp, T, _, [.ref E], nT, rfl, lT, rfl, .cons rfl .nil⟩, .inl rfl⟩, k⟩
  have look : ∀ (j n : Nat), n + (1 - j) = ps.length → (∀ (us its : List Value), us.length = n → its.length = 1 → ∃ k, bindArgs (PySem.W.fnOf x x (defArgs st) (defBody st) (defScope st) (.ref T) kV dc pm an cd ct) ⟨us, []⟩ = seqItems? (.ref T) >>= k ∧ k (some its.toArray) = pure (ps.zip (us ++ its.drop j))) →
      Binds K (PySem.W.fnOf x x (defArgs st) (defBody st) (defScope st) (.ref T) kV dc pm an cd ct) ps (([.ref E] : List Value).drop j) := by
    intro j n hn hh s us XI hlen
    have l2 : us.length = n := by
      rw [List.length_append, List.length_drop] at hlen
      simp only [List.length_cons, List.length_nil] at hlen
      omega
    obtain ⟨k, e1, e2⟩ := hh us [.ref E] l2 rfl
    refine BindsTo.of_looks fun M => ?_
    rw [e1]
    exact looks_items XI lT rfl (.of_pure e2)
  refine ⟨f, _, .ref E, [.ref E], Fu, PySem.W.mg_of X G a, look 1 (m + 1) (by omega) (hb1 kV dc pm an cd ct), .cons rfl .nil, look 0 m (by omega) (hb kV dc pm an cd ct), E, rfl, .inr ⟨_, #[], nE, lE, rfl, rfl, by decide, .nil⟩, _, lE, rfl⟩
end SF

/-! SL41: a, b = x, y where a comprehension sees a name. -/
namespace SF
open PySem PySem.Spec PyProof.Rows L2
section
variable {X : Cx} {F : Fx} {tA : DTA}
theorem ps_tup2 {a b t1 t2 : Expr} {g1 g2 : TG} {t : TA} {kt k2 : Nat} {pt pt2 pos : Pos} (hc : X.calm = true) (hd : PA X [a, b] t) (h1 : PG X t1 g1) (h2 : PG X t2 g2)
    (hs : swapsWithSole [.Tuple [t1, t2] kt pt] (.Tuple [a, b] k2 pt2) pos.line X.env = pure false := by rfl) (hw : swappedStores [.Tuple [t1, t2] kt pt] (.Tuple [a, b] k2 pt2) X.env = pure none := by rfl)
    (ha : (assignEach [.Tuple [t1, t2] kt pt] X.env).map (·.2) = [assign (.Tuple [t1, t2] kt pt) X.env] := by rfl) (e1 : (assignEach [t1, t2] X.env).map (·.2) = assign t1 X.env :: (assignEach [t2] X.env).map (·.2) := by rfl) (e2 : (assignEach [t2] X.env).map (·.2) = assign t2 X.env :: (assignEach [] X.env).map (·.2) := by rfl)
    (hn : (assignEach [t1, t2] X.env).length = 2 := by rfl) (hst : (assignEach [t1, t2] X.env).findIdx? (·.1) = none := by rfl) :
    PS X (.Assign [.Tuple [t1, t2] kt pt] (.Tuple [a, b] k2 pt2) pos) (tAsg (tTupF t) (gTup X.K 2 (gCons g1 (gCons g2 gNil)))) :=
  ps_asg (pe_tupF hd) (pg_tup hc (pgs_cons h1 (pgs_cons h2 pgs_nil e2) e1) hn hst) hs hw ha
theorem ds_parC {i j : Nat} {st : Stmt} (h : PS X st (tAsg (tTupF (liftA X.K F tA)) (gTup X.K 2 (gCons (gName i) (gCons (gName j) gNil))))) : DSt X F st (dPar i j tA) := PS_imp h fun D σ H ⟨O, ds, E, R, ht, kk⟩ =>
  ⟨O, ds, _, R, ht, fun xs ds1 vs H1 O1 s1 R1 rx hx => by
    split at hx
    · rename_i x y ds2 ep
      obtain ⟨O2, s2, R2, ⟨rs, ap⟩, kinds, _⟩ := prepL_ok R s1 R1 rx ep
      cases rs with
      | cons r1 rs =>
        cases rs with
        | cons r2 rs =>
          cases rs
          rename_i v w
          refine ⟨(show 2 ≤ sizeLine by decide), fun p o hp ho => ?_⟩
          have sm := same_new (o := .frz o (.tup [v, w])) hp
          have s3 : Step σ H1 O2 ds2 (upd H1 p (.frz o (.tup [v, w]))) O2 ds2 := Step.grow sm grow_refl fun _ h => h
          have R3 := R2.grow sm grow_refl (fun _ h => h) (lo_same R2.lo sm)
          have q1 := RpV.step R2 (s2.mutO R) r1 s3
          have q2 := RpV.step R2 (s2.mutO R) r2 s3
          have k1 := kinds x (by simp)
          have k2 := kinds y (by simp)
          have tmp : ∀ {v : V} {x : DV}, RpV X.K F H1 O O2 σ ds2 v x → ∀ p, (∃ d, x = .own d) → v = .ref p → ∀ j, ¬ MutAt σ ds2 j p := fun hr p ⟨d, ex⟩ ev j hj => by
            subst ex
            obtain ⟨q, _, eq, _, n, _⟩ := hr
            rw [ev] at eq; cases eq
            exact n (s2.mutO R p ⟨j, hj⟩)
          obtain ⟨R4, m4⟩ := R3.setV i k1 q1 (tmp r1)
          obtain ⟨R5, _⟩ := R4.setV (O0 := O) j k2 (q2.free k2) fun p ho ev l hl => by
            rcases m4 l p hl with z | ⟨z1, d, z2⟩
            · exact tmp r2 p ho ev l z
            · obtain ⟨d', e'⟩ := ho
              exact ap 0 1 p d d' (by omega) (by rw [z1]; rfl) (by rw [ev]; rfl) (by rw [z2]; rfl) (by rw [e']; rfl)
          exact ⟨p, [v, w], rfl, .inl (.inr ⟨o, upd_same⟩), rfl, v, [w], rfl, w, [], rfl, rfl, kk.nx O2 _ _ _ ((s2.trans s3).hs R) R5 hx⟩
    · exact hx.elim⟩
end
end SF

/-! SL42: calls whose arguments are displays that hold lists of one's own; a flat result gives them back. -/
namespace SF
open PySem PySem.Spec PyProof.Rows L2
inductive AV where
  | one (x : DV)
  | many (xs : List DV)
abbrev DTM := DS → (List AV → DS → Prop) → Prop
def flM : List AV → List DV
  | [] => []
  | .one x :: as => x :: flM as
  | .many xs :: as => xs ++ flM as
inductive Lay (H : Hp) (O : List Addr) : List V → List AV → List V → Prop
  | nil : Lay H O [] [] []
  | one {v : V} {x : DV} {vs ws : List V} {as : List AV} : Lay H O vs as ws → Lay H O (v :: vs) (.one x :: as) (v :: ws)
  | many {p : Addr} {us : List V} {xs : List DV} {vs ws : List V} {as : List AV} : H p = some (.lst us) → p ∉ O → us.length = xs.length → Lay H O vs as ws → Lay H O (.ref p :: vs) (.many xs :: as) (us ++ ws)
section
variable {K : Fg} {F : Fx} {H H1 H2 : Hp} {O O1 O2 : List Addr} {σ : St} {ds ds1 ds2 : DS}
theorem no_in {p : Addr} {u : HO} (R : Rep K F H1 O1 σ ds1) (s : Step σ H1 O1 ds1 H2 O2 ds2) (h : H1 p = some u) (hn : p ∉ O1) : H2 p = some u ∧ p ∉ O2 :=
  ⟨s.kp p u h fun i hi => hn (R.mutO hi), fun hp => (s.o1 p hp).elim hn fun z => by rw [h] at z; cases z⟩
theorem Lay.step (R : Rep K F H1 O1 σ ds1) (s : Step σ H1 O1 ds1 H2 O2 ds2) {vs ws : List V} {as : List AV} (h : Lay H1 O1 vs as ws) : Lay H2 O2 vs as ws := by
  induction h with
  | nil => exact .nil
  | one _ ih => exact .one ih
  | many h1 h2 h3 _ ih =>
    obtain ⟨q1, q2⟩ := no_in R s h1 h2
    exact .many q1 q2 h3 ih
theorem paired_app {α β : Type} {r : α → β → Prop} : ∀ {a : List α} {b : List β} {c : List α} {d : List β}, Paired r a b → Paired r c d → Paired r (a ++ c) (b ++ d)
  | _, _, _, _, .nil, h => h
  | _, _, _, _, .cons h t, h' => .cons h (paired_app t h')
theorem paired_cut {α β : Type} {r : α → β → Prop} : ∀ {a : List α} {b : List β} {c : List α} {d : List β}, a.length = b.length → Paired r (a ++ c) (b ++ d) → Paired r a b ∧ Paired r c d
  | [], [], _, _, _, h => ⟨.nil, h⟩
  | [], _ :: _, _, _, h, _ => by simp at h
  | _ :: _, [], _, _, h, _ => by simp at h
  | x :: a, y :: b, c, d, hl, .cons h t => by
    obtain ⟨h1, h2⟩ := paired_cut (a := a) (b := b) (by simpa using hl) t
    exact ⟨.cons h h1, h2⟩
theorem own_in {p : Addr} {y : List D} : ∀ {vs : List V} {dvs : List DV} {k : Nat}, Paired (RpV K F H O O1 σ ds) vs dvs → vs[k]? = some (.ref p) → dvs[k]? = some (.own y) → p ∈ O1 ∧ p ∉ O
  | _, _, k, .nil, h, _ => by simp at h
  | _, _, 0, .cons h _, h1, h2 => by
    simp at h1 h2
    subst h1 h2
    obtain ⟨_, _, e, m, n, _⟩ := h
    cases e; exact ⟨m, n⟩
  | _, _, k + 1, .cons _ t, h1, h2 => own_in (k := k) t (by simpa using h1) (by simpa using h2)
theorem RpVs.app {us ws : List V} {xs ys : List DV} (R : Rep K F H O σ ds) (s1 : Step σ H O ds H1 O1 ds1) (R1 : Rep K F H1 O1 σ ds1) (h1 : RpVs K F H1 O O1 σ ds1 us xs) (s2 : Step σ H1 O1 ds1 H2 O2 ds2) (h2 : RpVs K F H2 O1 O2 σ ds2 ws ys) : RpVs K F H2 O O2 σ ds2 (us ++ ws) (xs ++ ys) := by
  have go := Step.gone R s1 s2
  have lu := paired_len h1.1
  have aux : ∀ {vs : List V} {dvs : List DV}, Paired (RpV K F H2 O1 O2 σ ds2) vs dvs → Paired (RpV K F H2 O O2 σ ds2) vs dvs := by
    intro vs dvs h
    induction h with
    | nil => exact .nil
    | cons h _ ih => exact .cons (RpV.old h go) ih
  refine ⟨paired_app (RpVs.step R1 (s1.mutO R) s2 h1.1) (aux h2.1), ?_⟩
  intro i j p x y hij e1 e2 e3 e4
  by_cases hi : i < us.length
  · rw [List.getElem?_append_left hi] at e1
    rw [List.getElem?_append_left (by omega)] at e3
    have m1 := own_in h1.1 e1 e3
    by_cases hj : j < us.length
    · rw [List.getElem?_append_left hj] at e2
      rw [List.getElem?_append_left (by omega)] at e4
      exact h1.2 i j p x y hij e1 e2 e3 e4
    · rw [List.getElem?_append_right (by omega)] at e2 e4
      rw [← lu] at e4
      exact (own_in h2.1 e2 e4).2 m1.1
  · rw [List.getElem?_append_right (by omega)] at e1 e3
    rw [← lu] at e3
    have m1 := own_in h2.1 e1 e3
    by_cases hj : j < us.length
    · rw [List.getElem?_append_left hj] at e2
      rw [List.getElem?_append_left (by omega)] at e4
      exact m1.2 (own_in h1.1 e2 e4).1
    · rw [List.getElem?_append_right (by omega)] at e2 e4
      rw [← lu] at e4
      exact h2.2 (i - us.length) (j - us.length) p x y (by omega) e1 e2 e3 e4
end
def liftM (K : Fg) (F : Fx) (t : DTM) : TA := fun σ H Q => ∃ O ds Qa, Rep K F H O σ ds ∧ t ds Qa ∧
  ∀ as ds' vs ws H' O', Step σ H O ds H' O' ds' → Rep K F H' O' σ ds' → Lay H' O' vs as ws → RpVs K F H' O O' σ ds' ws (flM as) → Qa as ds' → Q vs H'
abbrev DM (X : Cx) (F : Fx) (es : List Expr) (t : DTM) : Prop := PA X es (liftM X.K F t)
def mNil : DTM := fun ds Q => Q [] ds
def mOne (te : DTE) (tr : DTM) : DTM := fun ds Q => te ds fun x ds1 => tr ds1 fun as ds2 => Q (.one x :: as) ds2
def mMany (ta : DTA) (tr : DTM) : DTM := fun ds Q => ta ds fun xs ds1 => few xs.length (tr ds1 fun as ds2 => Q (.many xs :: as) ds2)
section
variable {X : Cx} {F : Fx} {e : Expr} {es es' : List Expr} {te : DTE} {ta : DTA} {tr : DTM} {pos : Pos}
theorem dm_nil : DM X F [] mNil := PA_imp pa_nil fun σ H Q ⟨O, ds, Qa, R, ht, hq⟩ => hq [] ds [] [] H O Step.refl R .nil ⟨.nil, fun _ _ _ _ _ _ h => by simp at h⟩ ht
theorem dm_one (he : DE X F e te) (hr : DM X F es tr) (hs : starEach (e :: es) X.env = (false, eval e X.env) :: starEach es X.env := by rfl) : DM X F (e :: es) (mOne te tr) := PA_imp (pa_cons he hr hs) fun σ H Q ⟨O, ds, Qa, R, ht, hq⟩ =>
  ⟨O, ds, _, R, ht, fun x ds1 v H1 O1 s1 R1 rx hx => ⟨O1, ds1, _, R1, hx, fun as ds2 vs ws H2 O2 s2 R2 ly rw2 hxs =>
    hq (.one x :: as) ds2 (v :: vs) (v :: ws) H2 O2 (s1.trans s2) R2 (.one ly) (RpVs.app (us := [v]) (xs := [x]) R s1 R1 ⟨.cons rx .nil, fun i j p a b hij h1 h2 _ _ => by
      have : i = 0 := by
        cases i with
        | zero => rfl
        | succ i => simp at h1
      have : j = 0 := by
        cases j with
        | zero => rfl
        | succ j => simp at h2
      omega⟩ s2 rw2) hxs⟩⟩
theorem dm_many (ha : DA X F es' ta) (hr : DM X F es tr) : DM X F (.List es' pos :: es) (mMany ta tr) := PA_imp (pa_cons (pe_lst ha) hr) fun σ H Q ⟨O, ds, Qa, R, ht, hq⟩ =>
  ⟨O, ds, _, R, ht, fun xs ds1 us H1 O1 s1 R1 rx hx => by
    obtain ⟨hn, hx⟩ := few_le hx
    have lu := paired_len rx.1
    refine ⟨by have := k_line; omega, fun p hp => ?_⟩
    have sm := same_new (o := .lst us) hp
    have R1' : Rep X.K F (upd H1 p (.lst us)) O1 σ ds1 := R1.grow sm grow_refl (fun _ h => h) (lo_same R1.lo sm)
    have sg : Step σ H1 O1 ds1 (upd H1 p (.lst us)) O1 ds1 := Step.grow sm grow_refl fun _ h => h
    have np : p ∉ O1 := fun z => by
      obtain ⟨_, q⟩ := R1.lo p z
      rw [hp] at q; cases q
    have rx' : RpVs X.K F (upd H1 p (.lst us)) O O1 σ ds1 us xs := ⟨RpVs.step R1 (s1.mutO R) sg rx.1, rx.2⟩
    refine ⟨O1, ds1, _, R1', hx, fun as ds2 vs ws H2 O2 s2 R2 ly rw2 hxs => ?_⟩
    obtain ⟨q1, q2⟩ := no_in R1' s2 (show upd H1 p (.lst us) p = some (.lst us) from upd_same) np
    exact hq (.many xs :: as) ds2 (.ref p :: vs) (us ++ ws) H2 O2 ((s1.trans sg).trans s2) R2 (.many q1 q2 lu ly) (RpVs.app R (s1.trans sg) R1' rx' s2 rw2) hxs⟩
end
/-! the call -/
def argM (ds : DS) : AV → Option DV
  | .one x => match peek ds x with
    | some d => some (.d d)
    | none => none
  | .many xs => match peekL ds xs with
    | some r => some (.d (.list r))
    | none => none
def argsM (ds : DS) : List AV → Option (List DV)
  | [] => some []
  | a :: as => match argM ds a, argsM ds as with
    | some x, some r => some (x :: r)
    | _, _ => none
def noBx (args : List DV) (P : Prop) : Prop := match args.any isBx with
  | true => False
  | false => P
def dCallM (dsp : DSp) (m : List DV → List DV) (tm : DTM) : DTE := fun ds Q => tm ds fun as ds1 => match argsM ds1 as with
  | some args => noBx (m args) (dsp (m args) ds1.n (fun r _ => flatR r = true ∧ Q r ds1) fun _ _ _ => False)
  | none => False
section
variable {K : Fg} {F : Fx} {H H1 H2 : Hp} {O O1 O2 : List Addr} {σ : St} {ds ds1 ds2 : DS}
theorem peek_arg {x : DV} {d : D} (h : peek ds x = some d) : argOf ds x = some (.d d) := by
  cases x with
  | d y => simp only [peek, Option.some.injEq] at h; subst h; rfl
  | own y => simp only [peek, Option.some.injEq] at h; subst h; rfl
  | box => simp [peek] at h
  | exc _ _ => simp [peek] at h
  | slot i =>
    simp only [peek] at h
    simp only [argOf]
    split at h
    · rename_i e; rw [e]; simp only [Option.some.injEq] at h; subst h; rfl
    · rename_i e; rw [e]; simp only [Option.some.injEq] at h; subst h; rfl
    · simp at h
theorem many_rp : ∀ {us : List V} {xs : List DV} {r : List D}, Paired (fun v dv => ∀ x, argOf ds dv = some (.d x) → Rp K H O v x) us xs → peekL ds xs = some r → RpL K H O us r
  | _, _, r, .nil, h => by simp only [peekL, Option.some.injEq] at h; subst h; exact .nil
  | _, _, r, .cons (b := x) (l₂ := xs) h t, e => by
    simp only [peekL] at e
    cases e1 : peek ds x with
    | none => rw [e1] at e; simp at e
    | some d =>
      cases e2 : peekL ds xs with
      | none => rw [e1, e2] at e; simp at e
      | some q =>
        rw [e1, e2] at e
        simp only [Option.some.injEq] at e
        subst e
        exact .cons (h d (peek_arg e1)) (many_rp t e2)
theorem lay_args {vs ws : List V} {as : List AV} (ly : Lay H O1 vs as ws) (sub : ∀ p ∈ O2, p ∈ O1) : ∀ {args : List DV}, Paired (fun v dv => ∀ x, argOf ds dv = some (.d x) → Rp K H O2 v x) ws (flM as) → argsM ds as = some args → Paired (ArgD K H [] O2) vs args := by
  induction ly with
  | nil => intro args _ e; simp only [argsM, Option.some.injEq] at e; subst e; exact .nil
  | one _ ih =>
    rename_i v x vs ws as _
    intro args h e
    simp only [argsM] at e
    cases e1 : argM ds (.one x) with
    | none => rw [e1] at e; simp at e
    | some b =>
      cases e2 : argsM ds as with
      | none => rw [e1, e2] at e; simp at e
      | some r =>
        rw [e1, e2] at e
        simp only [Option.some.injEq] at e
        subst e
        cases h with
        | cons h1 h2 =>
          refine .cons ?_ (ih h2 e2)
          simp only [argM] at e1
          cases e3 : peek ds x with
          | none => rw [e3] at e1; simp at e1
          | some d =>
            rw [e3] at e1
            simp only [Option.some.injEq] at e1
            subst e1
            exact h1 d (peek_arg e3)
  | many q1 q2 q3 _ ih =>
    rename_i p us xs vs ws as _
    intro args h e
    simp only [argsM] at e
    cases e1 : argM ds (.many xs) with
    | none => rw [e1] at e; simp at e
    | some b =>
      cases e2 : argsM ds as with
      | none => rw [e1, e2] at e; simp at e
      | some r =>
        rw [e1, e2] at e
        simp only [Option.some.injEq] at e
        subst e
        obtain ⟨h1, h2⟩ := paired_cut q3 h
        refine .cons ?_ (ih h2 e2)
        simp only [argM] at e1
        cases e3 : peekL ds xs with
        | none => rw [e3] at e1; simp at e1
        | some d =>
          rw [e3] at e1
          simp only [Option.some.injEq] at e1
          subst e1
          exact Rp.lst ⟨q1, fun z => q2 (sub p z)⟩ (many_rp h1 e3)
theorem call_coreM {mg : Str → Option Value} {dsp : DSp} {m : List DV → List DV} {gV : List V → List V} {vs ws : List V} {as : List AV} {args : List DV} {Q : VK} {Qa : DV → DS → Prop} {E : XK} (hm : Perm' K gV m) (R : Rep K F H O σ ds) (s1 : Step σ H O ds H1 O1 ds1) (R1 : Rep K F H1 O1 σ ds1)
    (ly : Lay H1 O1 vs as ws) (rx : RpVs K F H1 O O1 σ ds1 ws (flM as)) (ea : argsM ds1 as = some args) (hd : noBx (m args) (dsp (m args) ds1.n (fun r _ => flatR r = true ∧ Qa r ds1) fun _ _ _ => False))
    (hq : ∀ dv ds' v H' O', Step σ H O ds H' O' ds' → Rep K F H' O' σ ds' → RpV K F H' O O' σ ds' v dv → Qa dv ds' → Q v H') : spD K mg dsp (gV vs) H1 Q E := by
  unfold noBx at hd
  cases hb : (m args).any isBx with
  | true => rw [hb] at hd; exact hd.elim
  | false =>
    rw [hb] at hd
    obtain ⟨O2, s2, R2, sub2, n2, pr⟩ := frzA_ok R s1 R1 rx
    refine ⟨[], O2, m args, ds1.n, _, _, R2.lo, fun b hb => by simp at hb, hm.pr (lay_args ly sub2 pr ea), fun i j h1 _ => ?_, hd, ?_, fun _ _ _ _ _ _ _ _ _ z => z.elim⟩
    · have : (m args).any isBx = true := List.any_eq_true.mpr ⟨.box, List.mem_of_getElem? h1, rfl⟩
      rw [hb] at this; cases this
    · rintro r n' v H' kp _ rr ⟨hf, hqa⟩
      cases r with
      | d x =>
        obtain ⟨Rc, sc⟩ := R1.called (B := []) (n' := ds1.n) kp (fun b hb => by simp at hb) (fun _ => rfl) O1 grow_refl (fun _ h => h) fun p h1 h2 => absurd h1 h2
        exact hq (.d x) _ v H' O1 (s1.trans sc) Rc (Rp.flat rr hf) hqa
      | own ys =>
        obtain ⟨p, ws, ev, hp, hp', hl⟩ := rr
        obtain ⟨Rc, sc⟩ := R1.called (B := []) (n' := ds1.n) kp (fun b hb => by simp at hb) (fun _ => rfl) (p :: O1) (grow_new hp) (fun _ h => List.mem_cons_of_mem _ h) fun q h1 h2 => by
          rcases List.mem_cons.mp h1 with z | z
          · subst z; exact ⟨ws, hp'⟩
          · exact absurd z h2
        exact hq (.own ys) _ v H' (p :: O1) (s1.trans sc) Rc ⟨p, ws, ev, List.mem_cons_self, s1.fresh R hp, R1.hin hp, hp', RpL.flat hl hf⟩ hqa
      | box => exact rr.elim
      | slot i => exact rr.elim
      | exc _ _ => exact rr.elim
end
section
variable {X : Cx} {F : Fx} {k : Nat} {x : Str} {st : Stmt} {ps : List Str} {dsp : DSp} {p pos : Pos} {e : Expr} {es : List Expr} {tM : DTM}
/-- f(e, ..), displays among the arguments -/
theorem de_callM (I : Pr X.prog X.w X.K X.mg X.base k x st ps dsp) (hr : RoomG k X.A) (hg : Gl X x) (ha : DM X F (e :: es) tM) (hdb : (x == ("__debug__" : Str)) = false := by decide) (he : starEach (e :: es) X.env = (false, eval e X.env) :: starEach es X.env := by rfl) (hpl : (backTo pos (starEach es X.env)).any (·.1) = false := by rfl) :
    DE X F (.Call (.Name x p) (e :: es) [] pos) (dCallM dsp (fun as => as) tM) := by
  obtain ⟨f, fd, G, Fu, g, b⟩ := I.ex
  exact PE_imp (pe_callG G hr hg g Fu.kp b .nil passX ha hdb he hpl) fun σ H Q ⟨O, ds, Qa, R, ht, hq⟩ => ⟨O, ds, _, R, ht, fun as ds1 vs ws H1 O1 s1 R1 ly rx hx => by
    cases ea : argsM ds1 as with
    | none => rw [ea] at hx; exact hx.elim
    | some args =>
      rw [ea] at hx
      exact call_coreM (gV := fun vs => vs ++ []) perm_nil R s1 R1 ly rx ea hx hq⟩
end
end SF

/-! SL43: comprehensions with two for: the inner loop. -/
namespace SF
open PySem PySem.Spec PyProof.Rows L2
section
variable {F : Fx}
/-- a loop that adds to a list that is there: over slots that are wiped (vs) at each turn's start -/
theorem inner_lift {s : Bool} {T : List Nat} {g : DTG} {tt : DTT} {te : DTE} {vs : List Nat} {K : Fg} (hT : ∀ i ∈ T, i ∈ vs) {σ : St} {H1 : Hp} {O1 : List Addr} {D : Addr} {av0 : List V} {acc0 : List SF.D} {its : List SF.D} {J : It} {ds1 : DS} {Nx : Hp → Prop} {P : Nat → List SF.D → DS → Prop}
    (io : ItOk s K J its O1 H1) (R1 : Rep K F H1 O1 (wipe σ vs) ds1) (hcl0 : Clear vs ds1) (mD : D ∈ O1) (nDw : ∀ j, ¬ MutAt (wipe σ vs) ds1 j D) (hDin : F.Hin D = none) (eD0 : H1 D = some (.lst av0)) (rl0 : RpL K H1 O1 av0 acc0) (p0 : P 0 acc0 ds1)
    (turn : ∀ (i : Nat) d acc ds2, its[i]? = some d → P i acc ds2 → g d ds2 fun ds3 => tt ds3 fun b ds4 => match b with
      | true => te ds4 fun y ds5 => match frz ds5 y with
        | some (z, ds6) => acc.length < 16777216 ∧ P (i + 1) (acc ++ [z]) ⟨wipeD ds6.sl vs, ds6.n⟩
        | none => False
      | false => P (i + 1) acc ⟨wipeD ds4.sl vs, ds4.n⟩)
    (fin : ∀ H2 O2 ds2 acc av, Step (wipe σ vs) (upd H1 D (.lst [])) O1 ds1 (upd H2 D (.lst [])) O2 ds2 → HS O1 H1 O2 H2 → Rep K F H2 O2 (wipe σ vs) ds2 → H2 D = some (.lst av) → RpL K H2 O2 av acc → Clear vs ds2 → P its.length acc ds2 → Nx H2) :
    ∃ W : Nat → Nat → Hp → Prop, (∃ m, W 0 m H1) ∧ ∀ i m H, W i m H →
      (J.stop i H ∧ Nx H) ∨ (J.go i H ∧ ∃ Nx1 : Hp → Prop, (∀ H', Nx1 H' → ∃ m', m' < m ∧ W (i + 1) m' H') ∧ ∀ x H', J.yld i H x H' → (liftG s T K F g) x (wipe σ vs) H' fun σ2 H2 => wipe σ2 vs = wipe σ vs ∧ (liftT K F tt) σ2 H2 fun b H3 =>
        if b = true then (lift K F te) σ2 H3 fun y H4 => ∃ acc, H4 D = some (.lst acc) ∧ acc.length < sizeLine ∧ Nx1 (upd H4 D (.lst (acc ++ [y]))) else Nx1 H3) := by
  have wl : (wipe σ vs).length = σ.length := wipe_length σ vs
  have wo : ∀ i : Nat, i ∉ vs → (wipe σ vs)[i]? = σ[i]? := fun i hi => wipe_out hi
  refine ⟨fun i m H2 => m = its.length - i ∧ i ≤ its.length ∧ ∃ O2 ds2 acc av, Step (wipe σ vs) (upd H1 D (.lst [])) O1 ds1 (upd H2 D (.lst [])) O2 ds2 ∧ HS O1 H1 O2 H2 ∧ Rep K F H2 O2 (wipe σ vs) ds2 ∧ H2 D = some (.lst av) ∧ RpL K H2 O2 av acc ∧ Clear vs ds2 ∧ P i acc ds2,
    ⟨its.length, by simp, Nat.zero_le _, O1, _, acc0, av0, Step.refl, HS.refl, R1, eD0, rl0, hcl0, p0⟩, ?_⟩
  rintro i m H2 ⟨rfl, hi, O2, ds2, acc, av, st, a2, R2, eD, rl, hcl, p2⟩
  have memD : D ∈ O2 := st.o2 D mD nDw
  have nD2 : ∀ j, ¬ MutAt (wipe σ vs) ds2 j D := fun j hj => nDw j (st.mu j D hj)
  by_cases hlt : i < its.length
  · obtain ⟨go, yl⟩ := io.go H2 O2 R2.lo a2 i hlt
    refine .inr ⟨go, fun H' => ∃ O2 ds2 acc av, Step (wipe σ vs) (upd H1 D (.lst [])) O1 ds1 (upd H' D (.lst [])) O2 ds2 ∧ HS O1 H1 O2 H' ∧ Rep K F H' O2 (wipe σ vs) ds2 ∧ H' D = some (.lst av) ∧ RpL K H' O2 av acc ∧ Clear vs ds2 ∧ P (i + 1) acc ds2,
      fun H' hN => ⟨its.length - (i + 1), by omega, rfl, hlt, hN⟩, fun x H3 hy => ?_⟩
    obtain ⟨d, ed, sm3, im⟩ := yl x H3 hy
    have R3 : Rep K F H3 O2 (wipe σ vs) ds2 := R2.grow sm3 grow_refl (fun _ h => h) (lo_same R2.lo sm3)
    have st3 : Step (wipe σ vs) H2 O2 ds2 H3 O2 ds2 := Step.grow sm3 grow_refl fun _ h => h
    have eD3 : H3 D = some (.lst av) := sm3 _ _ eD
    have rl3 : RpL K H3 O2 av acc := RpL.mv R2.lo (same_keep sm3) grow_refl rl
    refine ⟨O2, ds2, d, _, R3, im, turn i d acc ds2 ed p2, fun O4 ds4 σ4 tg4 R4 on4 h4 => ?_⟩
    have ag4 : ∀ j : Nat, j ∉ vs → σ4[j]? = (wipe σ vs)[j]? := fun j hj => on4.2 j fun z => hj (hT j z)
    have memD4 : D ∈ O4 := tg4.sub D memD
    have nD4 : ∀ j, ¬ MutAt σ4 ds4 j D := fun j hj => nD2 j (tg4.mu j D hj)
    have rl4 : RpL K H3 O4 av acc := hs_rpl R3.lo tg4.hs rl3
    refine ⟨wipe_eq (on4.1.trans wl) fun j hj => by rw [ag4 j hj, wo j hj], ?_⟩
    have bring : ∀ {H6 : Hp} {O6 : List Addr} {ds6 : DS}, Step σ4 H3 O4 ds4 H6 O6 ds6 → Rep K F H6 O6 σ4 ds6 →
        Step (wipe σ vs) (upd H1 D (.lst [])) O1 ds1 (upd H6 D (.lst [])) O6 ⟨wipeD ds6.sl vs, ds6.n⟩ ∧ HS O1 H1 O6 H6 ∧ Rep K F H6 O6 (wipe σ vs) ⟨wipeD ds6.sl vs, ds6.n⟩ ∧ H6 D = some (.lst av) ∧ RpL K H6 O6 av acc ∧ D ∈ O6 ∧ ∀ j, ¬ MutAt (wipe σ vs) ⟨wipeD ds6.sl vs, ds6.n⟩ j D := by
      intro H6 O6 ds6 s6 R6
      have s46 : Step (wipe σ vs) H3 O4 ds2 H6 O6 ⟨wipeD ds6.sl vs, ds6.n⟩ := s6.fit ag4 hcl tg4.mu tg4.bx tg4.sl
      have sT : Step (wipe σ vs) H3 O2 ds2 H3 O4 ds2 := ⟨tg4.hs.gr, fun p hp _ => tg4.sub p hp, fun _ _ h _ => h, fun _ h => h, fun _ dv h => ⟨dv, h⟩, fun _ _ h => h, fun _ _ h => h⟩
      have s26 := (st3.trans sT).trans s46
      have R6w := R6.fit (σ' := wipe σ vs) vs (by rw [on4.1]) fun j hj => (ag4 j hj).symm
      have eD6 := s26.kp D _ eD nD2
      have m6 : D ∈ O6 := s6.o2 D memD4 nD4
      refine ⟨⟨fun p hp => ?_, fun p hp n => ?_, fun a o ha n => ?_, fun a ha => ?_, fun j dv hj => ?_, fun j p hj => st.mu j p (s26.mu j p hj), fun j p hj => st.bx j p (s26.bx j p hj)⟩, a2.trans (s26.hs R2), R6w, eD6, ?_, m6, fun j hj => nD2 j (s26.mu j D hj)⟩
      · rcases s26.o1 p hp with h | h
        · exact st.o1 p h
        · right
          cases e : upd H1 D (.lst []) p with
          | none => rfl
          | some o =>
            have q := st.dm p (by rw [e]; simp)
            by_cases z : p = D
            · subst z; rw [eD] at h; cases h
            · rw [upd_ne z] at q; exact absurd h q
      · exact s26.o2 p (st.o2 p hp n) fun j hj => n j (st.mu j p hj)
      · by_cases z : a = D
        · subst z; rw [upd_same] at ha ⊢; exact ha
        · have q := st.kp a o ha n
          rw [upd_ne z] at q ⊢
          exact s26.kp a o q fun j hj => n j (st.mu j a hj)
      · by_cases z : a = D
        · subst z; rw [upd_same]; simp
        · have q := st.dm a ha
          rw [upd_ne z] at q ⊢
          exact s26.dm a q
      · obtain ⟨dv1, e1⟩ := st.sl j dv hj
        exact s26.sl j dv1 e1
      · exact RpL.mv R4.lo (s6.keepO R4) s6.o1 rl4
    refine ⟨O4, ds4, _, R4, h4, fun b ds5 H5 O5 s5 R5 h5 => ?_⟩
    cases b with
    | false =>
      refine iteF ?_
      obtain ⟨b1, b2, b3, b4, b5, b6, b7⟩ := bring s5 R5
      exact ⟨O5, _, acc, av, b1, b2, b3, b4, b5, wipeD_clear _ _ _, h5⟩
    | true =>
      refine iteT ⟨O5, ds5, _, R5, h5, fun y ds6 v H6 O6 s6 R6 ry h6 => ?_⟩
      cases e : frz ds6 y with
      | none => rw [e] at h6; exact h6.elim
      | some q =>
        obtain ⟨z, ds7⟩ := q
        rw [e] at h6
        obtain ⟨O7, s7, R7, rz, _, _⟩ := frz_ok R5 s6 R6 ry e
        obtain ⟨b1, b2, b3, b4, b5, b6, b7⟩ := bring (s5.trans s7) R7
        obtain ⟨h60, h61⟩ := h6
        refine ⟨av, b4, ?_, ?_⟩
        · have h1 := b5.length
          have := sizeLine_eq
          omega
        · obtain ⟨R8, k8⟩ := b3.updT (ws := av ++ [v]) b6 b7 hDin
          refine ⟨O7, _, acc ++ [z], av ++ [v], by rw [upd_upd]; exact b1, b2.trans ⟨k8, grow_refl, fun a ha => ?_⟩, R8, upd_same, ?_, wipeD_clear _ _ _, h61⟩
          · by_cases za : a = D
            · subst za; rw [upd_same]; simp
            · rw [upd_ne za]; exact ha
          · exact RpL.mv b3.lo k8 grow_refl (RpL.append b5 (RpL.one rz))
  · have e : i = its.length := by omega
    subst e
    exact .inl ⟨io.stop H2 O2 R2.lo a2, fin H2 O2 ds2 acc av st a2 R2 eD rl hcl p2⟩
end
end SF

/-! SL44: comprehensions with two for. -/
namespace SF
open PySem PySem.Spec PyProof.Rows L2
@[irreducible] def dLc2 (w : DTI) (g : DTG) (tt : DTT) (w1 : DTI) (g1 : DTG) (tt1 : DTT) (te : DTE) (vs vs1 : List Nat) : DTE := fun ds Q => w ds fun its ds1 => match noBox ds1.sl vs with
  | false => False
  | true => ∃ P : Nat → List D → DS → Prop, P 0 [] ⟨wipeD ds1.sl vs, ds1.n⟩ ∧
    (∀ (i : Nat) d acc ds2, its[i]? = some d → P i acc ds2 → g d ds2 fun ds3 => tt ds3 fun b ds4 => match b with
      | true => w1 ds4 fun its1 ds5 => ∃ P1 : Nat → List D → DS → Prop, P1 0 acc ⟨wipeD ds5.sl vs1, ds5.n⟩ ∧
        (∀ (j : Nat) d1 acc1 ds6, its1[j]? = some d1 → P1 j acc1 ds6 → g1 d1 ds6 fun ds7 => tt1 ds7 fun b1 ds8 => match b1 with
          | true => te ds8 fun y ds9 => match frz ds9 y with
            | some (z, ds10) => acc1.length < 16777216 ∧ P1 (j + 1) (acc1 ++ [z]) ⟨wipeD ds10.sl vs1, ds10.n⟩
            | none => False
          | false => P1 (j + 1) acc1 ⟨wipeD ds8.sl vs1, ds8.n⟩) ∧
        ∀ acc1 ds6, P1 its1.length acc1 ds6 → P (i + 1) acc1 ⟨wipeD ds6.sl vs, ds6.n⟩
      | false => P (i + 1) acc ⟨wipeD ds4.sl vs, ds4.n⟩) ∧
    ∀ acc ds2, P its.length acc ds2 → Q (.own acc) ⟨restD ds2.sl ds1.sl vs, ds2.n⟩
section
variable {X : Cx} {F : Fx} {tg it elt : Expr} {pos : Pos}
theorem lc2_lift {s s1 : Bool} {T T1 : List Nat} {w w1 : DTI} {g g1 : DTG} {tt tt1 : DTT} {te : DTE} {vs vs1 : List Nat} {K : Fg} (hT : ∀ i ∈ T, i ∈ vs) (hT1 : ∀ i ∈ T1, i ∈ vs1) (hv : ∀ i ∈ vs1, i ∈ vs) {σ : St} {H : Hp} {Q : VK} (h : lift K F (dLc2 w g tt w1 g1 tt1 te vs vs1) σ H Q) :
    tLc2 (liftI s K F w) (liftG s T K F g) (liftT K F tt) (liftI s1 K F w1) (liftG s1 T1 K F g1) (liftT K F tt1) (lift K F te) vs vs1 σ H Q := by
  obtain ⟨O, ds, Qa, R, ht, hq⟩ := h
  unfold dLc2 at ht
  refine ⟨O, ds, _, R, ht, fun its ds1 H1 O1 J s1 R1 io hx => ?_⟩
  intro D hD
  split at hx
  · exact hx.elim
  rename_i hbx
  obtain ⟨P, p0, turn, fin⟩ := hx
  have hDin := R1.hin hD
  have wl : (wipe σ vs).length = σ.length := wipe_length σ vs
  have wo : ∀ i : Nat, i ∉ vs → (wipe σ vs)[i]? = σ[i]? := fun i hi => wipe_out hi
  have sm := same_new (o := .lst []) hD
  have gr := grow_new (O := O1) hD
  have sub : ∀ q ∈ O1, q ∈ D :: O1 := fun q h => List.mem_cons_of_mem _ h
  have R1' := R1.grow sm gr sub (lo_new R1.lo hD)
  have Rw : Rep K F (upd H1 D (.lst [])) (D :: O1) (wipe σ vs) ⟨wipeD ds1.sl vs, ds1.n⟩ := R1'.fit vs wl wo
  have nD1 : ∀ j, ¬ MutAt σ ds1 j D := fun j hj => by
    obtain ⟨xs, e⟩ := R1.lo D (R1.mutO hj)
    rw [hD] at e; cases e
  have mw : ∀ j p, MutAt (wipe σ vs) ⟨wipeD ds1.sl vs, ds1.n⟩ j p → MutAt σ ds1 j p ∧ j ∉ vs := fun j p ⟨a, dv, b, c⟩ => by
    obtain ⟨b1, b2⟩ := wipeD_some b
    rw [wo j b2] at a
    exact ⟨⟨a, dv, b1, c⟩, b2⟩
  have nDw : ∀ j, ¬ MutAt (wipe σ vs) ⟨wipeD ds1.sl vs, ds1.n⟩ j D := fun j hj => nD1 j (mw j D hj).1
  have hs0 : HS O1 H1 (D :: O1) (upd H1 D (.lst [])) := (Step.grow (σ := σ) (ds := ds1) sm gr sub).hs R1
  refine ⟨fun i m H2 => m = its.length - i ∧ i ≤ its.length ∧ ∃ O2 ds2 acc av, Step (wipe σ vs) (upd H1 D (.lst [])) (D :: O1) ⟨wipeD ds1.sl vs, ds1.n⟩ (upd H2 D (.lst [])) O2 ds2 ∧ HS O1 H1 O2 H2 ∧ Rep K F H2 O2 (wipe σ vs) ds2 ∧ H2 D = some (.lst av) ∧ RpL K H2 O2 av acc ∧ Clear vs ds2 ∧ P i acc ds2,
    ⟨its.length, by simp, Nat.zero_le _, D :: O1, _, [], [], by rw [upd_upd]; exact Step.refl, hs0, Rw, upd_same, .nil, wipeD_clear _ _ _, p0⟩, ?_⟩
  rintro i m H2 ⟨rfl, hi, O2, ds2, acc, av, st, a2, R2, eD, rl, hcl, p2⟩
  have memD : D ∈ O2 := st.o2 D List.mem_cons_self nDw
  have nD2 : ∀ j, ¬ MutAt (wipe σ vs) ds2 j D := fun j hj => nDw j (st.mu j D hj)
  by_cases hlt : i < its.length
  · obtain ⟨go, yl⟩ := io.go H2 O2 R2.lo a2 i hlt
    refine .inr ⟨go, fun H' => ∃ O2 ds2 acc av, Step (wipe σ vs) (upd H1 D (.lst [])) (D :: O1) ⟨wipeD ds1.sl vs, ds1.n⟩ (upd H' D (.lst [])) O2 ds2 ∧ HS O1 H1 O2 H' ∧ Rep K F H' O2 (wipe σ vs) ds2 ∧ H' D = some (.lst av) ∧ RpL K H' O2 av acc ∧ Clear vs ds2 ∧ P (i + 1) acc ds2,
      fun H' hN => ⟨its.length - (i + 1), by omega, rfl, hlt, hN⟩, fun x H3 hy => ?_⟩
    obtain ⟨d, ed, sm3, im⟩ := yl x H3 hy
    have R3 : Rep K F H3 O2 (wipe σ vs) ds2 := R2.grow sm3 grow_refl (fun _ h => h) (lo_same R2.lo sm3)
    have st3 : Step (wipe σ vs) H2 O2 ds2 H3 O2 ds2 := Step.grow sm3 grow_refl fun _ h => h
    have eD3 : H3 D = some (.lst av) := sm3 _ _ eD
    have rl3 : RpL K H3 O2 av acc := RpL.mv R2.lo (same_keep sm3) grow_refl rl
    refine ⟨O2, ds2, d, _, R3, im, turn i d acc ds2 ed p2, fun O4 ds4 σ4 tg4 R4 on4 h4 => ?_⟩
    have ag4 : ∀ j : Nat, j ∉ vs → σ4[j]? = (wipe σ vs)[j]? := fun j hj => on4.2 j fun z => hj (hT j z)
    have memD4 : D ∈ O4 := tg4.sub D memD
    have nD4 : ∀ j, ¬ MutAt σ4 ds4 j D := fun j hj => nD2 j (tg4.mu j D hj)
    have rl4 : RpL K H3 O4 av acc := hs_rpl R3.lo tg4.hs rl3
    refine ⟨wipe_eq (on4.1.trans wl) fun j hj => by rw [ag4 j hj, wo j hj], ?_⟩
    -- from the start of the turn to a state behind
    have bring : ∀ {H6 : Hp} {O6 : List Addr} {ds6 : DS}, Step σ4 H3 O4 ds4 H6 O6 ds6 → Rep K F H6 O6 σ4 ds6 →
        Step (wipe σ vs) (upd H1 D (.lst [])) (D :: O1) ⟨wipeD ds1.sl vs, ds1.n⟩ (upd H6 D (.lst [])) O6 ⟨wipeD ds6.sl vs, ds6.n⟩ ∧ HS O1 H1 O6 H6 ∧ Rep K F H6 O6 (wipe σ vs) ⟨wipeD ds6.sl vs, ds6.n⟩ ∧ H6 D = some (.lst av) ∧ RpL K H6 O6 av acc ∧ D ∈ O6 ∧ ∀ j, ¬ MutAt (wipe σ vs) ⟨wipeD ds6.sl vs, ds6.n⟩ j D := by
      intro H6 O6 ds6 s6 R6
      have s46 : Step (wipe σ vs) H3 O4 ds2 H6 O6 ⟨wipeD ds6.sl vs, ds6.n⟩ := s6.fit ag4 hcl tg4.mu tg4.bx tg4.sl
      have sT : Step (wipe σ vs) H3 O2 ds2 H3 O4 ds2 := ⟨tg4.hs.gr, fun p hp _ => tg4.sub p hp, fun _ _ h _ => h, fun _ h => h, fun _ dv h => ⟨dv, h⟩, fun _ _ h => h, fun _ _ h => h⟩
      have s26 := (st3.trans sT).trans s46
      have R6w := R6.fit (σ' := wipe σ vs) vs (by rw [on4.1]) fun j hj => (ag4 j hj).symm
      have eD6 := s26.kp D _ eD nD2
      have m6 : D ∈ O6 := s6.o2 D memD4 nD4
      refine ⟨⟨fun p hp => ?_, fun p hp n => ?_, fun a o ha n => ?_, fun a ha => ?_, fun j dv hj => ?_, fun j p hj => st.mu j p (s26.mu j p hj), fun j p hj => st.bx j p (s26.bx j p hj)⟩, a2.trans (s26.hs R2), R6w, eD6, ?_, m6, fun j hj => nD2 j (s26.mu j D hj)⟩
      · rcases s26.o1 p hp with h | h
        · exact st.o1 p h
        · right
          cases e : upd H1 D (.lst []) p with
          | none => rfl
          | some o =>
            have q := st.dm p (by rw [e]; simp)
            by_cases z : p = D
            · subst z; rw [eD] at h; cases h
            · rw [upd_ne z] at q; exact absurd h q
      · exact s26.o2 p (st.o2 p hp n) fun j hj => n j (st.mu j p hj)
      · by_cases z : a = D
        · subst z; rw [upd_same] at ha ⊢; exact ha
        · have q := st.kp a o ha n
          rw [upd_ne z] at q ⊢
          exact s26.kp a o q fun j hj => n j (st.mu j a hj)
      · by_cases z : a = D
        · subst z; rw [upd_same]; simp
        · have q := st.dm a ha
          rw [upd_ne z] at q ⊢
          exact s26.dm a q
      · obtain ⟨dv1, e1⟩ := st.sl j dv hj
        exact s26.sl j dv1 e1
      · exact RpL.mv R4.lo (s6.keepO R4) s6.o1 rl4
    refine ⟨O4, ds4, _, R4, h4, fun b ds5 H5 O5 s5 R5 h5 => ?_⟩
    cases b with
    | false =>
      refine iteF ?_
      obtain ⟨b1, b2, b3, b4, b5, b6, b7⟩ := bring s5 R5
      exact ⟨O5, _, acc, av, b1, b2, b3, b4, b5, wipeD_clear _ _ _, h5⟩
    | true =>
      refine iteT ⟨O5, ds5, _, R5, h5, fun its1 ds6 H6 O6 J1 s6 R6 io1 h6 => ?_⟩
      obtain ⟨P1, p10, turn1, fin1⟩ := h6
      obtain ⟨b1, b2, b3, b4, b5, b6, b7⟩ := bring (s5.trans s6) R6
      have s46 := s5.trans s6
      have l4 : (wipe σ4 vs1).length = σ4.length := wipe_length σ4 vs1
      have w4 : ∀ j : Nat, j ∉ vs1 → (wipe σ4 vs1)[j]? = σ4[j]? := fun j hj => wipe_out hj
      have Rw1 : Rep K F H6 O6 (wipe σ4 vs1) ⟨wipeD ds6.sl vs1, ds6.n⟩ := R6.fit vs1 l4 w4
      have back : ∀ j p, MutAt (wipe σ4 vs1) ⟨wipeD ds6.sl vs1, ds6.n⟩ j p → MutAt (wipe σ vs) ds2 j p ∧ MutAt σ4 ds6 j p := fun j p ⟨a, dv, b, c⟩ => by
        obtain ⟨c1, c2⟩ := wipeD_some b
        rw [w4 j c2] at a
        have q : MutAt σ4 ds6 j p := ⟨a, dv, c1, c⟩
        exact ⟨tg4.mu j p (s46.mu j p q), q⟩
      have ag1 : ∀ j : Nat, j ∉ vs → (wipe σ4 vs1)[j]? = (wipe σ vs)[j]? := fun j hj => by rw [w4 j (fun z => hj (hv j z)), ag4 j hj]
      refine inner_lift (σ := σ4) (vs := vs1) hT1 io1 Rw1 (wipeD_clear _ _ _) b6 (fun j hj => nD2 j (back j D hj).1) hDin b4 b5 p10 turn1 fun H7 O7 ds7 acc1 av1 st7 hs7 R7 eD7 rl7 cl7 p7 => ?_
      have sf : Step (wipe σ vs) (upd H6 D (.lst [])) O6 ⟨wipeD ds6.sl vs, ds6.n⟩ (upd H7 D (.lst [])) O7 ⟨wipeD ds7.sl vs, ds7.n⟩ := st7.fit ag1 (wipeD_clear _ _ _) (fun j p hj => by
        obtain ⟨q1, q2⟩ := back j p hj
        obtain ⟨a, dv, b, c⟩ := q1
        have nj : j ∉ vs := fun z => hcl j z dv b
        obtain ⟨a2, dv2, b2, c2⟩ := q2
        exact ⟨a, dv2, by show (wipeD ds6.sl vs)[j]? = _; rw [wipeD_keep nj]; exact b2, c2⟩) (fun j p hj => by
        obtain ⟨a, b⟩ := hj
        obtain ⟨c1, c2⟩ := wipeD_some b
        rw [w4 j c2] at a
        obtain ⟨d1, d2⟩ := tg4.bx j p (s46.bx j p ⟨a, c1⟩)
        have nj : j ∉ vs := fun z => hcl j z _ d2
        exact ⟨d1, by show (wipeD ds6.sl vs)[j]? = _; rw [wipeD_keep nj]; exact c1⟩) (fun j dv hj => by
        obtain ⟨c1, c2⟩ := wipeD_some hj
        exact ⟨dv, by show (wipeD ds6.sl vs1)[j]? = _; rw [wipeD_keep (fun z => c2 (hv j z))]; exact c1⟩)
      have R7w := R7.fit (σ' := wipe σ vs) vs (by rw [l4, on4.1]) fun j hj => (ag1 j hj).symm
      exact ⟨O7, _, acc1, av1, b1.trans sf, b2.trans hs7, R7w, eD7, rl7, wipeD_clear _ _ _, fin1 acc1 ds7 p7⟩
  · have e : i = its.length := by omega
    subst e
    refine .inl ⟨io.stop H2 O2 R2.lo a2, ?_⟩
    have q := fin acc ds2 p2
    have l2 : ds2.sl.length = ds1.sl.length := by rw [R2.len, R1.len, wl]
    have ke : ∀ a o, H1 a = some o → (∀ j, ¬ MutAt (wipe σ vs) ⟨wipeD ds1.sl vs, ds1.n⟩ j a) → H2 a = some o := fun a o ha n => by
      have nz : a ≠ D := ne_of_none ha hD
      have q := st.kp a o (by rw [upd_ne nz]; exact ha) n
      rwa [upd_ne nz] at q
    have mo : ∀ j p, MutAt σ ⟨restD ds2.sl ds1.sl vs, ds2.n⟩ j p → MutAt σ ds1 j p := fun j p ⟨a, dv, b, c⟩ => by
      by_cases hj : j ∈ vs
      · have b' : (restD ds2.sl ds1.sl vs)[j]? = some (some dv) := b
        rw [restD_in l2 hj] at b'
        exact ⟨a, dv, b', c⟩
      · have b' : (restD ds2.sl ds1.sl vs)[j]? = some (some dv) := b
        rw [restD_out hj] at b'
        exact (mw j p (st.mu j p ⟨by rw [wo j hj]; exact a, dv, b', c⟩)).1
    have bo : ∀ j p, BoxS σ ⟨restD ds2.sl ds1.sl vs, ds2.n⟩ j p → BoxS σ ds1 j p := fun j p ⟨a, b⟩ => by
      have b' : (restD ds2.sl ds1.sl vs)[j]? = some (some .box) := b
      by_cases hj : j ∈ vs
      · rw [restD_in l2 hj] at b'
        exact ⟨a, b'⟩
      · rw [restD_out hj] at b'
        obtain ⟨b1, b2⟩ := st.bx j p ⟨by rw [wo j hj]; exact a, b'⟩
        exact ⟨a, (wipeD_some b2).1⟩
    have inw : ∀ j p, j ∈ vs → MutAt σ ds1 j p → ∀ k, ¬ MutAt (wipe σ vs) ⟨wipeD ds1.sl vs, ds1.n⟩ k p := fun j p hj hm k hk => by
      obtain ⟨h1, h2⟩ := mw k p hk
      exact h2 (R1.mu j k p hm h1 ▸ hj)
    have mO : ∀ j p, j ∈ vs → MutAt σ ds1 j p → p ∈ O2 := fun j p hj hm => st.o2 p (List.mem_cons_of_mem _ (R1.mutO hm)) (inw j p hj hm)
    refine hq (.own acc) ⟨restD ds2.sl ds1.sl vs, ds2.n⟩ (.ref D) H2 O2 (s1.trans ⟨a2.gr, fun p hp n => ?_, fun a o ha n => ke a o ha fun j hj => n j (mw j a hj).1, a2.dm, fun j dv hj => ?_, mo, bo⟩) ?_ ?_ q
    · exact st.o2 p (List.mem_cons_of_mem _ hp) fun j hj => n j (mw j p hj).1
    · by_cases hv : j ∈ vs
      · exact ⟨dv, by show (restD ds2.sl ds1.sl vs)[j]? = _; rw [restD_in l2 hv]; exact hj⟩
      · obtain ⟨dv', e'⟩ := st.sl j dv (by show (wipeD ds1.sl vs)[j]? = _; rw [wipeD_keep hv]; exact hj)
        exact ⟨dv', by show (restD ds2.sl ds1.sl vs)[j]? = _; rw [restD_out hv]; exact e'⟩
    · refine ⟨R2.lo, R2.sub, R2.ext, fun j dv hj => ?_, fun j k p h1 h2 => R1.mu j k p (mo j p h1) (mo k p h2), fun j p h1 => R1.new j p (mo j p h1), fun j p ys h1 h2 => ?_, R2.bx, fun j p hb => R1.bu j p (bo j p hb), fun j k p r h1 h2 => R1.b1 j k p r (bo j p h1) (bo k r h2), R2.fo, R2.bo, by show (restD ds2.sl ds1.sl vs).length = _; rw [restD_len, l2, R1.len]⟩
      · by_cases hv : j ∈ vs
        · have hj' : (restD ds2.sl ds1.sl vs)[j]? = some (some dv) := hj
          rw [restD_in l2 hv] at hj'
          obtain ⟨w', ew, r⟩ := R1.sl j dv hj'
          refine ⟨w', ew, ?_⟩
          cases dv with
          | exc xa xb => exact hs_ex R1.lo a2 r
          | d y => exact hs_rp R1.lo a2 r
          | own ys =>
            obtain ⟨p, us, e3, c1, c2, c3⟩ := r
            subst e3
            have hm : MutAt σ ds1 j p := ⟨ew, _, hj', trivial⟩
            exact ⟨p, us, rfl, mO j p hv hm, ke p _ c2 (inw j p hv hm), hs_rpl R1.lo a2 c3⟩
          | box => exact absurd hj' (noBox_ok hbx hv)
          | slot k => exact r
        · have hj' : (restD ds2.sl ds1.sl vs)[j]? = some (some dv) := hj
          rw [restD_out hv] at hj'
          obtain ⟨w', ew, r⟩ := R2.sl j dv hj'
          exact ⟨w', by rw [← wo j hv]; exact ew, r⟩
      · by_cases hv : j ∈ vs
        · have hj' : (restD ds2.sl ds1.sl vs)[j]? = some (some (.own ys)) := h2
          rw [restD_in l2 hv] at hj'
          exact R1.newO j p ys h1 hj'
        · have hj' : (restD ds2.sl ds1.sl vs)[j]? = some (some (.own ys)) := h2
          rw [restD_out hv] at hj'
          exact R2.newO j p ys (by rw [wo j hv]; exact h1) hj'
    · refine ⟨D, av, rfl, memD, s1.fresh R hD, hDin, eD, rl⟩
end
end SF

/-! SL45: comprehensions with two for: derivations and a rule to read them. -/
namespace SF
open PySem PySem.Spec PyProof.Rows L2
section
variable {X : Cx} {F : Fx} {tg it tg1 it1 elt : Expr} {pos : Pos}
theorem de_lc2 {s s1 : Bool} {T T1 vs1 : List Nat} {w w1 : DTI} {g g1 : DTG} {tt tt1 : DTT} {te : DTE} {ifs ifs1 : List Expr} {scope : Scope} {own : List (Str × Nat)} (hc : X.calm = true) (hN : X.N.Nodup) (hi : DI s X F tg it w) (ok : BlkOk X.N X.env.scope scope own)
    (hT : ∀ i ∈ T, i ∈ own.map (·.2)) (hT1 : ∀ i ∈ T1, i ∈ vs1) (hv : ∀ i ∈ vs1, i ∈ own.map (·.2))
    (hg : ∀ (s0 : Shared) (H : Hp) (C : Addr) (cl : List (Str × Addr)) (fp : List Addr), DG s T (X.blk s0 H scope (compEnvC scope cl C X.env) fp) F tg g)
    (ht : ∀ (s0 : Shared) (H : Hp) (C : Addr) (cl : List (Str × Addr)) (fp : List Addr), DTs (X.blk s0 H scope (compEnvC scope cl C X.env) fp) F ifs tt)
    (hi1 : ∀ (s0 : Shared) (H : Hp) (C : Addr) (cl : List (Str × Addr)) (fp : List Addr), DI s1 (X.blk s0 H scope (compEnvC scope cl C X.env) fp) F tg1 it1 w1)
    (hg1 : ∀ (s0 : Shared) (H : Hp) (C : Addr) (cl : List (Str × Addr)) (fp : List Addr), DG s1 T1 (X.blk s0 H scope (compEnvC scope cl C X.env) fp) F tg1 g1)
    (ht1 : ∀ (s0 : Shared) (H : Hp) (C : Addr) (cl : List (Str × Addr)) (fp : List Addr), DTs (X.blk s0 H scope (compEnvC scope cl C X.env) fp) F ifs1 tt1)
    (he : ∀ (s0 : Shared) (H : Hp) (C : Addr) (cl : List (Str × Addr)) (fp : List Addr), DE (X.blk s0 H scope (compEnvC scope cl C X.env) fp) F elt te)
    (hs : ∀ x, foldedSetIterable it X.env x = pure x := by intro _; rfl) (hs1 : ∀ env x, foldedSetIterable it1 env x = pure x := by intro _ _; rfl) : DE X F (.ListComp elt [⟨tg, it, ifs, 0⟩, ⟨tg1, it1, ifs1, 0⟩] scope pos) (dLc2 w g tt w1 g1 tt1 te (own.map (·.2)) vs1) :=
  PE_imp (pe_lc2 hc hN hi ok hv hg ht hi1 hg1 ht1 he hs hs1) fun σ H Q h => lc2_lift hT hT1 hv h
theorem ds_setLc2 {i : Nat} {y : Str} {py spos : Pos} {s s1 : Bool} {T T1 vs1 : List Nat} {w w1 : DTI} {g g1 : DTG} {tt tt1 : DTT} {te : DTE} {ifs ifs1 : List Expr} {scope : Scope} {own : List (Str × Nat)} (hc : X.calm = true) (hN : X.N.Nodup) (hy : X.N[i]? = some y) (hyl : X.env.scope.names.lookup y = some .local)
    (hsw : swapsWith (.ListComp elt [⟨tg, it, ifs, 0⟩, ⟨tg1, it1, ifs1, 0⟩] scope pos) (some (.Name y py)) spos.line X.env = pure true) (hi : DI s X F tg it w) (ok : BlkOk X.N X.env.scope scope own)
    (hT : ∀ i ∈ T, i ∈ own.map (·.2)) (hT1 : ∀ i ∈ T1, i ∈ vs1) (hv : ∀ i ∈ vs1, i ∈ own.map (·.2))
    (hg : ∀ (s0 : Shared) (H : Hp) (C : Addr) (cl : List (Str × Addr)) (fp : List Addr), DG s T (X.blk s0 H scope (compEnvC scope cl C X.env) fp) F tg g)
    (ht : ∀ (s0 : Shared) (H : Hp) (C : Addr) (cl : List (Str × Addr)) (fp : List Addr), DTs (X.blk s0 H scope (compEnvC scope cl C X.env) fp) F ifs tt)
    (hi1 : ∀ (s0 : Shared) (H : Hp) (C : Addr) (cl : List (Str × Addr)) (fp : List Addr), DI s1 (X.blk s0 H scope (compEnvC scope cl C X.env) fp) F tg1 it1 w1)
    (hg1 : ∀ (s0 : Shared) (H : Hp) (C : Addr) (cl : List (Str × Addr)) (fp : List Addr), DG s1 T1 (X.blk s0 H scope (compEnvC scope cl C X.env) fp) F tg1 g1)
    (ht1 : ∀ (s0 : Shared) (H : Hp) (C : Addr) (cl : List (Str × Addr)) (fp : List Addr), DTs (X.blk s0 H scope (compEnvC scope cl C X.env) fp) F ifs1 tt1)
    (he : ∀ (s0 : Shared) (H : Hp) (C : Addr) (cl : List (Str × Addr)) (fp : List Addr), DE (X.blk s0 H scope (compEnvC scope cl C X.env) fp) F elt te)
    (hs : ∀ x, foldedSetIterable it X.env x = pure x := by intro _; rfl) (hs1 : ∀ env x, foldedSetIterable it1 env x = pure x := by intro _ _; rfl) : DSt X F (.Assign [.Name y py] (.ListComp elt [⟨tg, it, ifs, 0⟩, ⟨tg1, it1, ifs1, 0⟩] scope pos) spos) (dSet i (dLc2 w g tt w1 g1 tt1 te (own.map (·.2)) vs1)) :=
  ds_asg (PS_imp (ps_setLc2 hc hN hy hyl hsw hi ok hv hg ht hi1 hg1 ht1 he hs hs1) fun D σ H h => lc2_lift hT hT1 hv h)
end
/-- two nested loops over coded items, the state unchanged -/
theorem lc2_map {α β : Type} (enc : α → D) (xs : List α) (enc1 : α → β → D) (ys : α → List β) (fn : α → β → Option D) {w w1 : DTI} {g g1 : DTG} {tt tt1 : DTT} {te : DTE} {vs vs1 : List Nat} {ds ds1 : DS} {Q : DV → DS → Prop} (dsI : α → DS)
    (hw : ∀ K : List D → DS → Prop, K (xs.map enc) ds1 → w ds K) (hb : noBox ds1.sl vs = true) (hlen : (xs.flatMap fun a => (ys a).filterMap (fn a)).length < 16777216)
    (hst : ∀ a ∈ xs, ∀ (K : List D → DS → Prop) (N : DS → Prop), K ((ys a).map (enc1 a)) (dsI a) → g (enc a) ⟨wipeD ds1.sl vs, ds1.n⟩ fun ds3 => tt ds3 fun b ds4 => match b with
      | true => w1 ds4 K
      | false => N ds4)
    (hwi : ∀ a ∈ xs, wipeD (wipeD (dsI a).sl vs1) vs = wipeD ds1.sl vs ∧ (dsI a).n = ds1.n)
    (hin : ∀ a ∈ xs, ∀ c ∈ ys a, ∀ (acc : List D) (P : List D → DS → Prop), acc.length < 16777216 → P (acc ++ (fn a c).toList) ⟨wipeD (dsI a).sl vs1, (dsI a).n⟩ → g1 (enc1 a c) ⟨wipeD (dsI a).sl vs1, (dsI a).n⟩ fun ds3 => tt1 ds3 fun b ds4 => match b with
      | true => te ds4 fun y ds5 => match frz ds5 y with
        | some (z, ds6) => acc.length < 16777216 ∧ P (acc ++ [z]) ⟨wipeD ds6.sl vs1, ds6.n⟩
        | none => False
      | false => P acc ⟨wipeD ds4.sl vs1, ds4.n⟩)
    (hQ : Q (.own (xs.flatMap fun a => (ys a).filterMap (fn a))) ⟨restD (wipeD ds1.sl vs) ds1.sl vs, ds1.n⟩) : dLc2 w g tt w1 g1 tt1 te vs vs1 ds Q := by
  unfold dLc2
  refine hw _ ?_
  rw [hb]
  have tk : ∀ {i : Nat} {a : α}, xs[i]? = some a → (xs.take (i + 1)).flatMap (fun a => (ys a).filterMap (fn a)) = (xs.take i).flatMap (fun a => (ys a).filterMap (fn a)) ++ (ys a).filterMap (fn a) := by
    intro i a h
    rw [List.take_add_one, h, List.flatMap_append]
    simp
  have pre : ∀ i : Nat, ((xs.take i).flatMap fun a => (ys a).filterMap (fn a)).length ≤ (xs.flatMap fun a => (ys a).filterMap (fn a)).length := by
    intro i
    have : xs = xs.take i ++ xs.drop i := (List.take_append_drop i xs).symm
    conv => rhs; rw [this, List.flatMap_append, List.length_append]
    omega
  refine ⟨fun i acc ds2 => acc = (xs.take i).flatMap (fun a => (ys a).filterMap (fn a)) ∧ ds2 = ⟨wipeD ds1.sl vs, ds1.n⟩, ⟨by simp, rfl⟩, ?_, ?_⟩
  · rintro i d acc ds2 hi ⟨rfl, rfl⟩
    rw [List.getElem?_map] at hi
    cases ex : xs[i]? with
    | none => rw [ex] at hi; cases hi
    | some a =>
      rw [ex] at hi
      cases hi
      have ha := List.mem_of_getElem? ex
      obtain ⟨w1', w2'⟩ := hwi a ha
      refine hst a ha _ (fun ds4 => _) ?_
      refine ⟨fun j acc1 ds6 => acc1 = (xs.take i).flatMap (fun a => (ys a).filterMap (fn a)) ++ ((ys a).take j).filterMap (fn a) ∧ ds6 = ⟨wipeD (dsI a).sl vs1, (dsI a).n⟩, ⟨by simp, rfl⟩, ?_, ?_⟩
      · rintro j d1 acc1 ds6 hj ⟨rfl, rfl⟩
        rw [List.getElem?_map] at hj
        cases ey : (ys a)[j]? with
        | none => rw [ey] at hj; cases hj
        | some c =>
          rw [ey] at hj
          cases hj
          refine hin a ha c (List.mem_of_getElem? ey) _ (fun acc1 ds6 => acc1 = (xs.take i).flatMap (fun a => (ys a).filterMap (fn a)) ++ ((ys a).take (j + 1)).filterMap (fn a) ∧ ds6 = ⟨wipeD (dsI a).sl vs1, (dsI a).n⟩) ?_ ⟨?_, rfl⟩
          · have h1 := pre (i + 1)
            rw [tk ex, List.length_append] at h1
            rw [List.length_append]
            have h2 : (((ys a).take j).filterMap (fn a)).length ≤ ((ys a).filterMap (fn a)).length := by
              have : ys a = (ys a).take j ++ (ys a).drop j := (List.take_append_drop j _).symm
              conv => rhs; rw [this, List.filterMap_append, List.length_append]
              omega
            omega
          · rw [List.take_add_one, ey, List.filterMap_append, List.append_assoc]
            congr 1
      · rintro acc1 ds6 ⟨rfl, rfl⟩
        rw [List.length_map, List.take_length, tk ex]
        exact ⟨rfl, by rw [w1', w2']⟩
  · rintro acc ds2 ⟨rfl, rfl⟩
    rw [List.length_map, List.take_length]
    exact hQ
end SF

/-! SL46: zip of a list and a tuple, in either order. -/
namespace SF
section
open PySem
open PySem.Sem (wp)
/-- true: a tuple, false: a list -/
def ItK (t : Bool) (h : Heap) (it l : Addr) (i : Nat) : Prop := match t with
  | true => h.IsTupleIter it l i
  | false => h.IsListIter it l i
def SqK (t : Bool) (h : Heap) (l : Addr) (items : Array Value) : Prop := match t with
  | true => h.IsTuple l items
  | false => h.IsList l items
theorem ItK.ext {t : Bool} {h h' : Heap} {it l z : Addr} {i : Nat} (p : ItK t h it l i) (k : Heap.ExtBut z h h') (ne : it ≠ z) : ItK t h' it l i := by
  cases t
  · exact Heap.IsListIter.extBut p k ne
  · exact Heap.IsTupleIter.extBut p k ne
theorem ItK.mv {t : Bool} {h h' : Heap} {it l : Addr} {i : Nat} (p : ItK t h it l i) (k : ∀ o, h.get? it = some o → h'.get? it = some o) : ItK t h' it l i := by
  cases t
  · exact Heap.IsListIter.at p k
  · exact Heap.IsTupleIter.at p k
theorem SqK.ext {t : Bool} {h h' : Heap} {l z : Addr} {items : Array Value} (p : SqK t h l items) (k : Heap.ExtBut z h h') (ne : l ≠ z) : SqK t h' l items := by
  cases t
  · exact Heap.IsList.extBut p k ne
  · exact Heap.IsTuple.extBut p k ne
theorem ItK.lt {t : Bool} {h : Heap} {it l : Addr} {i : Nat} (p : ItK t h it l i) : it < h.objs.size := by
  cases t
  · obtain ⟨_, e, _⟩ := p; exact Heap.lt_size e
  · obtain ⟨_, e, _⟩ := p; exact Heap.lt_size e
theorem SqK.lt {t : Bool} {h : Heap} {l : Addr} {items : Array Value} (p : SqK t h l items) : l < h.objs.size := by
  cases t
  · obtain ⟨_, e, _⟩ := p; exact Heap.lt_size e
  · obtain ⟨_, e, _⟩ := p; exact Heap.lt_size e
variable {prog : Program} {w : World} {A : Around} {E : Value → Shared → Prop} {s : Shared}
theorem nextK_item {t : Bool} {it l : Addr} {i : Nat} {items : Array Value} {x : Value} {Q : Value → Shared → Prop} (hit : ItK t s.heap it l i) (hl : SqK t s.heap l items) (hx : items[i]? = some x)
    (hQ : ∀ h', ItK t h' it l (i + 1) → Heap.SameBut it s.heap h' → Q x { s with heap := h' }) : wpAny (model prog w) A (Builtin.SmallTypes.nextOf (.ref it)) Q E s := by
  cases t
  · exact wpAny_nextOf_list_item hit hl hx hQ
  · exact RZ.nextOf_tuple_item hit hl hx hQ
theorem nextK_end {t : Bool} {it l : Addr} {i : Nat} {items : Array Value} {Q : Value → Shared → Prop} (hh : A.handled = none) (hit : ItK t s.heap it l i) (hl : SqK t s.heap l items) (hx : items[i]? = none)
    (hE : ∀ h' e, Heap.ExtBut it s.heap h' → (∃ o, h'.get? e = some o ∧ o.cls = .type "StopIteration") → E (.ref e) { s with heap := h' }) : wpAny (model prog w) A (Builtin.SmallTypes.nextOf (.ref it)) Q E s := by
  cases t
  · exact wpAny_nextOf_list_end hh hit hl hx hE
  · exact RZ.nextOf_tuple_end hh hit hl hx hE
section
variable {t u : Bool} {z TI TO i1 i2 l1 l2 : Addr} {k1 k2 : Nat} {xs ys : Array Value} {a b : Value}
theorem zipK_item {x y : Value} {Q : Value → Shared → Prop} (D : ZipApart z TI TO i1 i2 l1 l2) (hz : IsZip s.heap z TI TO .none) (hTI : IsPair s.heap TI (.ref i1) (.ref i2)) (hTO : IsPair s.heap TO a b)
    (h1 : ItK t s.heap i1 l1 k1) (h2 : ItK u s.heap i2 l2 k2) (hl1 : SqK t s.heap l1 xs) (hl2 : SqK u s.heap l2 ys) (hx : xs[k1]? = some x) (hy : ys[k2]? = some y)
    (hQ : ∀ h', IsZip h' z TI TO (rawInt s.heap.objs.size) → IsPair h' TO x y → ItK t h' i1 l1 (k1 + 1) → ItK u h' i2 l2 (k2 + 1) → IsPair h' s.heap.objs.size x y → h'.objs.size = s.heap.objs.size + 1 → (∀ c o, c ≠ z → c ≠ TO → c ≠ i1 → c ≠ i2 → s.heap.get? c = some o → h'.get? c = some o) → Q (.ref s.heap.objs.size) { s with heap := h' }) :
    wpAny (model prog w) A (Builtin.«zip.__next__» ⟨[.ref z], []⟩) (fun fin s' => ∃ v, fin = .done (.ret v) ∧ Q v s') E s := by
  show wpAny _ _ (field (.ref z) 2 >>= _) _ _ _
  refine wpAny_bind (wpAny_field hz rfl (x := .bool false) rfl ?_); show wpAny _ _ (field (.ref z) 3 >>= _) _ _ _
  refine wpAny_bind (wpAny_field hz rfl (x := .ref TI) rfl (wpAny_bind (wpAny_seqItems hTI rfl ?_)))
  show wpAny _ _ (Builtin.SmallTypes.ownedTupleIsFree (.ref z) >>= _) _ _ _; refine wpAny_bind ?_
  unfold Builtin.SmallTypes.ownedTupleIsFree
  refine wpAny_bind (wpAny_field hz rfl (x := .none) rfl (wpAny_pure ?_)); simp only [if_true]
  refine wpAny_bind (wpAny_rule (wpAny_bind (wpAny_field hz rfl (x := .ref TO) rfl (wpAny_bind (wpAny_setField_rec hz (by simp) fun g1 hz1 hs1 => ?_)))))
  have hz1 : IsZip g1 z TI TO .ellipsis := hz1
  refine wpAny_bind ?_; simp only [List.zipIdx_cons, List.zipIdx_nil, List.forIn_cons, List.forIn_nil]
  refine wpAny_bind (wpAny_bind (wpAny_onRaise ?_)); show wpAny _ _ (Builtin.SmallTypes.nextOf (.ref i1) >>= _) _ _ _
  refine wpAny_bind (nextK_item (h1.ext hs1.extBut D.i1z) (hl1.ext hs1.extBut D.l1z) hx fun g2 h12 hs2 => wpAny_pure ?_)
  have hTO2 : IsPair g2 TO a b := hs2.extBut _ _ D.TOi1 (hs1.extBut _ _ D.TOz hTO)
  refine wpAny_bind (wpAny_seqItems hTO2 rfl (wpAny_bind (wpAny_updateSeq_pair hTO2 fun g3 hTO3 hs3 => ?_)))
  have hTO3 : IsPair g3 TO x b := hTO3
  refine wpAny_bind (wpAny_letGo (wpAny_pure (wpAny_bind (wpAny_bind (wpAny_onRaise ?_))))); show wpAny _ _ (Builtin.SmallTypes.nextOf (.ref i2) >>= _) _ _ _
  refine wpAny_bind (nextK_item (((h2.ext hs1.extBut D.i2z).ext hs2.extBut D.i12.symm).ext hs3.extBut D.TOi2.symm) (((hl2.ext hs1.extBut D.l2z).ext hs2.extBut D.l2i1).ext hs3.extBut D.l2TO) hy fun g4 h24 hs4 => wpAny_pure ?_)
  have hTO4 : IsPair g4 TO x b := hs4.extBut _ _ D.TOi2 hTO3
  refine wpAny_bind (wpAny_seqItems hTO4 rfl (wpAny_bind (wpAny_updateSeq_pair hTO4 fun g5 hTO5 hs5 => ?_)))
  have hTO5 : IsPair g5 TO x y := hTO5
  refine wpAny_bind (wpAny_letGo (wpAny_pure (wpAny_pure (wpAny_bind (wpAny_seqItems hTO5 rfl (wpAny_bind (wpAny_newTuple ?_)))))))
  have sz : g5.objs.size = s.heap.objs.size := by rw [hs5.1, hs4.1, hs3.1, hs2.1, hs1.1]
  have hz5 : IsZip g5 z TI TO .ellipsis := hs5.extBut _ _ D.TOz.symm (hs4.extBut _ _ D.i2z.symm (hs3.extBut _ _ D.TOz.symm (hs2.extBut _ _ D.i1z.symm hz1)))
  have kp : ∀ c o, c ≠ z → c ≠ TO → c ≠ i1 → c ≠ i2 → s.heap.get? c = some o → g5.get? c = some o := fun c o c1 c2 c3 c4 e => hs5.extBut _ _ c2 (hs4.extBut _ _ c4 (hs3.extBut _ _ c2 (hs2.extBut _ _ c3 (hs1.extBut _ _ c1 e))))
  have h15 : ItK t g5 i1 l1 (k1 + 1) := ((h12.ext hs3.extBut D.TOi1.symm).ext hs4.extBut D.i12).ext hs5.extBut D.TOi1.symm
  have h25 : ItK u g5 i2 l2 (k2 + 1) := h24.ext hs5.extBut D.TOi2.symm
  have zl : z < g5.objs.size := Heap.lt_size hz5
  show wpAny _ _ (Builtin.SmallTypes.ownedTupleHandOut (.ref z) (.ref g5.objs.size) >>= _) _ _ _; refine wpAny_bind ?_
  unfold Builtin.SmallTypes.ownedTupleHandOut
  have hz6 : IsZip (g5.push { cls := .type "tuple", data := .seq #[x, y] }) z TI TO .ellipsis := Heap.get?_push_of_some _ hz5
  refine wpAny_bind (wpAny_setField_rec hz6 (by simp) fun g7 hz7 hs7 => ?_)
  have hz7 : IsZip g7 z TI TO (rawInt g5.objs.size) := hz7
  refine wpAny_setField_rec hz7 (by simp) fun g8 hz8 hs8 => ?_
  have hz8 : IsZip g8 z TI TO (rawInt g5.objs.size) := hz8
  have up : ∀ c o, c ≠ z → g5.get? c = some o → g8.get? c = some o := fun c o c1 e => hs8.extBut _ _ c1 (hs7.extBut _ _ c1 (Heap.get?_push_of_some _ e))
  have hT8 : IsPair g8 g5.objs.size x y := hs8.extBut _ _ (Nat.ne_of_gt zl) (hs7.extBut _ _ (Nat.ne_of_gt zl) (Heap.get?_push_size _ rfl))
  have s8 : g8.objs.size = g5.objs.size + 1 := by rw [hs8.1, hs7.1, Heap.size_push]
  rw [sz] at hz8 hT8 s8
  refine wpAny_pure ⟨_, rfl, ?_⟩
  show Q (.ref g5.objs.size) _
  rw [sz]
  exact hQ g8 hz8 (up _ _ D.TOz hTO5) (h15.mv fun o e => up _ o D.i1z e) (h25.mv fun o e => up _ o D.i2z e) hT8 s8 fun c o c1 c2 c3 c4 e => up c o c1 (kp c o c1 c2 c3 c4 e)
theorem zipK_end {Q : Fin → Shared → Prop} (hh : A.handled = none) (D : ZipApart z TI TO i1 i2 l1 l2) (hz : IsZip s.heap z TI TO .none) (hTI : IsPair s.heap TI (.ref i1) (.ref i2)) (hTO : IsPair s.heap TO a b)
    (h1 : ItK t s.heap i1 l1 k1) (h2 : ItK u s.heap i2 l2 k2) (hl1 : SqK t s.heap l1 xs) (hl2 : SqK u s.heap l2 ys) (hend : xs[k1]? = none ∨ ys[k2]? = none)
    (hE : ∀ h' e, (∀ c o, c ≠ z → c ≠ TO → c ≠ i1 → c ≠ i2 → s.heap.get? c = some o → h'.get? c = some o) → (∃ o, h'.get? e = some o ∧ o.cls = .type "StopIteration") → E (.ref e) { s with heap := h' }) : wpAny (model prog w) A (Builtin.«zip.__next__» ⟨[.ref z], []⟩) Q E s := by
  show wpAny _ _ (field (.ref z) 2 >>= _) _ _ _
  refine wpAny_bind (wpAny_field hz rfl (x := .bool false) rfl ?_); show wpAny _ _ (field (.ref z) 3 >>= _) _ _ _
  refine wpAny_bind (wpAny_field hz rfl (x := .ref TI) rfl (wpAny_bind (wpAny_seqItems hTI rfl ?_)))
  show wpAny _ _ (Builtin.SmallTypes.ownedTupleIsFree (.ref z) >>= _) _ _ _; refine wpAny_bind ?_
  unfold Builtin.SmallTypes.ownedTupleIsFree
  refine wpAny_bind (wpAny_field hz rfl (x := .none) rfl (wpAny_pure ?_)); simp only [if_true]
  refine wpAny_bind (wpAny_rule (wpAny_bind (wpAny_field hz rfl (x := .ref TO) rfl (wpAny_bind (wpAny_setField_rec hz (by simp) fun g1 hz1 hs1 => ?_)))))
  have hz1 : IsZip g1 z TI TO .ellipsis := hz1
  refine wpAny_bind ?_; simp only [List.zipIdx_cons, List.zipIdx_nil, List.forIn_cons, List.forIn_nil]
  refine wpAny_bind (wpAny_bind (wpAny_onRaise ?_)); show wpAny _ _ (Builtin.SmallTypes.nextOf (.ref i1) >>= _) _ _ _
  cases hx : xs[k1]? with
  | none =>
    refine wpAny_bind (nextK_end hh (h1.ext hs1.extBut D.i1z) (hl1.ext hs1.extBut D.l1z) hx fun g2 e hs2 he => ?_)
    obtain ⟨oe, hoe, hce⟩ := he
    have hz2 : IsZip g2 z TI TO .ellipsis := hs2 _ _ D.i1z.symm hz1
    have ez : e ≠ z := fun q => by subst q; rw [hz2] at hoe; cases hoe; simp at hce
    exact wpAny_setField_rec hz2 (by simp) fun g3 _ hs3 => hE g3 e (fun c o c1 _ c3 _ q => hs3.extBut _ _ c1 (hs2 _ _ c3 (hs1.extBut _ _ c1 q))) ⟨oe, hs3.extBut _ _ ez hoe, hce⟩
  | some x =>
    have hy : ys[k2]? = none := by
      rcases hend with q | q
      · rw [hx] at q; cases q
      · exact q
    refine wpAny_bind (nextK_item (h1.ext hs1.extBut D.i1z) (hl1.ext hs1.extBut D.l1z) hx fun g2 h12 hs2 => wpAny_pure ?_)
    have hTO2 : IsPair g2 TO a b := hs2.extBut _ _ D.TOi1 (hs1.extBut _ _ D.TOz hTO)
    refine wpAny_bind (wpAny_seqItems hTO2 rfl (wpAny_bind (wpAny_updateSeq_pair hTO2 fun g3 hTO3 hs3 => ?_)))
    refine wpAny_bind (wpAny_letGo (wpAny_pure (wpAny_bind (wpAny_bind (wpAny_onRaise ?_))))); show wpAny _ _ (Builtin.SmallTypes.nextOf (.ref i2) >>= _) _ _ _
    refine wpAny_bind (nextK_end hh (((h2.ext hs1.extBut D.i2z).ext hs2.extBut D.i12.symm).ext hs3.extBut D.TOi2.symm) (((hl2.ext hs1.extBut D.l2z).ext hs2.extBut D.l2i1).ext hs3.extBut D.l2TO) hy fun g4 e hs4 he => ?_)
    obtain ⟨oe, hoe, hce⟩ := he
    have hz4 : IsZip g4 z TI TO .ellipsis := hs4 _ _ D.i2z.symm (hs3.extBut _ _ D.TOz.symm (hs2.extBut _ _ D.i1z.symm hz1))
    have ez : e ≠ z := fun q => by subst q; rw [hz4] at hoe; cases hoe; simp at hce
    exact wpAny_setField_rec hz4 (by simp) fun g5 _ hs5 => hE g5 e (fun c o c1 c2 c3 c4 q => hs5.extBut _ _ c1 (hs4 _ _ c4 (hs3.extBut _ _ c2 (hs2.extBut _ _ c3 (hs1.extBut _ _ c1 q))))) ⟨oe, hs5.extBut _ _ ez hoe, hce⟩
theorem pyNextK_item {x y : Value} {Q : Option Value → Shared → Prop} (D : ZipApart z TI TO i1 i2 l1 l2) (hz : IsZip s.heap z TI TO .none) (hTI : IsPair s.heap TI (.ref i1) (.ref i2)) (hTO : IsPair s.heap TO a b)
    (h1 : ItK t s.heap i1 l1 k1) (h2 : ItK u s.heap i2 l2 k2) (hl1 : SqK t s.heap l1 xs) (hl2 : SqK u s.heap l2 ys) (hx : xs[k1]? = some x) (hy : ys[k2]? = some y)
    (hQ : ∀ h', IsZip h' z TI TO (rawInt s.heap.objs.size) → IsPair h' TO x y → ItK t h' i1 l1 (k1 + 1) → ItK u h' i2 l2 (k2 + 1) → IsPair h' s.heap.objs.size x y → h'.objs.size = s.heap.objs.size + 1 → (∀ c o, c ≠ z → c ≠ TO → c ≠ i1 → c ≠ i2 → s.heap.get? c = some o → h'.get? c = some o) → Q (some (.ref s.heap.objs.size)) { s with heap := h' }) :
    wpAny (model prog w) A (pyNext (.ref z)) Q E s := by
  have hT : s.TypeIs (.ref z) "zip" := ⟨_, hz, rfl⟩
  unfold pyNext
  refine wpAny_bind (wpAny_attempt (wpAny_callSpecial?_slot (name := Str.ofString "__next__") hT F.slot_zip_next ?_))
  exact wpAny_call_entry F.slot_zip_next hT F.entry_zip_next (zipK_item D hz hTI hTO h1 h2 hl1 hl2 hx hy fun g b1 b2 b3 b4 b5 b6 b7 => wpAny_pure (hQ g b1 b2 b3 b4 b5 b6 b7)) (F.args_zip_next_1 _)
theorem pyNextK_end {Q : Option Value → Shared → Prop} (hh : A.handled = none) (D : ZipApart z TI TO i1 i2 l1 l2) (hz : IsZip s.heap z TI TO .none) (hTI : IsPair s.heap TI (.ref i1) (.ref i2)) (hTO : IsPair s.heap TO a b)
    (h1 : ItK t s.heap i1 l1 k1) (h2 : ItK u s.heap i2 l2 k2) (hl1 : SqK t s.heap l1 xs) (hl2 : SqK u s.heap l2 ys) (hend : xs[k1]? = none ∨ ys[k2]? = none)
    (hQ : ∀ h', (∀ c o, c ≠ z → c ≠ TO → c ≠ i1 → c ≠ i2 → s.heap.get? c = some o → h'.get? c = some o) → Q none { s with heap := h' }) : wpAny (model prog w) A (pyNext (.ref z)) Q E s := by
  have hT : s.TypeIs (.ref z) "zip" := ⟨_, hz, rfl⟩
  unfold pyNext
  refine wpAny_bind (wpAny_attempt (wpAny_callSpecial?_slot (name := Str.ofString "__next__") hT F.slot_zip_next ?_))
  refine wpAny_call_entry F.slot_zip_next hT F.entry_zip_next (zipK_end hh D hz hTI hTO h1 h2 hl1 hl2 hend fun g e hk he => ?_) (F.args_zip_next_1 _)
  obtain ⟨o, ho, hc⟩ := he
  exact wpAny_bind (wpAny_isInstance (T := "StopIteration") (b := true) ⟨o, ho, hc⟩ isSubtype_stop (wpAny_pure (hQ _ hk)))
end
def itN (t : Bool) : String := match t with
  | true => "tuple_iterator"
  | false => "list_iterator"
abbrev zk1 (t : Bool) (h : Heap) (l1 : Addr) : Heap := h.push { cls := .type (itN t), data := .fields #[.ref l1, .int 0 0] }
abbrev zk2 (t u : Bool) (h : Heap) (l1 l2 : Addr) : Heap := (zk1 t h l1).push { cls := .type (itN u), data := .fields #[.ref l2, .int 0 0] }
abbrev zk3 (t u : Bool) (h : Heap) (l1 l2 : Addr) : Heap := (zk2 t u h l1 l2).push { cls := .type "tuple", data := .seq #[.ref h.objs.size, .ref (zk1 t h l1).objs.size] }
abbrev zk4 (t u : Bool) (h : Heap) (l1 l2 : Addr) : Heap := (zk3 t u h l1 l2).push { cls := .type "tuple", data := .seq #[.none, .none] }
abbrev zk5 (t u : Bool) (h : Heap) (l1 l2 : Addr) : Heap := (zk4 t u h l1 l2).push { cls := .type "zip", data := .fields #[.none, .bool false, .bool false, .ref (zk2 t u h l1 l2).objs.size, .ref (zk3 t u h l1 l2).objs.size] }
theorem meets_zipLT (l1 l2 : Addr) (xs ys : Array Value) : Meets (Builtin.«zip.__new__» ⟨[.type "zip", .ref l1, .ref l2], []⟩) (fun _ R s => s.heap.IsList l1 xs ∧ s.heap.IsTuple l2 ys ∧ R (.ok (.ret (.ref (zk4 false true s.heap l1 l2).objs.size))) { s with heap := zk5 false true s.heap l1 l2 }) :=
  .of_wp fun prog w A R s h => by
    obtain ⟨hp, g, d, tk, os⟩ := s
    obtain ⟨hl1, hl2, h⟩ := h
    have hsub := sub_zip
    have q1 : Heap.IsList (Shared.heap ⟨hp, g, d, tk, os⟩) l1 xs := hl1
    have q2 : Heap.IsTuple (Shared.heap ⟨hp.push { cls := .type "list_iterator", data := .fields #[.ref l1, .int 0 0] }, g, d, tk, os⟩) l2 ys := Heap.IsTuple.push hl2 _
    wp_walk using wpAny_pyIter_list q1, wpAny_pyIter_tuple q2
    exact ⟨_, rfl, h⟩
theorem meets_zipTL (l1 l2 : Addr) (xs ys : Array Value) : Meets (Builtin.«zip.__new__» ⟨[.type "zip", .ref l1, .ref l2], []⟩) (fun _ R s => s.heap.IsTuple l1 xs ∧ s.heap.IsList l2 ys ∧ R (.ok (.ret (.ref (zk4 true false s.heap l1 l2).objs.size))) { s with heap := zk5 true false s.heap l1 l2 }) :=
  .of_wp fun prog w A R s h => by
    obtain ⟨hp, g, d, tk, os⟩ := s
    obtain ⟨hl1, hl2, h⟩ := h
    have hsub := sub_zip
    have q1 : Heap.IsTuple (Shared.heap ⟨hp, g, d, tk, os⟩) l1 xs := hl1
    have q2 : Heap.IsList (Shared.heap ⟨hp.push { cls := .type "tuple_iterator", data := .fields #[.ref l1, .int 0 0] }, g, d, tk, os⟩) l2 ys := Heap.IsList.push hl2 _
    wp_walk using wpAny_pyIter_tuple q1, wpAny_pyIter_list q2
    exact ⟨_, rfl, h⟩
theorem call_zipK {t : Bool} {l1 l2 : Addr} {xs ys : Array Value} {Q : Value → Shared → Prop} (hl1 : SqK t s.heap l1 xs) (hl2 : SqK (!t) s.heap l2 ys)
    (h : ∀ h', IsZip h' (s.heap.objs.size + 4) (s.heap.objs.size + 2) (s.heap.objs.size + 3) .none → IsPair h' (s.heap.objs.size + 2) (.ref s.heap.objs.size) (.ref (s.heap.objs.size + 1)) →
      IsPair h' (s.heap.objs.size + 3) .none .none → ItK t h' s.heap.objs.size l1 0 → ItK (!t) h' (s.heap.objs.size + 1) l2 0 → h'.objs.size = s.heap.objs.size + 5 → (∀ c o, s.heap.get? c = some o → h'.get? c = some o) → Q (.ref (s.heap.objs.size + 4)) { s with heap := h' }) :
    wpAny (model prog w) A (call (.type "zip") [.ref l1, .ref l2]) Q E s := by
  have z1 : (zk1 t s.heap l1).objs.size = s.heap.objs.size + 1 := Heap.size_push ..
  have z2 : (zk2 t (!t) s.heap l1 l2).objs.size = s.heap.objs.size + 2 := by rw [Heap.size_push, z1]
  have z3 : (zk3 t (!t) s.heap l1 l2).objs.size = s.heap.objs.size + 3 := by rw [Heap.size_push, z2]
  have z4 : (zk4 t (!t) s.heap l1 l2).objs.size = s.heap.objs.size + 4 := by rw [Heap.size_push, z3]
  have z5 : (zk5 t (!t) s.heap l1 l2).objs.size = s.heap.objs.size + 5 := by rw [Heap.size_push, z4]
  have up1 : ∀ {hh : Heap} {c : Addr} {o o' : Obj}, hh.get? c = some o → (hh.push o').get? c = some o := fun e => Heap.get?_push_of_some _ e
  have g5 : (zk5 t (!t) s.heap l1 l2).get? (zk4 t (!t) s.heap l1 l2).objs.size = some _ := Heap.get?_push_size _ rfl
  have g4 : (zk5 t (!t) s.heap l1 l2).get? (zk3 t (!t) s.heap l1 l2).objs.size = some _ := up1 (Heap.get?_push_size _ rfl)
  have g3 : (zk5 t (!t) s.heap l1 l2).get? (zk2 t (!t) s.heap l1 l2).objs.size = some _ := up1 (up1 (Heap.get?_push_size _ rfl))
  have g2 : (zk5 t (!t) s.heap l1 l2).get? (zk1 t s.heap l1).objs.size = some _ := up1 (up1 (up1 (Heap.get?_push_size _ rfl)))
  have g1 : (zk5 t (!t) s.heap l1 l2).get? s.heap.objs.size = some _ := up1 (up1 (up1 (up1 (Heap.get?_push_size _ rfl))))
  rw [z2, z3, z4] at g5
  rw [z1, z2] at g3
  rw [z3] at g4
  rw [z1] at g2
  have r1 : ItK t (zk5 t (!t) s.heap l1 l2) s.heap.objs.size l1 0 := by cases t <;> exact ⟨_, g1, rfl, rfl⟩
  have r2 : ItK (!t) (zk5 t (!t) s.heap l1 l2) (s.heap.objs.size + 1) l2 0 := by cases t <;> exact ⟨_, g2, rfl, rfl⟩
  have fin := h _ g5 g3 g4 r1 r2 z5 fun c o q => up1 (up1 (up1 (up1 (up1 q))))
  cases t
  · refine callType_new F.called_zip (by decide) (F.typeCall_zip_2 _ _) (F.newCall_zip_2 _ _) (fun obj => F.args_object_init_3 obj _ _) F.entry_zip_new (meets_zipLT l1 l2 xs ys) ⟨hl1, hl2, ?_⟩
    show _ ∧ _
    rw [show (zk4 false true s.heap l1 l2).objs.size = s.heap.objs.size + 4 from z4]
    exact ⟨⟨_, g5, rfl⟩, fin⟩
  · refine callType_new F.called_zip (by decide) (F.typeCall_zip_2 _ _) (F.newCall_zip_2 _ _) (fun obj => F.args_object_init_3 obj _ _) F.entry_zip_new (meets_zipTL l1 l2 xs ys) ⟨hl1, hl2, ?_⟩
    show _ ∧ _
    rw [show (zk4 true false s.heap l1 l2).objs.size = s.heap.objs.size + 4 from z4]
    exact ⟨⟨_, g5, rfl⟩, fin⟩
end
end SF

/-! SL47: zip of a list and a tuple as a loop, over data. -/
namespace SF
open PySem PySem.Spec PyProof.Rows L2
def SqV (K : Fg) (t : Bool) (H : Hp) (a : Addr) (xs : List V) : Prop := match t with
  | true => SqT K H a xs
  | false => SqL K H a xs
theorem sqv_in {X : Cx} {pins : List (Addr × Obj)} {σ : L2.St} {H : Hp} {s : Shared} {t : Bool} {a : Addr} {xs : List V} (I : Inv X pins σ H s) (h : SqV X.K t H a xs) : ∃ its, Vals xs its ∧ SqK t s.heap a its.toArray := by
  cases t
  · obtain ⟨its, rv, p, _⟩ := I.list h
    exact ⟨its, rv, p.isList⟩
  · obtain ⟨its, rv, p, _⟩ := I.tuple h
    exact ⟨its, rv, p⟩
theorem sqv_inj {X : Cx} {pins : List (Addr × Obj)} {σ : L2.St} {H : Hp} {s : Shared} {t : Bool} {a : Addr} {xs ys : List V} (I : Inv X pins σ H s) (h : SqV X.K t H a xs) (h' : SqV X.K t H a ys) : xs = ys := by
  cases t
  · exact I.list_inj h h'
  · exact I.tuple_inj h h'
/-- pairs of what stands at a and at b, as it stands at each turn -/
def ItzK (K : Fg) (t u : Bool) (a b : Addr) : It :=
  ⟨fun i H => ∃ (xs ys : List V) (x y : V), SqV K t H a xs ∧ SqV K u H b ys ∧ xs[i]? = some x ∧ ys[i]? = some y, fun i H v H' => ∃ T x y, v = .ref T ∧ H T = none ∧ H' = upd H T (.tup [x, y]) ∧ (∀ xs, SqV K t H a xs → xs[i]? = some x) ∧ ∀ ys, SqV K u H b ys → ys[i]? = some y,
    fun i H => ∃ xs ys : List V, SqV K t H a xs ∧ SqV K u H b ys ∧ (xs.length ≤ i ∨ ys.length ≤ i)⟩
theorem five {z TI TO i1 i2 c : Addr} (h : c ∈ [z, TI, TO, i1, i2]) : c = z ∨ c = TI ∨ c = TO ∨ c = i1 ∨ c = i2 := by simpa using h
theorem five_no {z TI TO i1 i2 c : Addr} (h : ¬ c ∈ [z, TI, TO, i1, i2]) : c ≠ z ∧ c ≠ TI ∧ c ≠ TO ∧ c ≠ i1 ∧ c ≠ i2 := by
  simp only [List.mem_cons, List.not_mem_nil, or_false, not_or] at h
  exact h
theorem ItK.ob {t : Bool} {h : Heap} {it l : Addr} {i : Nat} (p : ItK t h it l i) : ∃ o, h.get? it = some o ∧ ∀ v, o.data ≠ .cell v := by
  cases t
  · obtain ⟨o, e, _, d⟩ := p
    exact ⟨o, e, fun v q => by rw [d] at q; cases q⟩
  · obtain ⟨o, e, _, d⟩ := p
    exact ⟨o, e, fun v q => by rw [d] at q; cases q⟩
theorem turn_zipK {P : Program} {w : World} {K : Fg} {elts : List Expr} {kk : Nat} {tpos : Pos} {t u : Bool} {a b z TI TO i1 i2 : Addr} (D : ZipApart z TI TO i1 i2 a b) :
    Turn P w K (.Tuple elts kk tpos) (ItzK K t u a b) [z, TI, TO, i1, i2] z (fun i h => IsZip h z TI TO .none ∧ IsPair h TI (.ref i1) (.ref i2) ∧ (∃ x y, IsPair h TO x y) ∧ ItK t h i1 a i ∧ ItK u h i2 b i) where
  mem := by simp
  obj := fun i h st c hc => by
    obtain ⟨hz, hTI, ⟨x, y, hTO⟩, p1, p2⟩ := st
    rcases five hc with q | q | q | q | q <;> rw [q]
    · exact ⟨_, hz, fun v q => nomatch q⟩
    · exact ⟨_, hTI, fun v q => nomatch q⟩
    · exact ⟨_, hTO, fun v q => nomatch q⟩
    · exact p1.ob
    · exact p2.ob
  keep := fun i h h' st k => by
    obtain ⟨hz, hTI, ⟨x, y, hTO⟩, h1, h2⟩ := st
    exact ⟨k z (by simp) _ hz, k TI (by simp) _ hTI, ⟨x, y, k TO (by simp) _ hTO⟩, h1.mv fun o q => k i1 (by simp) o q, h2.mv fun o q => k i2 (by simp) o q⟩
  item := by
    intro X hP hw hK hc i pins s σ H E I hf st hg
    subst hP hw hK
    obtain ⟨hz, hTI, ⟨x0, y0, hTO⟩, h1, h2⟩ := st
    obtain ⟨xs, ys, x, y, hqx, hqy, hx, hy⟩ := hg
    obtain ⟨its, rv, p⟩ := sqv_in I hqx
    obtain ⟨its2, rv2, p2⟩ := sqv_in I hqy
    obtain ⟨v1, hu, ru⟩ := rv.get hx
    obtain ⟨v2, hu2, ru2⟩ := rv2.get hy
    have zl : z < s.heap.objs.size := Heap.lt_size hz
    refine pyNextK_item D hz hTI hTO h1 h2 p p2 (x := v1) (y := v2) (by simpa using hu) (by simpa using hu2) fun g z' TO' h1' h2' hT hsz hk => ?_
    refine ⟨_, rfl, wpAny_letOwnedTupleGo_zip (s := { s with heap := g }) z' fun g2 z2 sb => ?_⟩
    have hT2 : g2.get? s.heap.objs.size = some { cls := .type "tuple", data := .seq #[v1, v2] } := (sb.2 _ (Nat.ne_of_gt zl)).trans hT
    have new : ObjOk X.prog X.w (upd H s.heap.objs.size (.tup [x, y])) g2 s.heap.objs.size (.tup [x, y]) := ⟨by show 2 ≤ sizeLine; decide, [v1, v2], .cons ru (.cons ru2 .nil), ⟨_, hT2, rfl, _, rfl⟩⟩
    have I1 : Inv X pins σ (upd H s.heap.objs.size (.tup [x, y])) { s with heap := g2 } :=
      I.turnedNew (t' := s.toks) (ch := [z, TI, TO, i1, i2]) (fun c o hb q => by
        obtain ⟨n1, n2, n3, n4, n5⟩ := five_no hb
        exact (sb.2 c n1).trans (hk c o n1 n3 n4 n5 q)) hf (Nat.le_refl _) new
    refine ⟨.ref s.heap.objs.size, _, I1, rfl, ⟨_, x, y, rfl, I.hok.fresh (Nat.le_refl _), rfl, fun l hl => by rw [sqv_inj I hl hqx]; exact hx, fun l hl => by rw [sqv_inj I hl hqy]; exact hy⟩, ⟨z2, ?_, ⟨v1, v2, ?_⟩, ?_, ?_⟩, fun c hcm => ?_⟩
    · exact (sb.2 _ D.TIz).trans (hk _ _ D.TIz D.TITO D.TIi1 D.TIi2 hTI)
    · exact (sb.2 _ D.TOz).trans TO'
    · exact h1'.mv fun o q => (sb.2 _ D.i1z).trans q
    · exact h2'.mv fun o q => (sb.2 _ D.i2z).trans q
    · have hlt : c < s.heap.objs.size := by
        rcases five hcm with q | q | q | q | q <;> rw [q]
        · exact zl
        · exact Heap.lt_size hTI
        · exact Heap.lt_size hTO
        · exact h1.lt
        · exact h2.lt
      rw [upd_ne (Nat.ne_of_lt hlt)]
      exact (hf c hcm).1
  done := by
    intro X hP hw hK hc i pins s σ H E I hf st hg
    subst hP hw hK
    obtain ⟨hz, hTI, ⟨x0, y0, hTO⟩, h1, h2⟩ := st
    obtain ⟨xs, ys, hqx, hqy, hend⟩ := hg
    obtain ⟨its, rv, p⟩ := sqv_in I hqx
    obtain ⟨its2, rv2, p2⟩ := sqv_in I hqy
    have l1 := rv.length
    have l2 := rv2.length
    have he : its.toArray[i]? = none ∨ its2.toArray[i]? = none := by
      rcases hend with q | q
      · exact .inl (by simp; omega)
      · exact .inr (by simp; omega)
    exact pyNextK_end (I.ok.hd hc) D hz hTI hTO h1 h2 p p2 he fun g hk => ⟨rfl, I.turnedL (t' := s.toks) (ch := [z, TI, TO, i1, i2]) (fun c o hb q => by
      obtain ⟨n1, n2, n3, n4, n5⟩ := five_no hb
      exact hk c o n1 n3 n4 n5 q) hf⟩
  self := fun A i s Q E st h => wpAny_pyIter_zip st.1 h
section
variable {prog : Program} {w : World} {A : Around} {E : Value → Shared → Prop} {s : Shared}
theorem call_zipU {t u : Bool} {l1 l2 : Addr} {xs ys : Array Value} {Q : Value → Shared → Prop} (hl1 : SqK t s.heap l1 xs) (hl2 : SqK u s.heap l2 ys)
    (h : ∀ h', IsZip h' (s.heap.objs.size + 4) (s.heap.objs.size + 2) (s.heap.objs.size + 3) .none → IsPair h' (s.heap.objs.size + 2) (.ref s.heap.objs.size) (.ref (s.heap.objs.size + 1)) → IsPair h' (s.heap.objs.size + 3) .none .none → ItK t h' s.heap.objs.size l1 0 → ItK u h' (s.heap.objs.size + 1) l2 0 → h'.objs.size = s.heap.objs.size + 5 → (∀ c o, s.heap.get? c = some o → h'.get? c = some o) → Q (.ref (s.heap.objs.size + 4)) { s with heap := h' }) :
    wpAny (model prog w) A (call (.type "zip") [.ref l1, .ref l2]) Q E s := by
  cases t <;> cases u
  · exact call_zip_2 hl1 hl2 h
  · exact call_zipK (t := false) hl1 hl2 h
  · exact call_zipK (t := true) hl1 hl2 h
  · exact RZ.call_zipT hl1 hl2 h
end
def iZipM (K : Fg) (ta : TA) : TI := fun σ H R => ta σ H fun vs H1 => ∃ a b xs ys t u, vs = [.ref a, .ref b] ∧ SqV K t H1 a xs ∧ SqV K u H1 b ys ∧ R (ItzK K t u a b) H1
theorem pi_zipM {X : Cx} {e e2 : Expr} {ta : TA} {p pos tpos : Pos} {elts : List Expr} {kk : Nat} (hg : Gl X "zip") (hm : X.mg "zip" = none) (ha : PA X [e, e2] ta) (hs : starEach [e, e2] X.env = (false, eval e X.env) :: starEach [e2] X.env := by rfl) (hpl : (backTo pos (starEach [e2] X.env)).any (·.1) = false := by rfl) :
    PI X (.Tuple elts kk tpos) (.Call (.Name "zip" p) [e, e2] [] pos) (iZipM X.K ta) := by
  refine ⟨fun pins s σ H R I h => ?_⟩
  refine Call_ (ld_blt I hg hm PyProof.Rows.boot_zip (PyProof.Rows.callWith_type1 (thn (ha.run pos pins s σ H _ I h) fun us s1 ⟨vs, H1, I1, r1, q1⟩ => ?_) hs hpl))
  obtain ⟨a, b, xs, ys, t, u, ex, hqx, hqy, q⟩ := q1
  subst ex
  cases r1 with
  | cons r rr =>
    cases rr with
    | cons r' rr =>
      cases rr
      cases r
      cases r'
      obtain ⟨its, rv, p1⟩ := sqv_in I1 hqx
      obtain ⟨its2, rv2, p2⟩ := sqv_in I1 hqy
      refine call_zipU p1 p2 fun g hz hTI hTO h1 h2 hsz hk => wpAny_pyIter_zip hz ?_
      have I2 : Inv X pins σ H1 { s1 with heap := g } := I1.kept (t' := s1.toks) hk
      refine ⟨s1.heap.objs.size + 4, [s1.heap.objs.size + 4, s1.heap.objs.size + 2, s1.heap.objs.size + 3, s1.heap.objs.size, s1.heap.objs.size + 1], _, _, H1, rfl, I2, turn_zipK (PySem.W.ktu_apart s1.heap.objs.size a b p1.lt p2.lt), ⟨hz, hTI, ⟨_, _, hTO⟩, h1, h2⟩, fun c hcm => ?_, q⟩
      have hle : s1.heap.objs.size ≤ c := by
        rcases five hcm with z | z | z | z | z <;> rw [z]
        · exact Nat.le_add_right _ _
        · exact Nat.le_add_right _ _
        · exact Nat.le_add_right _ _
        · exact Nat.le_refl _
        · exact Nat.le_add_right _ _
      exact I1.fpOk hle (I1.hok.fresh hle)
section
variable {X : Cx} {F : Fx} {tg e a b : Expr} {te : DTE} {tA : DTA} {p pos tpos : Pos}
/-- the value is this row of items, a tuple or a list that nobody changes -/
theorem seq_of {K : Fg} {H : Hp} {O : List Addr} {v : V} {d : D} {xs : List D} (r : Rp K H O v d) (h : seqD d = some xs) : ∃ a vs t, v = .ref a ∧ SqV K t H a vs ∧ RpL K H O vs xs ∧ ∀ H2 O2, HS O H O2 H2 → LO O H → SqV K t H2 a vs := by
  unfold seqD at h
  split at h
  · cases h
    cases r with
    | lst h1 l1 => exact ⟨_, _, false, rfl, .inl (.inl h1.1), l1, fun H2 O2 hs lo => .inl (.inl (hs.kp _ _ h1.1 h1.2))⟩
  · cases h
    cases r with
    | tup h1 l1 => exact ⟨_, _, true, rfl, TpA.seq h1, l1, fun H2 O2 hs lo => SqT.mv lo hs.kp (TpA.seq h1)⟩
  · cases h
theorem itok_zipU {K : Fg} {H : Hp} {O : List Addr} {t u : Bool} {a b : Addr} {vs ws : List V} {xs ys : List D} (lo : LO O H) (h : ∀ H2 O2, HS O H O2 H2 → LO O H → SqV K t H2 a vs) (h' : ∀ H2 O2, HS O H O2 H2 → LO O H → SqV K u H2 b ws) (r : RpL K H O vs xs) (r' : RpL K H O ws ys) (hz : xs.length ≤ 16777216) : ItOk false K (ItzK K t u a b) (zipD xs ys) O H where
  len := by rw [zipD_len, sizeLine_eq]; omega
  go := fun H2 O2 lo2 hs i hi => by
    rw [zipD_len] at hi
    have h2 := h H2 O2 hs lo
    have h2' := h' H2 O2 hs lo
    have i1 : i < xs.length := by omega
    have i2 : i < ys.length := by omega
    obtain ⟨v, ev, rv⟩ := (hs_rpl lo hs r).get (List.getElem?_eq_getElem i1)
    obtain ⟨w, ew, rw'⟩ := (hs_rpl lo hs r').get (List.getElem?_eq_getElem i2)
    refine ⟨⟨vs, ws, v, w, h2, h2', ev, ew⟩, fun x H3 hy => ?_⟩
    obtain ⟨T, x1, x2, e1, hT, e2, f1, f2⟩ := hy
    subst e1 e2
    have q1 := f1 vs h2
    have q2 := f2 ws h2'
    rw [ev] at q1; cases q1
    rw [ew] at q2; cases q2
    have sm := same_new (o := .tup [v, w]) hT
    refine ⟨_, zipD_get (List.getElem?_eq_getElem i1) (List.getElem?_eq_getElem i2), sm, T, [v, w], _, rfl, rfl, .inl (.inl upd_same), ?_⟩
    exact .cons (Rp.mv lo2 (same_keep sm) grow_refl rv) (.cons (Rp.mv lo2 (same_keep sm) grow_refl rw') .nil)
  stop := fun H2 O2 lo2 hs => ⟨vs, ws, h H2 O2 hs lo, h' H2 O2 hs lo, by rw [zipD_len, r.length, r'.length]; omega⟩
/-- zip of two, each a list or a tuple -/
def dZip2 (tA : DTA) : DTI := fun ds Q => tA ds fun xs ds1 => match frzL ds1 xs with
  | some ([x, y], ds2) => match seqD x, seqD y with
    | some xs, some ys => xs.length ≤ 16777216 ∧ Q (zipD xs ys) ds2
    | _, _ => False
  | _ => False
theorem di_zip2 {elts : List Expr} {kk : Nat} (hg : Gl X "zip") (hm : X.mg "zip" = none) (ha : DA X F [a, b] tA) (hs : starEach [a, b] X.env = (false, eval a X.env) :: starEach [b] X.env := by rfl) (hpl : (backTo pos (starEach [b] X.env)).any (·.1) = false := by rfl) :
    DI false X F (.Tuple elts kk tpos) (.Call (.Name "zip" p) [a, b] [] pos) (dZip2 tA) :=
  PI_imp (pi_zipM hg hm ha hs hpl) fun σ H Q ⟨O, ds, Qa, R, ht, hq⟩ => ⟨O, ds, _, R, ht, fun xs ds1 vs H1 O1 s1 R1 rx hx => by
    split at hx
    · rename_i x y ds2 e
      split at hx
      · rename_i xs ys ex ey
        obtain ⟨O2, s2, R2, rl, _⟩ := frzL_ok R s1 R1 rx e
        cases rl with
        | cons r1 rl =>
          cases rl with
          | cons r2 rl =>
            cases rl
            obtain ⟨p1, us1, t1, e1, h1, l1, k1⟩ := seq_of r1 ex
            obtain ⟨p2, us2, t2, e2, h2, l2, k2⟩ := seq_of r2 ey
            subst e1 e2
            exact ⟨_, _, _, _, _, _, rfl, h1, h2, hq _ ds2 H1 O2 _ s2 R2 (itok_zipU R2.lo k1 k2 l1 l2 hx.1) hx.2⟩
      · exact hx.elim
    · exact hx.elim⟩
end
end SF

/-! SL48: max and min with a default, min and max of rows of data. -/
namespace SF
open PySem PySem.Spec PyProof.Rows L2
theorem alike_ints {ns : List Int} : PySem.W.AlikeAll (ns.map PyData.int) := ⟨fun x hx y hy => by
  obtain ⟨i, _, rfl⟩ := List.mem_map.mp hx
  obtain ⟨j, _, rfl⟩ := List.mem_map.mp hy
  rfl, fun x hx => by
  obtain ⟨i, _, rfl⟩ := List.mem_map.mp hx
  intro z; cases z⟩
theorem depth_ints : ∀ ns : List Int, PyData.depthAll (ns.map PyData.int) ≤ 1
  | [] => by simp [PyData.depthAll]
  | n :: ns => by
    have := depth_ints ns
    simp only [List.map_cons, PyData.depthAll, PyData.depth]
    omega
theorem intsRd {h : Heap} : ∀ {vs : List Value} {ns : List Int}, IntsAre vs ns → ReadsAll h vs (ns.map PyData.int) []
  | _, _, .nil => .nil
  | _, _, .cons n t r => readsAll_cons_val (.int n t) (intsRd r)
def maxOr (c : Int) : List Int → Int
  | [] => c
  | n :: ms => ms.foldl max n
def minOr (c : Int) : List Int → Int
  | [] => c
  | n :: ms => ms.foldl min n
def tDf (K : Fg) (g : List Int → Int) (ta : TE) : TE := fun σ H Q => ta σ H fun x H1 => ∃ (a : Addr) (ns : List Int), x = .ref a ∧ SqL K H1 a (ns.map V.int) ∧ Q (.int (g ns)) H1
section
variable {X : Cx} {F : Fx} {a : Expr} {ta : TE} {te : DTE} {c : Int} {p cp kp pos : Pos} {jk : Nat}
theorem pe_maxDf (hc : X.calm = true) (hu : X.A.units + 65 < cLine) (hg : Gl X "max") (hm : X.mg "max" = none) (ha : PE X a ta) (hs : starEach [a] X.env = (false, eval a X.env) :: starEach [] X.env := by rfl) (he : backTo pos (starEach [a] X.env) = (false, eval a X.env) :: backTo pos (starEach [] X.env) := by rfl) (hp : (backTo pos (starEach [a] X.env)).any (·.1) = false := by rfl) :
    PE X (.Call (.Name "max" p) [a] [⟨some "default", .Constant (.int c) jk cp, kp⟩] pos) (tDf X.K (maxOr c) ta) := by
  refine ⟨fun pins s σ H Q I h => ?_⟩
  refine wpAny_Call_Name_kw (ld_blt I hg hm PyProof.Rows.boot_max ?_ (by decide) (by decide))
  refine PyProof.Rows.callWith_kw (thn ((pa_cons ha pa_nil hs).run pos pins s σ H (fun vs H1 => match vs with | [x] => (∃ (a : Addr) (ns : List Int), x = .ref a ∧ SqL X.K H1 a (ns.map V.int) ∧ Q (.int (maxOr c ns)) H1) | _ => False) I h) fun us s1 ⟨vs, H1, I1, r1, q1⟩ => ?_) he hp
  dsimp only at q1
  split at q1
  · obtain ⟨l, ns, rfl, hsq, q⟩ := q1
    rw [Vals.ref1 r1]
    refine PyProof.Rows.kws_cons (thn (pe_int.run pins s1 σ H1 (fun x H' => x = V.int c ∧ H' = H1) I1 ⟨rfl, rfl⟩) fun u s2 ⟨y, H2, I2, r2, e1, e2⟩ => PyProof.Rows.kws_nil ?_)
    subst e1 e2
    obtain ⟨its, rv, hl, _⟩ := I2.list hsq
    have dp := depth_ints ns
    refine PySem.W.max_list_default (I2.ok.hd hc) hl.isList (xs := ns.map PyData.int) (intsRd rv.ints) alike_ints (by omega) (fun e g tk hk => ?_) fun y ys i v g tk bs e hv hr hk => ?_
    · cases ns with
      | nil => exact ⟨.int c, H2, I2.kept hk, r2, q⟩
      | cons n ms => cases e
    · cases ns with
      | nil => cases e
      | cons n ms =>
        cases e
        rw [PySem.W.maxD_ints] at hr
        obtain ⟨t, rfl, _⟩ := reads_int_inv hr
        exact ⟨.int _, H2, I2.kept hk, ⟨t, rfl⟩, q⟩
  · exact q1.elim
theorem pe_minDf (hc : X.calm = true) (hu : X.A.units + 65 < cLine) (hg : Gl X "min") (hm : X.mg "min" = none) (ha : PE X a ta) (hs : starEach [a] X.env = (false, eval a X.env) :: starEach [] X.env := by rfl) (he : backTo pos (starEach [a] X.env) = (false, eval a X.env) :: backTo pos (starEach [] X.env) := by rfl) (hp : (backTo pos (starEach [a] X.env)).any (·.1) = false := by rfl) :
    PE X (.Call (.Name "min" p) [a] [⟨some "default", .Constant (.int c) jk cp, kp⟩] pos) (tDf X.K (minOr c) ta) := by
  refine ⟨fun pins s σ H Q I h => ?_⟩
  refine wpAny_Call_Name_kw (ld_blt I hg hm PyProof.Rows.boot_min ?_ (by decide) (by decide))
  refine PyProof.Rows.callWith_kw (thn ((pa_cons ha pa_nil hs).run pos pins s σ H (fun vs H1 => match vs with | [x] => (∃ (a : Addr) (ns : List Int), x = .ref a ∧ SqL X.K H1 a (ns.map V.int) ∧ Q (.int (minOr c ns)) H1) | _ => False) I h) fun us s1 ⟨vs, H1, I1, r1, q1⟩ => ?_) he hp
  dsimp only at q1
  split at q1
  · obtain ⟨l, ns, rfl, hsq, q⟩ := q1
    rw [Vals.ref1 r1]
    refine PyProof.Rows.kws_cons (thn (pe_int.run pins s1 σ H1 (fun x H' => x = V.int c ∧ H' = H1) I1 ⟨rfl, rfl⟩) fun u s2 ⟨y, H2, I2, r2, e1, e2⟩ => PyProof.Rows.kws_nil ?_)
    subst e1 e2
    obtain ⟨its, rv, hl, _⟩ := I2.list hsq
    have dp := depth_ints ns
    refine PySem.W.min_list_default (I2.ok.hd hc) hl.isList (xs := ns.map PyData.int) (intsRd rv.ints) alike_ints (by omega) (fun e g tk hk => ?_) fun y ys i v g tk bs e hv hr hk => ?_
    · cases ns with
      | nil => exact ⟨.int c, H2, I2.kept hk, r2, q⟩
      | cons n ms => cases e
    · cases ns with
      | nil => cases e
      | cons n ms =>
        cases e
        rw [PySem.W.minD_ints] at hr
        obtain ⟨t, rfl, _⟩ := reads_int_inv hr
        exact ⟨.int _, H2, I2.kept hk, ⟨t, rfl⟩, q⟩
  · exact q1.elim
/-- max(xs, default=c), min(xs, default=c) -/
@[irreducible] def dDf (g : List Int → Int) (te : DTE) : DTE := fun ds Q => te ds fun x ds1 => match peek ds1 x with
  | some (.list xs) => someD (intsD xs) fun ns => Q (.d (.int (g ns))) ds1
  | _ => False
theorem df_lift {g : List Int → Int} {σ : L2.St} {H : Hp} {Q : VK} (h : lift X.K F (dDf g te) σ H Q) : tDf X.K g (lift X.K F te) σ H Q := by
  obtain ⟨O, ds, Qa, R, ht, hq⟩ := h
  unfold dDf at ht
  refine ⟨O, ds, _, R, ht, fun x ds1 v H1 O1 s1 R1 rx hx => ?_⟩
  split at hx
  · rename_i xs e
    cases ei : intsD xs with
    | none => rw [ei] at hx; exact hx.elim
    | some ns =>
      rw [ei] at hx
      obtain ⟨q, vs, e1, h1, r1⟩ := (RpV.vw R1 rx e).list
      subst e1
      rw [intsD_ok ei] at r1
      have er := r1.ints
      subst er
      exact ⟨q, ns, rfl, .inl (.inl h1), (mkCont R s1 R1 hq).d _ _ (.int _) hx⟩
  · exact hx.elim
theorem de_maxDf (hc : X.calm = true) (hu : X.A.units + 65 < cLine) (hg : Gl X "max") (hm : X.mg "max" = none) (ha : DE X F a te) (hs : starEach [a] X.env = (false, eval a X.env) :: starEach [] X.env := by rfl) (he : backTo pos (starEach [a] X.env) = (false, eval a X.env) :: backTo pos (starEach [] X.env) := by rfl) (hp : (backTo pos (starEach [a] X.env)).any (·.1) = false := by rfl) :
    DE X F (.Call (.Name "max" p) [a] [⟨some "default", .Constant (.int c) jk cp, kp⟩] pos) (dDf (maxOr c) te) := PE_imp (pe_maxDf hc hu hg hm ha hs he hp) fun σ H Q h => df_lift h
theorem de_minDf (hc : X.calm = true) (hu : X.A.units + 65 < cLine) (hg : Gl X "min") (hm : X.mg "min" = none) (ha : DE X F a te) (hs : starEach [a] X.env = (false, eval a X.env) :: starEach [] X.env := by rfl) (he : backTo pos (starEach [a] X.env) = (false, eval a X.env) :: backTo pos (starEach [] X.env) := by rfl) (hp : (backTo pos (starEach [a] X.env)).any (·.1) = false := by rfl) :
    DE X F (.Call (.Name "min" p) [a] [⟨some "default", .Constant (.int c) jk cp, kp⟩] pos) (dDf (minOr c) te) := PE_imp (pe_minDf hc hu hg hm ha hs he hp) fun σ H Q h => df_lift h
theorem df_in {g : List Int → Int} {ns : List Int} {ds ds1 : DS} {x : DV} {Q : DV → DS → Prop} (hp : peek ds1 x = some (.list (ns.map .int))) (hi : intsD (ns.map .int) = some ns) (q : Q (.d (.int (g ns))) ds1) (hw : (∀ K : DV → DS → Prop, K x ds1 → te ds K)) : dDf g te ds Q := by
  unfold dDf
  refine hw _ ?_
  rw [hp]
  show someD (intsD (ns.map .int)) _
  rw [hi]
  exact q
end
/-! min of rows of data -/
section
variable {X : Cx} {F : Fx}
def rMinD (K : Fg) : List V → Hp → VK → Prop := fun xs H Q => ∃ (a : Addr) (vs : List V) (y : D) (ys : List D), xs = [.ref a] ∧ SqL K H a vs ∧ DpAll K H vs (y :: ys) ∧ PySem.W.AlikeAll (y :: ys) ∧ PyData.depthAll (y :: ys) ≤ 60 ∧ ∀ (i : Nat) (v : V), vs[i]? = some v → (y :: ys)[i]? = some (PySem.W.minD y ys) → Q v H
theorem vals_back : ∀ {xs : List V} {us : List Value} {i : Nat} {u : Value}, Vals xs us → us[i]? = some u → ∃ x, xs[i]? = some x ∧ RelV x u
  | _, _, _, _, .nil, e => by simp at e
  | _, _, 0, _, .cons r _, e => by simp at e; subst e; exact ⟨_, rfl, r⟩
  | _, _, i + 1, _, .cons _ r, e => by
    obtain ⟨x, h1, h2⟩ := vals_back (i := i) r (by simpa using e)
    exact ⟨x, by simpa using h1, h2⟩
theorem dpAll_get {K : Fg} {H : Hp} : ∀ {vs : List V} {ds : List D} {i : Nat} {v : V}, DpAll K H vs ds → vs[i]? = some v → ∃ d, ds[i]? = some d ∧ Dp K H v d
  | _, _, _, _, .nil, e => by simp at e
  | _, _, 0, _, .cons r _, e => by simp at e; subst e; exact ⟨_, rfl, r⟩
  | _, _, i + 1, _, .cons _ r, e => by
    obtain ⟨x, h1, h2⟩ := dpAll_get (i := i) r (by simpa using e)
    exact ⟨x, by simpa using h1, h2⟩
theorem cr_minD (hc : X.calm = true) (hu : X.A.units + 65 < cLine) : CallR X (.builtin "min") (rMinD X.K) := by
  intro pins s σ H xs us Q I r h
  obtain ⟨l, vs, y, ys, rfl, hs, hd, ha, hdp, q⟩ := h
  obtain ⟨its, rv, hl, _⟩ := I.list hs
  rw [Vals.ref1 r]
  obtain ⟨as, hr⟩ := Dp.readsAll I _ _ _ hd rv
  refine PySem.W.min_list_data (I.ok.hd hc) hl.isList hr ha (by omega) fun i v g tk bs hv hrd hk => ?_
  obtain ⟨x, hx, rx⟩ := vals_back rv (i := i) (u := v) (by simpa using hv)
  obtain ⟨d, hd1, hd2⟩ := dpAll_get hd hx
  obtain ⟨as2, hr2⟩ := Dp.reads I _ _ _ hd2 rx
  have e := (hrd.unique _ _ (PySem.W.reads_keeps hk hr2)).1
  exact ⟨x, H, I.kept hk, rx, q i x hx (by rw [e]; exact hd1)⟩
@[irreducible] def gMinD : FN := fun ds Q => match ds with
  | [.list (y :: ys)] => PySem.W.AlikeAll (y :: ys) ∧ PyData.depthAll (y :: ys) ≤ 60 ∧ Q (.d (PySem.W.minD y ys))
  | _ => False
theorem gMinD_i {y : D} {ys : List D} {Q : DV → Prop} (h1 : PySem.W.AlikeAll (y :: ys)) (h2 : PyData.depthAll (y :: ys) ≤ 60) (q : Q (.d (PySem.W.minD y ys))) : gMinD [.list (y :: ys)] Q := by unfold gMinD; exact ⟨h1, h2, q⟩
theorem bd_minD (hc : X.calm = true) (hu : X.A.units + 65 < cLine) : BlD X (.builtin "min") gMinD := ⟨_, cr_minD hc hu, by
  intro H O xs ds Qa Q lo w hf k
  unfold gMinD at hf
  split at hf
  · rename_i y ys
    obtain ⟨v, ev, w1⟩ := vw1 w
    subst ev
    obtain ⟨p, vs, e1, h1, r1⟩ := w1.list
    subst e1
    obtain ⟨h1', h2', q⟩ := hf
    refine ⟨p, vs, y, ys, rfl, .inl (.inl h1), r1.dp, h1', h2', fun i v hv he => ?_⟩
    obtain ⟨v', hv', rv'⟩ := r1.get he
    rw [hv] at hv'
    cases hv'
    exact k.d _ _ rv' q
  · exact hf.elim⟩
end
end SF

/-! SL49: three assigned at once, some of them cells. -/
namespace SF
open PySem PySem.Spec PyProof.Rows L2
section
variable {X : Cx} {F : Fx} {tA : DTA}
theorem ps_tup3 {a b c t1 t2 t3 : Expr} {g1 g2 g3 : TG} {t : TA} {kt k2 : Nat} {pt pt2 pos : Pos} (hc : X.calm = true) (hd : PA X [a, b, c] t) (h1 : PG X t1 g1) (h2 : PG X t2 g2) (h3 : PG X t3 g3)
    (hs : swapsWithSole [.Tuple [t1, t2, t3] kt pt] (.Tuple [a, b, c] k2 pt2) pos.line X.env = pure false := by rfl) (hw : swappedStores [.Tuple [t1, t2, t3] kt pt] (.Tuple [a, b, c] k2 pt2) X.env = pure none := by rfl)
    (ha : (assignEach [.Tuple [t1, t2, t3] kt pt] X.env).map (·.2) = [assign (.Tuple [t1, t2, t3] kt pt) X.env] := by rfl) (e1 : (assignEach [t1, t2, t3] X.env).map (·.2) = assign t1 X.env :: (assignEach [t2, t3] X.env).map (·.2) := by rfl) (e2 : (assignEach [t2, t3] X.env).map (·.2) = assign t2 X.env :: (assignEach [t3] X.env).map (·.2) := by rfl) (e3 : (assignEach [t3] X.env).map (·.2) = assign t3 X.env :: (assignEach [] X.env).map (·.2) := by rfl)
    (hn : (assignEach [t1, t2, t3] X.env).length = 3 := by rfl) (hst : (assignEach [t1, t2, t3] X.env).findIdx? (·.1) = none := by rfl) :
    PS X (.Assign [.Tuple [t1, t2, t3] kt pt] (.Tuple [a, b, c] k2 pt2) pos) (tAsg (tTupF t) (gTup X.K 3 (gCons g1 (gCons g2 (gCons g3 gNil))))) :=
  ps_asg (pe_tupF hd) (pg_tup hc (pgs_cons h1 (pgs_cons h2 (pgs_cons h3 pgs_nil e3) e2) e1) hn hst) hs hw ha
theorem ds_parC3 {i j l : Nat} {st : Stmt} (h : PS X st (tAsg (tTupF (liftA X.K F tA)) (gTup X.K 3 (gCons (gName i) (gCons (gName j) (gCons (gName l) gNil)))))) : DSt X F st (dPar3 i j l tA) := PS_imp h fun D σ H ⟨O, ds, E, R, ht, kk⟩ =>
  ⟨O, ds, _, R, ht, fun xs ds1 vs H1 O1 s1 R1 rx hx => by
    split at hx
    · rename_i x y z ds2 ep
      obtain ⟨O2, s2, R2, ⟨rs, ap⟩, kinds, _⟩ := prepL_ok R s1 R1 rx ep
      cases rs with
      | cons r1 rs =>
        cases rs with
        | cons r2 rs =>
          cases rs with
          | cons r3 rs =>
            cases rs
            rename_i u v w
            refine ⟨(show 3 ≤ sizeLine by decide), fun p o hp ho => ?_⟩
            have sm := same_new (o := .frz o (.tup [u, v, w])) hp
            have s3 : Step σ H1 O2 ds2 (upd H1 p (.frz o (.tup [u, v, w]))) O2 ds2 := Step.grow sm grow_refl fun _ h => h
            have R3 := R2.grow sm grow_refl (fun _ h => h) (lo_same R2.lo sm)
            have q1 := RpV.step R2 (s2.mutO R) r1 s3
            have q2 := RpV.step R2 (s2.mutO R) r2 s3
            have q3 := RpV.step R2 (s2.mutO R) r3 s3
            have k1 := kinds x (by simp)
            have k2 := kinds y (by simp)
            have k3 := kinds z (by simp)
            have tmp : ∀ {v : V} {x : DV}, RpV X.K F H1 O O2 σ ds2 v x → ∀ p, (∃ d, x = .own d) → v = .ref p → ∀ j, ¬ MutAt σ ds2 j p := fun hr p ⟨d, ex⟩ ev j hj => by
              subst ex
              obtain ⟨q, _, eq, _, n, _⟩ := hr
              rw [ev] at eq; cases eq
              exact n (s2.mutO R p ⟨j, hj⟩)
            obtain ⟨R4, m4⟩ := R3.setV i k1 q1 (tmp r1)
            obtain ⟨R5, m5⟩ := R4.setV (O0 := O) j k2 (q2.free k2) fun p ho ev m hl => by
              rcases m4 m p hl with t | ⟨z1, d, z2⟩
              · exact tmp r2 p ho ev m t
              · obtain ⟨d', e'⟩ := ho
                exact ap 0 1 p d d' (by omega) (by rw [z1]; rfl) (by rw [ev]; rfl) (by rw [z2]; rfl) (by rw [e']; rfl)
            obtain ⟨R6, _⟩ := R5.setV (O0 := O) l k3 (q3.free k3) fun p ho ev m hl => by
              obtain ⟨d', e'⟩ := ho
              rcases m5 m p hl with t | ⟨z1, d, z2⟩
              · rcases m4 m p t with t | ⟨z1, d, z2⟩
                · exact tmp r3 p ⟨d', e'⟩ ev m t
                · exact ap 0 2 p d d' (by omega) (by rw [z1]; rfl) (by rw [ev]; rfl) (by rw [z2]; rfl) (by rw [e']; rfl)
              · exact ap 1 2 p d d' (by omega) (by rw [z1]; rfl) (by rw [ev]; rfl) (by rw [z2]; rfl) (by rw [e']; rfl)
            exact ⟨p, [u, v, w], rfl, .inl (.inr ⟨o, upd_same⟩), rfl, u, [v, w], rfl, v, [w], rfl, w, [], rfl, rfl, kk.nx O2 _ _ _ ((s2.trans s3).hs R) R6 hx⟩
    · exact hx.elim⟩
end
end SF

/-! SL50: sorted(set(xs)), xs a long list of few ints. -/
namespace SF
open PySem PySem.Spec PyProof.Rows L2
theorem nodup_cover : ∀ {xs ys : List Int}, xs.Nodup → (∀ x ∈ xs, x ∈ ys) → xs.length ≤ ys.length
  | [], _, _, _ => Nat.zero_le _
  | x :: xs, ys, hn, hs => by
    obtain ⟨h1, h2⟩ := List.nodup_cons.mp hn
    have hx := hs x (by simp)
    have := nodup_cover (ys := ys.erase x) h2 fun z hz => (List.mem_erase_of_ne fun e => h1 (by rw [← e]; exact hz)).mpr (hs z (List.mem_cons_of_mem _ hz))
    rw [List.length_erase_of_mem hx] at this
    have : 0 < ys.length := List.length_pos_of_mem hx
    simp only [List.length_cons]
    omega
section
variable {X : Cx} {F : Fx} {a : Expr} {ta : TE} {tA : DTA} {p p2 q pos : Pos}
def rSetFew (K : Fg) (w : World) : List V → Hp → VK → Prop := fun vs H Q => ∃ (l : Addr) (ns cs : List Int), vs = [.ref l] ∧ SqL K H l (ns.map V.int) ∧ ns.length < 4000 ∧ (∀ j ∈ ns, j ∈ cs) ∧ ∀ (r : Addr) (c : Nat), H r = none → c ≤ cs.length → Q (.ref r) (upd H r (SetO w r (fun j => decide (j ∈ ns)) c))
theorem cr_setFew (hc : X.calm = true) : CallR X (.type "set") (rSetFew X.K X.w) := by
  intro pins s σ H vs us Q I r h
  obtain ⟨l, ns, cs, rfl, hq, hl, hcov, k⟩ := h
  obtain ⟨u, eu, ru⟩ := vals1 r
  subst eu
  obtain rfl : u = .ref l := ru
  obtain ⟨its, rv, pl, hz⟩ := I.list hq
  refine set_of_list ns (I.ok.hd hc) pl.isList (by simpa using rv.ints) (by unfold scanBound; omega) fun hp tk c hS hc' kp => ?_
  have hb : c ≤ cs.length := by
    obtain ⟨o, es, ep, t, ho, hx, hd, g, nd, hm, hb, hf, hn, _⟩ := id hS
    have := nodup_cover nd fun x hx => hcov x (by simpa using (hm x).mpr hx)
    rw [List.length_map, Array.length_toList] at this
    omega
  have fr : H s.heap.objs.size = none := I.fresh
  refine ⟨.ref _, _, ?_, rfl, k _ c fr hb⟩
  exact I.laid (t' := tk) (o := SetO X.w s.heap.objs.size (fun j => decide (j ∈ ns)) c) kp (Nat.le_refl _) (setO_new hS)
@[irreducible] def fSortSet3 : FN := fun ds Q => match ds with
  | [.list xs] => someD (intsD xs) fun ns => ∃ cs : List Int, ns.length < 4000 ∧ cs.length < 64 ∧ (∀ j ∈ ns, j ∈ cs) ∧ ∀ ms : List Int, ms.Pairwise (· < ·) → (∀ k, k ∈ ms ↔ k ∈ ns) → Q (.own (ms.map PyData.int))
  | _ => False
theorem sortSet3_i {ns cs : List Int} {Q : DV → Prop} (hi : intsD (ns.map .int) = some ns) (h1 : ns.length < 4000) (h2 : cs.length < 64) (h3 : ∀ j ∈ ns, j ∈ cs) (q : ∀ ms : List Int, ms.Pairwise (· < ·) → (∀ k, k ∈ ms ↔ k ∈ ns) → Q (.own (ms.map PyData.int))) : fSortSet3 [.list (ns.map .int)] Q := by
  unfold fSortSet3
  show someD (intsD (ns.map .int)) _
  rw [hi]
  exact ⟨cs, h1, h2, h3, q⟩
theorem de_ss3 (hg : Gl X "sorted") (hm : X.mg "sorted" = none) (hg2 : Gl X "set") (hm2 : X.mg "set" = none) (ha : DA X F [a] tA) (hc : X.calm = true := by rfl)
    (hs : starEach [.Call (.Name "set" p2) [a] [] q] X.env = (false, eval (.Call (.Name "set" p2) [a] [] q) X.env) :: starEach [] X.env := by rfl) (hpl : (backTo pos (starEach [] X.env)).any (·.1) = false := by rfl)
    (hs2 : starEach [a] X.env = (false, eval a X.env) :: starEach [] X.env := by rfl) (hpl2 : (backTo q (starEach [] X.env)).any (·.1) = false := by rfl) :
    DE X F (.Call (.Name "sorted" p) [.Call (.Name "set" p2) [a] [] q] [] pos) (dCB fSortSet3 tA) :=
  PE_imp (pe_callB (cr_sortedSet hc) hg hm (by decide +kernel) (pa_cons (pe_callTy (cr_setFew hc) hg2 hm2 (by decide +kernel) ha (by decide) (by decide) hs2 hpl2) pa_nil hs) (by decide) (by decide) hs hpl) fun σ H Q ⟨O, ds, Qa, R, ht, hq⟩ => ⟨O, ds, _, R, ht, fun xs ds1 vs H1 O1 s1 R1 rx hx => by
    split at hx
    · rename_i dd e1
      have w := RpVs.vw R1 rx.1 e1
      unfold fSortSet3 at hx
      split at hx
      · rename_i ys
        cases e : intsD ys with
        | none => rw [e] at hx; exact hx.elim
        | some ns =>
          rw [e] at hx
          obtain ⟨cs, hl, h64, hcov, hx⟩ := hx
          obtain ⟨v, ev, w⟩ := vw1 w
          obtain ⟨l, us, e2, h1, r1⟩ := w.list
          subst ev e2
          rw [intsD_ok e] at r1
          have er := r1.ints
          subst er
          refine ⟨l, ns, cs, rfl, .inl (.inl h1), hl, hcov, fun r c hr hcl => ?_⟩
          have sm := same_new (o := SetO X.w r (fun j => decide (j ∈ ns)) c) hr
          have R2 := R1.grow sm grow_refl (fun _ h => h) (lo_same R1.lo sm)
          have s2 : Step σ H1 O1 ds1 _ O1 ds1 := Step.grow sm grow_refl fun _ h => h
          refine ⟨r, _, c, rfl, upd_same, by omega, fun ms p' hp hmem hlen hn => ?_⟩
          exact (mkCont R (s1.trans s2) R2 hq).lst p' _ _ hn rpl_ints (hx ms hp fun k => by rw [hmem k]; simp)
      · exact hx.elim
    · exact hx.elim⟩
end
end SF

/-! SL51: min with default None; sorted of pairs of numbers. -/
namespace SF
open PySem PySem.Spec PyProof.Rows L2
def minN : List Int → D
  | [] => .none
  | n :: ms => .int (ms.foldl min n)
def minV : List Int → V
  | [] => .non
  | n :: ms => .int (ms.foldl min n)
def tDfN (K : Fg) (ta : TE) : TE := fun σ H Q => ta σ H fun x H1 => ∃ (a : Addr) (ns : List Int), x = .ref a ∧ SqL K H1 a (ns.map V.int) ∧ Q (minV ns) H1
section
variable {X : Cx} {F : Fx} {a : Expr} {ta : TE} {te : DTE} {p cp kp pos : Pos} {jk : Nat}
theorem pe_minDfN (hc : X.calm = true) (hu : X.A.units + 65 < cLine) (hg : Gl X "min") (hm : X.mg "min" = none) (ha : PE X a ta) (hs : starEach [a] X.env = (false, eval a X.env) :: starEach [] X.env := by rfl) (he : backTo pos (starEach [a] X.env) = (false, eval a X.env) :: backTo pos (starEach [] X.env) := by rfl) (hp : (backTo pos (starEach [a] X.env)).any (·.1) = false := by rfl) :
    PE X (.Call (.Name "min" p) [a] [⟨some "default", .Constant .none jk cp, kp⟩] pos) (tDfN X.K ta) := by
  refine ⟨fun pins s σ H Q I h => ?_⟩
  refine wpAny_Call_Name_kw (ld_blt I hg hm PyProof.Rows.boot_min ?_ (by decide) (by decide))
  refine PyProof.Rows.callWith_kw (thn ((pa_cons ha pa_nil hs).run pos pins s σ H (fun vs H1 => match vs with | [x] => (∃ (a : Addr) (ns : List Int), x = .ref a ∧ SqL X.K H1 a (ns.map V.int) ∧ Q (minV ns) H1) | _ => False) I h) fun us s1 ⟨vs, H1, I1, r1, q1⟩ => ?_) he hp
  dsimp only at q1
  split at q1
  · obtain ⟨l, ns, rfl, hsq, q⟩ := q1
    rw [Vals.ref1 r1]
    refine PyProof.Rows.kws_cons (thn (pe_non.run pins s1 σ H1 (fun x H' => x = V.non ∧ H' = H1) I1 ⟨rfl, rfl⟩) fun u s2 ⟨y, H2, I2, r2, e1, e2⟩ => PyProof.Rows.kws_nil ?_)
    subst e1 e2
    obtain ⟨its, rv, hl, _⟩ := I2.list hsq
    have dp := depth_ints ns
    refine PySem.W.min_list_default (I2.ok.hd hc) hl.isList (xs := ns.map PyData.int) (intsRd rv.ints) alike_ints (by omega) (fun e g tk hk => ?_) fun y ys i v g tk bs e hv hr hk => ?_
    · cases ns with
      | nil => exact ⟨.non, H2, I2.kept hk, r2, q⟩
      | cons n ms => cases e
    · cases ns with
      | nil => cases e
      | cons n ms =>
        cases e
        rw [PySem.W.minD_ints] at hr
        obtain ⟨t, rfl, _⟩ := reads_int_inv hr
        exact ⟨.int _, H2, I2.kept hk, ⟨t, rfl⟩, q⟩
  · exact q1.elim
@[irreducible] def dDfN (te : DTE) : DTE := fun ds Q => te ds fun x ds1 => match peek ds1 x with
  | some (.list xs) => someD (intsD xs) fun ns => Q (.d (minN ns)) ds1
  | _ => False
theorem de_minDfN (hc : X.calm = true) (hu : X.A.units + 65 < cLine) (hg : Gl X "min") (hm : X.mg "min" = none) (ha : DE X F a te) (hs : starEach [a] X.env = (false, eval a X.env) :: starEach [] X.env := by rfl) (he : backTo pos (starEach [a] X.env) = (false, eval a X.env) :: backTo pos (starEach [] X.env) := by rfl) (hp : (backTo pos (starEach [a] X.env)).any (·.1) = false := by rfl) :
    DE X F (.Call (.Name "min" p) [a] [⟨some "default", .Constant .none jk cp, kp⟩] pos) (dDfN te) := PE_imp (pe_minDfN hc hu hg hm ha hs he hp) fun σ H Q ⟨O, ds, Qa, R, ht, hq⟩ => by
  unfold dDfN at ht
  refine ⟨O, ds, _, R, ht, fun x ds1 v H1 O1 s1 R1 rx hx => ?_⟩
  split at hx
  · rename_i xs e
    cases ei : intsD xs with
    | none => rw [ei] at hx; exact hx.elim
    | some ns =>
      rw [ei] at hx
      obtain ⟨q, vs, e1, h1, r1⟩ := (RpV.vw R1 rx e).list
      subst e1
      rw [intsD_ok ei] at r1
      have er := r1.ints
      subst er
      refine ⟨q, ns, rfl, .inl (.inl h1), ?_⟩
      cases ns with
      | nil => exact (mkCont R s1 R1 hq).d _ _ .non hx
      | cons n ms => exact (mkCont R s1 R1 hq).d _ _ (.int _) hx
  · exact hx.elim
theorem dfN_in {ns : List Int} {ds ds1 : DS} {x : DV} {Q : DV → DS → Prop} (hp : peek ds1 x = some (.list (ns.map .int))) (hi : intsD (ns.map .int) = some ns) (q : Q (.d (minN ns)) ds1) (hw : (∀ K : DV → DS → Prop, K x ds1 → te ds K)) : dDfN te ds Q := by
  unfold dDfN
  refine hw _ ?_
  rw [hp]
  show someD (intsD (ns.map .int)) _
  rw [hi]
  exact q
end
/-! sorted of pairs -/
def prE (p : Int × Int) : D := .tuple [.int p.1, .int p.2]
def leP (p q : Int × Int) : Bool := decide (p.1 < q.1 ∨ (p.1 = q.1 ∧ p.2 ≤ q.2))
def rSortedPD (K : Fg) : List V → Hp → VK → Prop := fun xs H Q => ∃ (a : Addr) (vs : List V) (ps : List (Int × Int)), xs = [.ref a] ∧ SqL K H a vs ∧ DpAll K H vs (ps.map prE) ∧ ps.length ≤ 4000 ∧ ∀ (zs : List (V × (Int × Int))) (p : Addr), zs.Perm (vs.zip ps) → zs.map (·.2) = ps.mergeSort leP → H p = none → Q (.ref p) (upd H p (.lst (zs.map (·.1))))
theorem each_vals : ∀ {vs : List V} {us : List Value} {ps : List (Int × Int)}, Vals vs us → ps.length = vs.length → PySem.W.EachIs (fun v (b : V × (Int × Int)) => RelV b.1 v) us (vs.zip ps)
  | _, _, [], .nil, _ => .nil
  | _, _, _ :: _, .nil, h => by simp at h
  | _, _, [], .cons _ _, h => by simp at h
  | _, _, p :: ps, .cons r rs, h => .cons r (each_vals rs (by simpa using h))
theorem each_snd {R : Value → (Int × Int) → Prop} : ∀ {vs : List V} {us : List Value} {ps : List (Int × Int)}, PySem.W.EachIs R us ps → ps.length = vs.length → PySem.W.EachIs (fun v (b : V × (Int × Int)) => R v b.2) us (vs.zip ps)
  | [], _, _, .nil, _ => .nil
  | _ :: _, _, _, .nil, h => by simp at h
  | [], _, _, .cons _ _, h => by simp at h
  | v :: vs, _, _, .cons r rs, h => .cons r (each_snd rs (by simpa using h))
theorem vals_each : ∀ {zs : List (V × (Int × Int))} {us : List Value}, PySem.W.EachIs (fun v (b : V × (Int × Int)) => RelV b.1 v) us zs → Vals (zs.map (·.1)) us
  | _, _, .nil => .nil
  | _, _, .cons r rs => .cons r (vals_each rs)
theorem dpAll_len {K : Fg} {H : Hp} : ∀ {vs : List V} {ds : List D}, DpAll K H vs ds → vs.length = ds.length
  | _, _, .nil => rfl
  | _, _, .cons _ r => by simp [dpAll_len r]
section
variable {X : Cx} {F : Fx}
theorem cr_sortedPD (hu : X.A.units + 65 < cLine) : CallR X (.builtin "sorted") (rSortedPD X.K) := by
  intro pins s σ H xs us Q I r h
  obtain ⟨l, vs, ps, rfl, hs, hd, hl4, q⟩ := h
  obtain ⟨its, rv, hl, _⟩ := I.list hs
  rw [Vals.ref1 r]
  have hlen : vs.length = ps.length := by rw [dpAll_len hd, List.length_map]
  obtain ⟨as, hr⟩ := Dp.readsAll I _ _ _ hd rv
  have hsz := sizeLine_eq
  have e := each_vals (ps := ps) rv hlen.symm
  have er := each_snd (vs := vs) (PySem.W.readsAll_each prE hr) hlen.symm
  have hzl : (vs.zip ps).length = ps.length := by rw [List.length_zip]; omega
  refine PySem.W.sorted_data (bs := vs.zip ps) (enc := fun b => prE b.2) hl.isList e er (PySem.W.AllAlike.of fun b b' => rfl) (PySem.W.Sortable.tuples fun b => ⟨_, _, rfl⟩) (by rw [hzl]; omega) (fun b _ => ?_) fun out ho hout => ?_
  · show X.A.units + 2 + (PyData.tuple [.int b.2.1, .int b.2.2]).depth < cLine
    simp only [PyData.depth, PyData.depthAll]
    omega
  · have ed : PySem.W.dataLe false (fun b : V × (Int × Int) => prE b.2) = fun p q => decide (p.2.1 < q.2.1 ∨ (p.2.1 = q.2.1 ∧ p.2.2 ≤ q.2.2)) := PySem.W.dataLe_ii (fun b : V × (Int × Int) => b.2.1) (fun b => b.2.2)
    rw [ed] at hout
    have pm := List.mergeSort_perm (vs.zip ps) (fun p q : V × (Int × Int) => decide (p.2.1 < q.2.1 ∨ (p.2.1 = q.2.1 ∧ p.2.2 ≤ q.2.2)))
    obtain ⟨ep, he'⟩ := PyProof.Rows.sortedAll_at s.heap its (List.toArray out)
    have vl := vals_each hout
    have hz1 : (((vs.zip ps).mergeSort fun p q : V × (Int × Int) => decide (p.2.1 < q.2.1 ∨ (p.2.1 = q.2.1 ∧ p.2.2 ≤ q.2.2))).map (·.1)).length ≤ sizeLine := by
      rw [List.length_map, pm.length_eq, hzl]; omega
    have pw : (((vs.zip ps).mergeSort fun p q : V × (Int × Int) => decide (p.2.1 < q.2.1 ∨ (p.2.1 = q.2.1 ∧ p.2.2 ≤ q.2.2))).map (·.2)) = ps.mergeSort leP := by
      have hm := List.map_mergeSort (r := fun p q : V × (Int × Int) => decide (p.2.1 < q.2.1 ∨ (p.2.1 = q.2.1 ∧ p.2.2 ≤ q.2.2))) (s := leP) (f := fun x : V × (Int × Int) => x.2) (l := vs.zip ps) (fun a _ b _ => rfl)
      rw [List.map_snd_zip (by omega)] at hm
      exact hm
    exact ⟨.ref _, upd H (s.heap.objs.size + 1) (.lst (((vs.zip ps).mergeSort fun p q : V × (Int × Int) => decide (p.2.1 < q.2.1 ∨ (p.2.1 = q.2.1 ∧ p.2.2 ≤ q.2.2))).map (·.1))), I.laid (t' := s.toks) (fun _ _ => PyProof.Rows.sortedAll_old) (Nat.le_succ _) ⟨hz1, (List.toArray out).toList, ep, by simpa using vl, he'⟩, rfl, q _ _ pm pw (I.hok.fresh (Nat.le_succ _))⟩
def prsD : List D → Option (List (Int × Int))
  | [] => some []
  | .tuple [.int a, .int b] :: xs => (prsD xs).map fun r => (a, b) :: r
  | _ => none
theorem prsD_ok : ∀ {xs : List D} {ps : List (Int × Int)}, prsD xs = some ps → xs = ps.map prE
  | [], ps, h => by cases h; rfl
  | x :: xs, ps, h => by
    have key : ∃ a b, x = .tuple [.int a, .int b] ∧ (prsD xs).map (fun r => (a, b) :: r) = some ps := by
      unfold prsD at h
      split at h
      · rename_i e; cases e
      · rename_i a b ys e
        cases e
        exact ⟨a, b, rfl, h⟩
      · cases h
    obtain ⟨a, b, rfl, h2⟩ := key
    cases e2 : prsD xs with
    | none => rw [e2] at h2; cases h2
    | some qs =>
      rw [e2] at h2
      cases h2
      rw [prsD_ok e2]; rfl
theorem prsD_map : ∀ ps : List (Int × Int), prsD (ps.map prE) = some ps
  | [] => rfl
  | p :: ps => by
    show (prsD (ps.map prE)).map _ = _
    rw [prsD_map ps]; rfl
@[irreducible] def fSortedP : FN := fun ds Q => match ds with
  | [.list xs] => someD (prsD xs) fun ps => ps.length ≤ 4000 ∧ Q (.own ((ps.mergeSort leP).map prE))
  | _ => False
theorem sortedP_i {ps : List (Int × Int)} {Q : DV → Prop} (h : ps.length ≤ 4000) (q : Q (.own ((ps.mergeSort leP).map prE))) : fSortedP [.list (ps.map prE)] Q := by
  unfold fSortedP
  show someD (prsD (ps.map prE)) _
  rw [prsD_map]
  exact ⟨h, q⟩
theorem rpl_of {K : Fg} {H : Hp} {O : List Addr} : ∀ {zs : List (V × (Int × Int))}, (∀ z ∈ zs, Rp K H O z.1 (prE z.2)) → RpL K H O (zs.map (·.1)) ((zs.map (·.2)).map prE)
  | [], _ => .nil
  | z :: zs, h => .cons (h z (by simp)) (rpl_of fun y hy => h y (List.mem_cons_of_mem _ hy))
theorem rpl_zip {K : Fg} {H : Hp} {O : List Addr} : ∀ {vs : List V} {ps : List (Int × Int)}, RpL K H O vs (ps.map prE) → ∀ z ∈ vs.zip ps, Rp K H O z.1 (prE z.2)
  | [], _, _, z, hz => by simp at hz
  | _ :: _, [], _, z, hz => by simp at hz
  | v :: vs, p :: ps, r, z, hz => by
    cases r with
    | cons r1 r2 =>
      rcases List.mem_cons.mp hz with rfl | hz
      · exact r1
      · exact rpl_zip r2 z hz
theorem bd_sortedP (hu : X.A.units + 65 < cLine) : BlD X (.builtin "sorted") fSortedP := ⟨_, cr_sortedPD hu, by
  intro H O xs ds Qa Q lo w hf k
  unfold fSortedP at hf
  split at hf
  · rename_i ys
    cases e : prsD ys with
    | none => rw [e] at hf; exact hf.elim
    | some ps =>
      rw [e] at hf
      obtain ⟨v, ev, w1⟩ := vw1 w
      subst ev
      obtain ⟨p, vs, e1, h1, r1⟩ := w1.list
      subst e1
      rw [prsD_ok e] at r1
      obtain ⟨h4, q⟩ := hf
      have hlen : vs.length = ps.length := by rw [r1.length, List.length_map]
      refine ⟨p, vs, ps, rfl, .inl (.inl h1), r1.dp, h4, fun zs p' pm so hn => ?_⟩
      have rl := rpl_of (zs := zs) fun z hz => rpl_zip r1 z (pm.mem_iff.mp hz)
      rw [so] at rl
      exact k.lst p' _ _ hn rl q
  · exact hf.elim⟩
end
end SF

/-! SL52: lists of one's own lent to an expression with a flat result; list.remove. -/
namespace SF
open PySem PySem.Spec PyProof.Rows L2
def frzM (ds : DS) : List Nat → DS
  | [] => ds
  | i :: is => match frz ds (.slot i) with
    | some (_, ds1) => frzM ds1 is
    | none => frzM ds is
def noMut (ds : DS) : Bool := ds.sl.all fun o => match o with
  | some (.own _) => false
  | some .box => false
  | _ => true
section
variable {K : Fg} {F : Fx} {H H0 H' : Hp} {O O' : List Addr} {σ : St} {ds ds0 : DS}
theorem frzM_ok (R0 : Rep K F H0 O σ ds0) : ∀ {is : List Nat} {O' : List Addr} {ds : DS}, Step σ H0 O ds0 H O' ds → Rep K F H O' σ ds → ∃ O'', Step σ H0 O ds0 H O'' (frzM ds is) ∧ Rep K F H O'' σ (frzM ds is)
  | [], O', ds, s, R => ⟨O', s, R⟩
  | i :: is, O', ds, s, R => by
    unfold frzM
    cases e : frz ds (.slot i) with
    | none => exact frzM_ok R0 s R
    | some q =>
      obtain ⟨d, ds1⟩ := q
      have hs : ∃ dv, ds.sl[i]? = some (some dv) := by
        simp only [frz] at e
        split at e
        · rename_i x h; exact ⟨_, h⟩
        · rename_i x h; exact ⟨_, h⟩
        · cases e
      obtain ⟨dv, hdv⟩ := hs
      obtain ⟨v, ev, _⟩ := R.sl i dv hdv
      obtain ⟨O2, s2, R2, _⟩ := frz_ok R0 s R (v := v) (dv := .slot i) ⟨ev, dv, hdv⟩ e
      exact frzM_ok R0 s2 R2
theorem noMut_ok (h : noMut ds = true) : ∀ i p, ¬ MutAt σ ds i p := by
  rintro i p ⟨_, dv, h1, h2⟩
  have := List.all_eq_true.mp h _ (List.mem_of_getElem? h1)
  cases dv with
  | own xs => cases this
  | box => cases this
  | d x => exact h2
  | slot j => exact h2
  | exc _ _ => exact h2
def dLend (is : List Nat) (t : DTE) : DTE := fun ds Q => match noMut (frzM ds is) with
  | true => t (frzM ds is) fun r ds' => flatR r = true ∧ ds' = frzM ds is ∧ Q r ds
  | false => False
theorem lend_lift {is : List Nat} {t : DTE} {Q : VK} (h : lift K F (dLend is t) σ H Q) : lift K F t σ H Q := by
  obtain ⟨O, ds, Qa, R, ht, hq⟩ := h
  unfold dLend at ht
  split at ht
  · rename_i hm
    obtain ⟨O2, s2, R2⟩ := frzM_ok (is := is) R Step.refl R
    refine ⟨O2, _, _, R2, ht, ?_⟩
    rintro r ds' v H' O' s3 R3 rv ⟨hf, e, hqa⟩
    have kp : Keep [] H H' := fun a o h _ => s3.kp a o h fun i => noMut_ok hm i a
    cases r with
    | d x =>
      obtain ⟨Rc, sc⟩ := R.called (B := []) (n' := ds.n) kp (fun b hb => by simp at hb) (fun _ => rfl) O grow_refl (fun _ h => h) fun p h1 h2 => absurd h1 h2
      exact hq (.d x) _ v H' O sc Rc (Rp.flat rv hf) hqa
    | own ys =>
      obtain ⟨p, ws, ev, hp1, hp2, hin, hp', hl⟩ := rv
      have hp : H p = none := by
        rcases s3.o1 p hp1 with z | z
        · exact absurd z hp2
        · exact z
      obtain ⟨Rc, sc⟩ := R.called (B := []) (n' := ds.n) kp (fun b hb => by simp at hb) (fun _ => rfl) (p :: O) (grow_new hp) (fun _ h => List.mem_cons_of_mem _ h) fun q h1 h2 => by
        rcases List.mem_cons.mp h1 with z | z
        · subst z; exact ⟨ws, hp'⟩
        · exact absurd z h2
      refine hq (.own ys) _ v H' (p :: O) sc Rc ⟨p, ws, ev, List.mem_cons_self, fun z => ?_, hin, hp', RpL.flat hl hf⟩ hqa
      obtain ⟨_, q⟩ := R.lo p z
      rw [hp] at q; cases q
    | box => exact rv.elim
    | slot i => cases hf
    | exc _ _ => exact rv.elim
  · exact ht.elim
end
section
variable {X : Cx} {F : Fx} {e o : Expr} {t te : DTE} {apos cpos : Pos}
theorem de_lend {is : List Nat} (h : DE X F e t) : DE X F e (dLend is t) := PE_imp h fun σ H Q h => lend_lift h
/-! xs.remove(k) -/
theorem takes_no : Takes X (fun _ _ _ _ => False) := fun u s' ⟨a, B, sI, pins, σ, H, cls, d, e, I, nb, up, sky, na, os, ag, w⟩ => w.elim
@[irreducible] def dRem (i : Nat) (te : DTE) : DTE := fun ds Q => match ds.sl[i]? with
  | some (some (.own _)) => te ds fun y ds1 => match ds1.sl[i]?, peek ds1 y with
    | some (some (.own xs)), some (.int k) => someD (intsD xs) fun ns => k ∈ ns ∧ Q (.d .none) ⟨ds1.sl.set i (some (.own ((ns.erase k).map .int))), ds1.n⟩
    | _, _ => False
  | _ => False
theorem rem_in {i : Nat} {ns : List Int} {k : Int} {ds ds1 : DS} {y : DV} {xs : List D} {Q : DV → DS → Prop} (h0 : ds.sl[i]? = some (some (.own xs))) (h1 : ds1.sl[i]? = some (some (.own (ns.map .int)))) (hp : peek ds1 y = some (.int k)) (hi : intsD (ns.map .int) = some ns) (hk : k ∈ ns) (q : Q (.d .none) ⟨ds1.sl.set i (some (.own ((ns.erase k).map .int))), ds1.n⟩) (hw : ∀ K : DV → DS → Prop, K y ds1 → te ds K) : dRem i te ds Q := by
  unfold dRem
  rw [h0]
  refine hw _ ?_
  rw [h1, hp]
  show someD (intsD (ns.map .int)) _
  rw [hi]
  exact ⟨hk, q⟩
theorem de_remove {i : Nat} (ho : PE X o (tVar i)) (he : DE X F e te) (hc : X.calm = true := by rfl) (hbase : attributeBase o "remove" X.env (eval o X.env) = eval o X.env := by rfl)
    (hfew : ((backTo cpos (starEach [e] X.env)).all (fun x => !x.1) && (backToKw cpos (keywordEach [] X.env)).all (fun x => x.1.isSome) && decide ([e].length + ([] : List Keyword).length + (if ([] : List Keyword).isEmpty then 0 else 1) < 30)) = true := by rfl)
    (hline : (apos.endLine == cpos.line) = true := by rfl) (hs : starEach [e] X.env = (false, eval e X.env) :: starEach [] X.env := by rfl) (hplain : (backTo cpos (starEach [] X.env)).any (·.1) = false := by rfl) :
    DE X F (.Call (.Attribute o "remove" apos) [e] [] cpos) (dRem i te) := PE_imp (pe_remX hc takes_no ho he hbase hfew hline hs hplain) fun σ H Q ⟨O, ds, Qa, R, ht, hq⟩ => by
  unfold dRem at ht
  split at ht
  · rename_i xs0 e0
    obtain ⟨v, ev, q, vs, e2, hO, hH, hL⟩ := R.sl i _ e0
    subst e2
    refine ⟨_, ev, .inl ⟨rfl, _, .inl (.inl hH)⟩, O, ds, _, R, ht, fun y ds1 w H1 O1 s1 R1 ry hy => ?_⟩
    split at hy
    · rename_i xs k ex ep
      cases ei : intsD xs with
      | none => rw [ei] at hy; exact hy.elim
      | some ns =>
        rw [ei] at hy
        obtain ⟨hk, hy⟩ := hy
        obtain ⟨v2, ev2, q2, vs2, e3, hO2, hH2, hL2⟩ := R1.sl i _ ex
        rw [ev] at ev2
        cases ev2
        cases e3
        rw [intsD_ok ei] at hL2
        have er := hL2.ints
        subst er
        refine ⟨q, ns, k, rfl, (RpV.vw R1 ry ep).int, hH2, fun _ => ?_, fun hn => absurd hk hn⟩
        obtain ⟨R3, s3⟩ := R1.updO ev ex (rpl_ints (ns := ns.erase k))
        exact hq (.d .none) _ .non _ O1 (s1.trans s3) R3 .non hy
    · exact hy.elim
  · exact ht.elim
end
section
variable {X : Cx} {F : Fx} {tg it elt : Expr} {pos : Pos}
theorem ds_setLcL {i : Nat} {y : Str} {py spos : Pos} {s : Bool} {T : List Nat} {w : DTI} {g : DTG} {tt : DTT} {te : DTE} {ifs : List Expr} {scope : Scope} {own : List (Str × Nat)} {is : List Nat} (hc : X.calm = true) (hN : X.N.Nodup) (hy : X.N[i]? = some y) (hyl : X.env.scope.names.lookup y = some .local)
    (hsw : swapsWith (.ListComp elt [⟨tg, it, ifs, 0⟩] scope pos) (some (.Name y py)) spos.line X.env = pure true) (hi : DI s X F tg it w) (ok : BlkOk X.N X.env.scope scope own)
    (hT : ∀ i ∈ T, i ∈ own.map (·.2))
    (hg : ∀ (s0 : Shared) (H : Hp) (C : Addr) (cl : List (Str × Addr)) (fp : List Addr), DG s T (X.blk s0 H scope (compEnvC scope cl C X.env) fp) F tg g)
    (ht : ∀ (s0 : Shared) (H : Hp) (C : Addr) (cl : List (Str × Addr)) (fp : List Addr), DTs (X.blk s0 H scope (compEnvC scope cl C X.env) fp) F ifs tt)
    (he : ∀ (s0 : Shared) (H : Hp) (C : Addr) (cl : List (Str × Addr)) (fp : List Addr), DE (X.blk s0 H scope (compEnvC scope cl C X.env) fp) F elt te)
    (hs : ∀ x, foldedSetIterable it X.env x = pure x := by intro _; rfl) : DSt X F (.Assign [.Name y py] (.ListComp elt [⟨tg, it, ifs, 0⟩] scope pos) spos) (dSet i (dLend is (dLc w g tt te (own.map (·.2))))) :=
  ds_asg (PS_imp (ps_setLc hc hN hy hyl hsw hi ok hg ht he hs) fun D σ H h => lc_lift hT (lend_lift h))
end
end SF

/-! SL53: xs[::2] of a list: some of its items. -/
namespace SF
open PySem PySem.Spec PyProof.Rows L2
def pickI {α : Type} (is : List Nat) (xs : List α) : List α := is.filterMap fun i => xs[i]?
theorem vals_pick {xs : List V} {us : List Value} (h : Vals xs us) : ∀ is : List Nat, Vals (pickI is xs) (pickI is us)
  | [] => .nil
  | i :: is => by
    have ih := vals_pick h is
    unfold pickI at ih ⊢
    rw [List.filterMap_cons, List.filterMap_cons]
    cases e : xs[i]? with
    | some x =>
      obtain ⟨u, e2, r⟩ := h.get e
      rw [e2]
      exact .cons r ih
    | none =>
      have : us[i]? = none := by
        have l := h.length
        rw [List.getElem?_eq_none_iff] at e ⊢
        omega
      rw [this]
      exact ih
theorem rpl_pick {K : Fg} {H : Hp} {O : List Addr} {vs : List V} {xs : List D} (h : RpL K H O vs xs) : ∀ is : List Nat, RpL K H O (pickI is vs) (pickI is xs)
  | [] => .nil
  | i :: is => by
    have ih := rpl_pick h is
    unfold pickI at ih ⊢
    rw [List.filterMap_cons, List.filterMap_cons]
    cases e : xs[i]? with
    | some x =>
      obtain ⟨u, e2, r⟩ := h.get e
      rw [e2]
      exact .cons r ih
    | none =>
      have : vs[i]? = none := by
        have l := h.length
        rw [List.getElem?_eq_none_iff] at e ⊢
        omega
      rw [this]
      exact ih
section
variable {X : Cx} {F : Fx} {e : Expr} {te : TE} {ta : DTE}
def tStep2 (K : Fg) (te : TE) : TE := fun σ H Q => te σ H fun x H1 => ∃ a xs, x = .ref a ∧ SqL K H1 a xs ∧ ∀ is p, (pickI is xs).length ≤ xs.length → H1 p = none → Q (.ref p) (upd H1 p (.lst (pickI is xs)))
theorem pe_step2 {k : Nat} {p1 p3 pos : Pos} (he : PE X e te) : PE X (.Subscript e (.Slice none none (some (.Constant (.int 2) k p1)) p3) pos) (tStep2 X.K te) := by
  constructor
  intro pins s σ H Q I h
  refine Subscript_ (thn (he.run pins s σ H _ I h) ?_)
  rintro u s1 ⟨x, H1, I1, rx, a, xs, rfl, hs, q⟩
  obtain rfl : u = .ref a := rx
  have step : PO X (some (.Constant (.int 2) k p1)) (tPart (tC (.int 2))) := po_some pe_int
  refine wpAny_Slice (thn (po_none.run pins s1 σ H1 (fun o H2 => o = none ∧ H2 = H1) I1 ⟨rfl, rfl⟩) ?_)
  rintro v1 s2 ⟨o1, H2, I2, w1, rfl, rfl⟩
  refine thn (po_none.run pins s2 σ H2 (fun o H3 => o = none ∧ H3 = H2) I2 ⟨rfl, rfl⟩) ?_
  rintro v2 s3 ⟨o2, H3, I3, w2, rfl, rfl⟩
  refine thn (step.run pins s3 σ H3 (fun o H4 => o = some 2 ∧ H4 = H3) I3 ⟨2, rfl, rfl, rfl⟩) ?_
  rintro v3 s4 ⟨o3, H4, I4, w3, rfl, rfl⟩
  have J : Inv X pins σ H4 { s4 with heap := s4.heap.push { cls := .type "slice", data := .fields #[v1, v2, v3] } } := I4.kept (t' := s4.toks) fun b ob z => Heap.get?_push_of_some _ z
  show wpAny (model X.prog X.w) X.A (subscriptTail e (.Slice none none (some (.Constant (.int 2) k p1)) p3) (.ref a) (.ref s4.heap.objs.size)) (EP X pins σ Q) X.xe { s4 with heap := s4.heap.push { cls := .type "slice", data := .fields #[v1, v2, v3] } }
  obtain ⟨its, r, ht, hz⟩ := J.list hs
  have hn := r.length
  refine tail_any (ops := [.ref a, .ref s4.heap.objs.size]) ht.isList.typeIs (PySem.slot_list_getitem.lookup) ?_ (by with_unfolding_all rfl)
  refine wpAny_getItem_list_slice ht.isList (Heap.IsSliceOf.new _ v1 v2 v3) w1 w2 w3 (by decide) ?_ (by rw [List.size_toArray]; omega)
  have hb : sliceBounds none none (some 2) its.toArray.size = (0, (its.toArray.size : Int), 2) := by
    unfold sliceBounds
    simp
  have hp : slicePick its.toArray none none (some 2) = (pickI (sliceRange 0 (its.toArray.size : Int) 2) its).toArray := by
    unfold slicePick pickI
    rw [hb]
    simp
  have hl : (pickI (sliceRange 0 (its.toArray.size : Int) 2) xs).length ≤ xs.length := by
    refine Nat.le_trans (List.length_filterMap_le _ _) ?_
    unfold sliceRange
    simp only [List.length_map, List.length_range, List.size_toArray]
    rw [← hn]
    split
    · split <;> omega
    · split <;> omega
  rw [hp]
  exact ⟨.ref _, _, J.laid (t' := s4.toks) (o := .lst (pickI (sliceRange 0 (its.toArray.size : Int) 2) xs)) (fun b ob z => Heap.get?_push_of_some _ z) (Nat.le_refl _) ⟨Nat.le_trans hl hz, _, 0, vals_pick r _, Heap.get?_push_size _ rfl⟩, rfl, q _ _ hl (J.hok.fresh (Nat.le_refl _))⟩
theorem pick_mem {α : Type} {is : List Nat} {xs : List α} {x : α} (h : x ∈ pickI is xs) : x ∈ xs := by
  unfold pickI at h
  obtain ⟨i, _, e⟩ := List.mem_filterMap.mp h
  exact List.mem_of_getElem? e
@[irreducible] def fStep2 : F1 := fun d Q => match d with
  | .list xs => ∀ ys : List D, ys.length ≤ xs.length → (∀ y ∈ ys, y ∈ xs) → Q (.own ys)
  | _ => False
theorem step2_i {xs : List D} {Q : DV → Prop} (h : ∀ ys : List D, ys.length ≤ xs.length → (∀ y ∈ ys, y ∈ xs) → Q (.own ys)) : fStep2 (.list xs) Q := by unfold fStep2; exact h
theorem de_step2 {k : Nat} {p1 p3 pos : Pos} (he : DE X F e ta) : DE X F (.Subscript e (.Slice none none (some (.Constant (.int 2) k p1)) p3) pos) (dOp1 fStep2 ta) :=
  PE_imp (pe_step2 he) fun σ H Q ⟨O, ds, Qa, R, ht, hq⟩ => ⟨O, ds, _, R, ht, fun x ds1 v H1 O1 s1 R1 rx hx => by
    have c := mkCont R s1 R1 hq
    split at hx
    · rename_i d e1
      have w := RpV.vw R1 rx e1
      unfold fStep2 at hx
      split at hx
      · obtain ⟨p, vs, e2, h1, r1⟩ := w.list
        subst e2
        refine ⟨p, vs, rfl, .inl (.inl h1), fun is q hl hq2 => ?_⟩
        have rp := rpl_pick r1 is
        exact c.lst _ _ _ hq2 rp (hx _ (by have := rp.length; have := r1.length; omega) fun y hy => pick_mem hy)
      · exact hx.elim
    · exact hx.elim⟩
end
end SF

/-! SL54: the number of different ints that a set comprehension collects (after HandS.SetBool's for truth values; here the set is no tracked thing but a pinned object). -/
namespace SF
open PySem PySem.Spec PyProof.Rows L2 PpSet
/-- how many different ints -/
def dc : List Int → Nat
  | [] => 0
  | x :: xs => if x ∈ xs then dc xs else dc xs + 1
theorem dc_le : ∀ xs, dc xs ≤ xs.length
  | [] => Nat.le_refl _
  | x :: xs => by
    have := dc_le xs
    unfold dc
    rw [List.length_cons]
    split <;> omega
theorem dc_nodup : ∀ xs, dc xs = xs.length ↔ xs.Nodup
  | [] => by simp [dc]
  | x :: xs => by
    have h1 := dc_le xs
    have h2 := dc_nodup xs
    unfold dc
    rw [List.length_cons, List.nodup_cons]
    by_cases hx : x ∈ xs
    · rw [if_pos hx]
      exact ⟨fun h => by omega, fun h => absurd hx h.1⟩
    · rw [if_neg hx]
      exact ⟨fun h => ⟨hx, h2.mp (by omega)⟩, fun h => by rw [h2.mpr h.2]⟩
def tScI (wi : TI) (g : TG) (tt : TT) (te : TE) (vs : List Nat) : TE := fun σ H Q => wi σ H fun J H1 => ∃ W : Nat → Nat → List Int → Hp → Prop, (∃ m, W 0 m [] H1) ∧ ∀ i m ns H, W i m ns H →
  (J.stop i H ∧ Q (.int (dc ns : Nat)) H) ∨ (J.go i H ∧ ns.length < 4000 ∧ ∃ Nx : List Int → Hp → Prop, (∀ ns' H', Nx ns' H' → ∃ m', m' < m ∧ W (i + 1) m' ns' H') ∧ ∀ x H', J.yld i H x H' → g x (wipe σ vs) H' fun σ2 H2 => wipe σ2 vs = wipe σ vs ∧ tt σ2 H2 fun b H3 =>
    if b = true then te σ2 H3 fun y H4 => ∃ k : Int, y = .int k ∧ Nx (k :: ns) H4 else Nx ns H3)
section
variable {X : Cx}
theorem setR_fresh {h : Heap} (w : World) : SetR w (h.push { cls := .type "set", dict := none, data := .set #[] 0 (.fresh 0 0 (!w.params.followText "set-order")) }) h.objs.size (fun j => decide (j ∈ ([] : List Int))) 0 := setR_new_at (ns := []) (Heap.get?_push_size _ rfl)
theorem setR_noCell {w : World} {h : Heap} {a : Addr} {S : Int → Bool} {n : Nat} (R : SetR w h a S n) : ∃ o, h.get? a = some o ∧ ∀ v, o.data ≠ .cell v := by
  obtain ⟨o, es, ep, t, ho, hx, hd, _⟩ := R
  exact ⟨o, ho, fun v z => by rw [hd] at z; cases z⟩
theorem sc_coreI {pins : List (Addr × Obj)} {s : Shared} {σ : L2.St} {H : Hp} {Q : VK} {elt tg iter : Expr} {ifs : List Expr} {scope : Scope} {own : List (PySem.Str × Nat)} {pos pos' : Pos} {wi : TI} {g : TG} {tt : TT} {te : TE} {use : Option (Value → Sem Unit)} {Qf : Value → Shared → Prop}
    (hc : X.calm = true) (hN : X.N.Nodup) (I : Inv X pins σ H s) (hi : PI X tg iter wi) (ok : BlkOk X.N X.env.scope scope own)
    (hg : ∀ (s : Shared) (H : Hp) (C : Addr) (cl : List (PySem.Str × Addr)) (fp : List Addr), PG (X.blk s H scope (compEnvC scope cl C X.env) fp) tg g) (ht : ∀ (s : Shared) (H : Hp) (C : Addr) (cl : List (PySem.Str × Addr)) (fp : List Addr), PTs (X.blk s H scope (compEnvC scope cl C X.env) fp) ifs tt)
    (he : ∀ (s : Shared) (H : Hp) (C : Addr) (cl : List (PySem.Str × Addr)) (fp : List Addr), PE (X.blk s H scope (compEnvC scope cl C X.env) fp) elt te) (hs : ∀ x, foldedSetIterable iter X.env x = pure x)
    (h : tScI wi g tt te (own.map (·.2)) σ H Q)
    (hRR : ∀ D C s' m H' ns, D ≠ C → Inv X pins σ H' s' → SetR X.w s'.heap D (fun j => decide (j ∈ ns)) (dc ns) → Q (.int (dc ns : Nat)) H' → s'.heap.Ns C m → FpOk X pins H' C → compPost (model X.prog X.w) X.A X.xe use Qf (.ref D) C (.ok .next) s') :
    wpAny (model X.prog X.w) X.A (comprehension (.SetComp elt [⟨tg, iter, ifs, 0⟩] scope pos) scope X.env pos' (newSet (.type "set")) false (eval iter X.env) use) Qf X.xe s := by
  have hfree : ∀ y ∈ scope.names, y.2 = .free → ∃ c, X.env.cells.lookup y.1 = some c := fun y hy e => by
    rcases ok.free y hy e with k | k
    · exact I.ok.has _ (.inl k)
    · exact I.ok.has _ (.inr k)
  refine wpAny_comprehension_free (use := use) rfl hs (closure_ok hfree) ok.kind (fun y hy e => by rw [ok.uniq y hy, e])
    (thn (hi.run pins s σ H _ I h) fun xv s1 hx => thn hx fun itv s2 h2 => ?_)
  obtain ⟨it, fp, tn, J, H2, e, I2, T, st2, f2, q⟩ := h2
  subst e
  refine newSet_ok (newEnv_comp ?_)
  generalize hD : s2.heap.objs.size = D
  have hDn : H2 D = none := I2.hok.fresh (Nat.le_of_eq hD)
  obtain ⟨W, ⟨m0, w0⟩, turn⟩ := q
  generalize hs3 : ({ s2 with heap := s2.heap.push { cls := .type "set", dict := none, data := .set #[] 0 (.fresh 0 0 (!X.w.params.followText "set-order")) } } : Shared) = s3
  have h3 : s3.heap = s2.heap.push { cls := .type "set", dict := none, data := .set #[] 0 (.fresh 0 0 (!X.w.params.followText "set-order")) } := by rw [← hs3]
  have I3 : Inv X pins σ H2 s3 := by
    rw [← hs3]
    exact I2.kept (t' := s2.toks) fun b o e => Heap.get?_push_of_some _ e
  have sR3 : SetR X.w s3.heap D (fun j => decide (j ∈ ([] : List Int))) 0 := by rw [h3, ← hD]; exact setR_fresh X.w
  have sz : ∀ b ∈ fp, b < D := fun b hb => by
    obtain ⟨o, e, _⟩ := T.obj _ _ st2 b hb
    rw [← hD]
    exact Heap.lt_size e
  have sz3 : s3.heap.objs.size = D + 1 := by rw [h3, Heap.size_push, hD]
  have f3 : ∀ b ∈ D :: fp, FpOk X pins H2 b ∧ b < s3.heap.objs.size := fun b hb => by
    rcases List.mem_cons.mp hb with rfl | hb
    · exact ⟨I2.fpOk (Nat.le_of_eq hD) hDn, by rw [sz3]; exact Nat.lt_succ_self _⟩
    · exact ⟨f2 b hb, by rw [sz3]; exact Nat.lt_succ_of_lt (sz b hb)⟩
  have st3 : tn 0 s3.heap := T.keep _ _ _ st2 fun b _ o e => by rw [h3]; exact Heap.get?_push_of_some _ e
  have I4 := block_start I3 ok hN f3
  have pg := hg s3 H2 s3.heap.objs.size (cellsFrom (s3.heap.objs.size + 1) scope.names (cloFrom X.env.cells scope.names [])) (D :: fp)
  have pt := ht s3 H2 s3.heap.objs.size (cellsFrom (s3.heap.objs.size + 1) scope.names (cloFrom X.env.cells scope.names [])) (D :: fp)
  have pe := he s3 H2 s3.heap.objs.size (cellsFrom (s3.heap.objs.size + 1) scope.names (cloFrom X.env.cells scope.names [])) (D :: fp)
  show codeAny _ _ (.compStart (.SetComp elt [⟨tg, iter, ifs, 0⟩] scope pos) 0 (.ref it) (.ref D) (compEnvC scope (cellsFrom (s3.heap.objs.size + 1) scope.names (cloFrom X.env.cells scope.names [])) s3.heap.objs.size X.env)) (compPost (model X.prog X.w) X.A X.xe use Qf (.ref D) s3.heap.objs.size) { s3 with heap := pushCells (s3.heap.push { cls := .type "dict", data := .dict #[] }) scope.names }
  have nfp : ∀ b ∈ D :: fp, H2 b = none := fun b hb => (f3 b hb).1.1
  generalize hce : compEnvC scope (cellsFrom (s3.heap.objs.size + 1) scope.names (cloFrom X.env.cells scope.names [])) s3.heap.objs.size X.env = ce at I4 pg pt pe ⊢
  have cL : ce.locals = s3.heap.objs.size := by subst hce; rfl
  generalize hs4 : ({ s3 with heap := pushCells (s3.heap.push { cls := .type "dict", data := .dict #[] }) scope.names } : Shared) = s4 at I4 ⊢
  have kp4 : ∀ b o, s3.heap.get? b = some o → s4.heap.get? b = some o := fun b o e => by rw [← hs4]; exact pushCells_keeps _ _ _ _ (Heap.get?_push_of_some _ e)
  have st4 : tn 0 s4.heap := T.keep _ _ _ st3 fun b _ o e => kp4 b o e
  have sR4 : SetR X.w s4.heap D (fun j => decide (j ∈ ([] : List Int))) (dc []) := sR3.at fun o e => kp4 D o e
  have stat : ∀ {σ' : L2.St} {H' : Hp} {s' : Shared}, Inv (X.blk s3 H2 scope ce (D :: fp)) [] σ' H' s' → (∀ b ∈ D :: fp, H' b = none) → ∀ b ∈ D :: fp, FpOk (X.blk s3 H2 scope ce (D :: fp)) [] H' b := fun {σ' H' s'} I' hn b hb =>
    ⟨hn b hb, (I'.ok.exf b hb).1, I'.ok.exfs b hb, .inl hb, fun x c e => (I'.ok.exf b hb).2 x c e, fun p hp => absurd (show p ∈ ([] : List (Addr × Obj)) ++ [] from hp) (by simp)⟩
  have statP : ∀ {σ' : L2.St} {H' : Hp} {s' : Shared}, Inv (X.blk s3 H2 scope ce (D :: fp)) [] σ' H' s' → (∀ b ∈ D :: fp, H' b = none) → ∀ b ∈ fp, FpOk (X.blk s3 H2 scope ce (D :: fp)) ([] ++ pinsAt [D] s'.heap) H' b := fun {σ' H' s'} I' hn b hb => by
    obtain ⟨a1, a2, a3, a4, a5, a6⟩ := stat I' hn b (List.mem_cons_of_mem _ hb)
    refine ⟨a1, a2, a3, a4, a5, fun p hp z => ?_⟩
    have hp : p ∈ pinsAt [D] s'.heap := by simpa using hp
    obtain ⟨w1, _⟩ := of_pinsAt hp
    rw [List.mem_singleton.mp w1] at z
    exact Nat.ne_of_gt (sz b hb) z
  have loop : codeAny (model X.prog X.w) X.A (.compLoop (.SetComp elt [⟨tg, iter, ifs, 0⟩] scope pos) 0 (.ref it) (.ref D) ce) (compPost (model X.prog X.w) X.A X.xe use Qf (.ref D) s3.heap.objs.size) s4 := by
    refine compLoopS_any (fun n s' => ∃ i ns H', Inv (X.blk s3 H2 scope ce (D :: fp)) [] (wipe σ (own.map (·.2))) H' s' ∧ tn i s'.heap ∧ (∀ b ∈ D :: fp, H' b = none) ∧ SetR X.w s'.heap D (fun j => decide (j ∈ ns)) (dc ns) ∧ W i n ns H') ?_ m0 ⟨0, [], H2, I4, st4, nfp, sR4, w0⟩
    rintro n s5 ⟨i, ns, H5, I5, st5, n5, sR5, w5⟩
    have J5 : Inv (X.blk s3 H2 scope ce (D :: fp)) ([] ++ pinsAt [D] s5.heap) (wipe σ (own.map (·.2))) H5 s5 := I5.pinned (fp := [D]) (fun b hb => stat I5 n5 b (by rw [List.mem_singleton.mp hb]; simp)) fun b hb => by rw [List.mem_singleton.mp hb]; exact setR_noCell sR5
    have keepD : ∀ {σ' : L2.St} {H' : Hp} {s' : Shared}, Inv (X.blk s3 H2 scope ce (D :: fp)) ([] ++ pinsAt [D] s5.heap) σ' H' s' → SetR X.w s'.heap D (fun j => decide (j ∈ ns)) (dc ns) ∧ H' D = none := fun {σ' H' s'} I' => by
      obtain ⟨o, eo, _⟩ := setR_noCell sR5
      have z := I'.pin (D, o) (List.mem_append_right _ (List.mem_append_right _ (mem_pinsAt (List.mem_singleton.mpr rfl) eo)))
      exact ⟨sR5.at fun o' e' => by rw [eo] at e'; cases e'; exact z.1, z.2.1⟩
    rcases turn i n ns H5 w5 with ⟨stop, qq⟩ | ⟨go, room, Nx, hNx, step⟩
    · have td := T.done (X.blk s3 H2 scope ce (D :: fp)) rfl rfl rfl hc i _ s5 _ H5 (fun _ _ => False) J5 (statP I5 n5) st5 stop
      refine thnF td fun r s6 ⟨hr, I6⟩ => ?_
      subst hr
      have I7 : Inv X pins σ H5 s6 := I3.call' (ch := D :: fp) I6.os I6.base I6.hok I6.bare fun b hb => ⟨(f3 b hb).1.2.2.2.1, (f3 b hb).1.2.1, (f3 b hb).1.2.2.2.2.1, (f3 b hb).1.2.2.2.2.2⟩
      have nC : H5 s3.heap.objs.size = none := by
        have z : H5 ce.locals = none := I6.free
        rw [cL] at z
        exact z
      obtain ⟨m, hn, _⟩ := I6.loc
      have hn : s6.heap.Ns ce.locals m := hn
      rw [cL] at hn
      exact hRR D s3.heap.objs.size s6 m H5 ns (by rw [sz3]; exact Nat.ne_of_lt (Nat.lt_succ_self _)) I7 (keepD I6).1 qq hn (I3.fpOk (Nat.le_refl _) nC)
    · have ti := T.item (X.blk s3 H2 scope ce (D :: fp)) rfl rfl rfl hc i _ s5 _ H5 (fun _ _ => False) J5 (statP I5 n5) st5 go
      refine thnF ti fun r s6 ⟨u, hr, h6⟩ => ?_
      subst hr
      refine thnF h6 fun _ s7 ⟨x, H7, I7, r7, y7, st7, n7⟩ => ?_
      obtain ⟨sR7, nD7⟩ := keepD I7
      have I7u := I7.unpinned (pins := [])
      have n7' : ∀ b ∈ D :: fp, H7 b = none := fun b hb => by
        rcases List.mem_cons.mp hb with rfl | hb
        · exact nD7
        · exact n7 b hb
      have I7' := I7u.pinned (stat I7u n7') fun b hb => by
        rcases List.mem_cons.mp hb with rfl | hb
        · exact setR_noCell sR7
        · exact T.obj _ _ st7 b hb
      refine thnF (pg.run _ s7 _ H7 x u _ I7' r7 (step x H7 y7)) fun _ s8 ⟨σ8, H8, I8, hw8, q8⟩ => ?_
      refine thnF (pt.run _ s8 σ8 H8 _ I8 q8) fun b s9 ⟨H9, I9, q9⟩ => ?_
      have hl : (wipe σ (own.map (·.2))).length = σ8.length := by rw [← hw8, wipe_length]
      have kept : ∀ {s' : Shared} {H' : Hp}, Inv (X.blk s3 H2 scope ce (D :: fp)) ([] ++ pinsAt (D :: fp) s7.heap) σ8 H' s' → (∀ b ∈ D :: fp, ∀ o, s7.heap.get? b = some o → s'.heap.get? b = some o) ∧ ∀ b ∈ D :: fp, H' b = none := fun {s' H'} I' => by
        have pin' : ∀ b ∈ D :: fp, ∀ o, s7.heap.get? b = some o → s'.heap.get? b = some o ∧ H' b = none := fun b hb o e =>
          let z := I'.pin (b, o) (List.mem_append_right _ (List.mem_append_right _ (mem_pinsAt hb e)))
          ⟨z.1, z.2.1⟩
        refine ⟨fun b hb o e => (pin' b hb o e).1, fun b hb => ?_⟩
        have : ∃ o, s7.heap.get? b = some o := by
          rcases List.mem_cons.mp hb with rfl | hb
          · obtain ⟨o, e, _⟩ := setR_noCell sR7
            exact ⟨o, e⟩
          · obtain ⟨o, e, _⟩ := T.obj _ _ st7 b hb
            exact ⟨o, e⟩
        obtain ⟨o, e⟩ := this
        exact (pin' b hb o e).2
      cases b with
      | false =>
        simp only [Bool.false_eq_true, if_false] at q9 ⊢
        obtain ⟨k1, k2⟩ := kept I9
        obtain ⟨m', hm, w'⟩ := hNx ns H9 q9
        refine ⟨m', hm, i + 1, ns, H9, (I9.unpinned (pins := [])).weak hl (fun j v e => ?_), T.keep _ _ _ st7 fun b hb o e => k1 b (List.mem_cons_of_mem _ hb) o e, k2, sR7.at fun o e => k1 D (by simp) o e, w'⟩
        rw [← hw8] at e
        exact (wipe_some e).1
      | true =>
        simp only [if_true] at q9 ⊢
        refine thnF (pe.run _ s9 σ8 H9 _ I9 q9) fun z s10 ⟨yv, H10, I10, r10, k, ey, nx⟩ => ?_
        subst ey
        obtain ⟨tk, rfl⟩ := r10
        obtain ⟨k1, k2⟩ := kept I10
        have sR10 : SetR X.w s10.heap D (fun j => decide (j ∈ ns)) (dc ns) := sR7.at fun o e => k1 D (by simp) o e
        have dl := dc_le ns
        refine setR_add sR10 (by unfold scanBound; omega) fun h' sb new => ?_
        obtain ⟨m', hm, w'⟩ := hNx (k :: ns) H10 nx
        have I10u := I10.unpinned (pins := [])
        obtain ⟨g0, g1, g2, g3, g4, g5⟩ := stat I10u k2 D (by simp)
        have I11 := I10u.turned (t' := s10.toks + 1) (h' := h') (it := D) (fun b o hb e => (sb.2 b hb).trans e) g0 g1 g3 g4 g5
        refine ⟨m', hm, i + 1, k :: ns, H10, I11.weak hl (fun j v e => ?_), T.keep _ _ _ st7 fun b hb o e => ?_, k2, ?_, w'⟩
        · rw [← hw8] at e
          exact (wipe_some e).1
        · exact (sb.2 b (Nat.ne_of_lt (sz b hb))).trans (k1 b (List.mem_cons_of_mem _ hb) o e)
        · have e1 : (if decide (k ∈ ns) = true then dc ns else dc ns + 1) = dc (k :: ns) := by
            show _ = if k ∈ ns then dc ns else dc ns + 1
            by_cases hk : k ∈ ns
            · rw [if_pos hk, if_pos (by simpa using hk)]
            · rw [if_neg hk, if_neg (by simpa using hk)]
          have e2 : (fun j => decide (j ∈ ns) || decide (j = k)) = fun j => decide (j ∈ k :: ns) := by
            funext j
            rw [Bool.eq_iff_iff]
            simp [or_comm]
          rw [← e1, ← e2]
          exact new
  exact codeAny_compStart_set loop (T.self X.A 0 _ _ _ st4 loop)
end
end SF

/-! SL55: len({..}) of ints, over data. -/
namespace SF
open PySem PySem.Spec PyProof.Rows L2 PpSet
section
variable {X : Cx}
theorem pe_lenSc {elt tg iter : Expr} {ifs : List Expr} {scope : Scope} {own : List (PySem.Str × Nat)} {p q pos : Pos} {wi : TI} {g : TG} {tt : TT} {te : TE} (hgl : Gl X "len") (hm : X.mg "len" = none) (hc : X.calm = true) (hN : X.N.Nodup) (hi : PI X tg iter wi) (ok : BlkOk X.N X.env.scope scope own)
    (hg : ∀ (s : Shared) (H : Hp) (C : Addr) (cl : List (PySem.Str × Addr)) (fp : List Addr), PG (X.blk s H scope (compEnvC scope cl C X.env) fp) tg g) (ht : ∀ (s : Shared) (H : Hp) (C : Addr) (cl : List (PySem.Str × Addr)) (fp : List Addr), PTs (X.blk s H scope (compEnvC scope cl C X.env) fp) ifs tt)
    (he : ∀ (s : Shared) (H : Hp) (C : Addr) (cl : List (PySem.Str × Addr)) (fp : List Addr), PE (X.blk s H scope (compEnvC scope cl C X.env) fp) elt te) (hs : ∀ x, foldedSetIterable iter X.env x = pure x := by intro _; rfl) :
    PE X (.Call (.Name "len" p) [.SetComp elt [⟨tg, iter, ifs, 0⟩] scope q] [] pos) (tScI wi g tt te (own.map (·.2))) := by
  refine ⟨fun pins s σ H Q I h => ?_⟩
  refine Call_ (ld_blt I hgl hm boot_len ?_)
  refine PyProof.Rows.callWith_builtin1 (PyProof.Rows.args_cons ?_ rfl) rfl rfl
  rw [eval_SetComp]
  refine sc_coreI hc hN I hi ok hg ht he hs h fun D C s' m H' ns ne I' sR q hn f => ⟨m, hn, fun h'' sb => ?_⟩
  refine PyProof.Rows.args_nil ?_
  obtain ⟨f0, f1, f2, f3, f4, f5⟩ := f
  have I2 := I'.turned (t' := s'.toks) (fun b o hb e => (sb.2 b hb).trans e) f0 f1 f3 f4 f5
  have sR2 : SetR X.w h'' D (fun j => decide (j ∈ ns)) (dc ns) := sR.at fun o e => (sb.2 D ne).trans e
  obtain ⟨o, es, ep, t, ho, hex, hd, _, _, _, hb, hf, hz, _⟩ := sR2
  refine call_len_set (s := { s' with heap := h'' }) ho hex hd hf (by unfold scanBound at hb; omega) ?_
  refine ⟨.int (dc ns : Nat), H', ?_, ⟨_, by rw [hz]⟩, q⟩
  exact I2.tok _
end
@[irreducible] def dLenS (w : DTI) (g : DTG) (tt : DTT) (te : DTE) (vs : List Nat) : DTE := fun ds Q => w ds fun its ds1 => match noBox ds1.sl vs with
  | false => False
  | true => its.length < 4000 ∧ ∃ P : Nat → List Int → DS → Prop, P 0 [] ⟨wipeD ds1.sl vs, ds1.n⟩ ∧
    (∀ (i : Nat) d ns ds2, its[i]? = some d → P i ns ds2 → g d ds2 fun ds3 => tt ds3 fun b ds4 => match b with
      | true => te ds4 fun y ds5 => match peek ds5 y with
        | some (.int k) => P (i + 1) (k :: ns) ⟨wipeD ds5.sl vs, ds5.n⟩
        | _ => False
      | false => P (i + 1) ns ⟨wipeD ds4.sl vs, ds4.n⟩) ∧
    ∀ ns ds2, P its.length ns ds2 → Q (.d (.int (dc ns : Nat))) ⟨restD ds2.sl ds1.sl vs, ds2.n⟩
section
variable {X : Cx} {F : Fx} {tg it elt : Expr} {pos p q : Pos}
theorem vw_int {K : Fg} {H : Hp} {O : List Addr} {v : V} {k : Int} (h : Vw K H O v (.int k)) : v = .int k := by
  rcases h with h | ⟨p, vs, xs, _, e, _⟩
  · cases h; rfl
  · cases e
theorem lenS_lift {s : Bool} {T : List Nat} {w : DTI} {g : DTG} {tt : DTT} {te : DTE} {vs : List Nat} {K : Fg} (hT : ∀ i ∈ T, i ∈ vs) {σ : St} {H : Hp} {Q : VK} (h : lift K F (dLenS w g tt te vs) σ H Q) :
    tScI (liftI s K F w) (liftG s T K F g) (liftT K F tt) (lift K F te) vs σ H Q := by
  obtain ⟨O, ds, Qa, R, ht, hq⟩ := h
  unfold dLenS at ht
  refine ⟨O, ds, _, R, ht, fun its ds1 H1 O1 J s1 R1 io hx => ?_⟩
  split at hx
  · exact hx.elim
  rename_i hbx
  obtain ⟨few, P, p0, turn, fin⟩ := hx
  have wl : (wipe σ vs).length = σ.length := wipe_length σ vs
  have wo : ∀ i : Nat, i ∉ vs → (wipe σ vs)[i]? = σ[i]? := fun i hi => wipe_out hi
  have Rw : Rep K F H1 O1 (wipe σ vs) ⟨wipeD ds1.sl vs, ds1.n⟩ := R1.fit vs wl wo
  have mw : ∀ j p, MutAt (wipe σ vs) ⟨wipeD ds1.sl vs, ds1.n⟩ j p → MutAt σ ds1 j p ∧ j ∉ vs := fun j p ⟨a, dv, b, c⟩ => by
    obtain ⟨b1, b2⟩ := wipeD_some b
    rw [wo j b2] at a
    exact ⟨⟨a, dv, b1, c⟩, b2⟩
  refine ⟨fun i m ns H2 => m = its.length - i ∧ i ≤ its.length ∧ ∃ O2 ds2, Step (wipe σ vs) H1 O1 ⟨wipeD ds1.sl vs, ds1.n⟩ H2 O2 ds2 ∧ Rep K F H2 O2 (wipe σ vs) ds2 ∧ ns.length ≤ i ∧ Clear vs ds2 ∧ P i ns ds2,
    ⟨its.length, by simp, Nat.zero_le _, O1, _, Step.refl, Rw, Nat.le_refl _, wipeD_clear _ _ _, p0⟩, ?_⟩
  rintro i m ns H2 ⟨rfl, hi, O2, ds2, st, R2, hal, hcl, p2⟩
  have a2 : HS O1 H1 O2 H2 := st.hs Rw
  by_cases hlt : i < its.length
  · obtain ⟨go, yl⟩ := io.go H2 O2 R2.lo a2 i hlt
    refine .inr ⟨go, by omega, fun ns H' => ∃ O2 ds2, Step (wipe σ vs) H1 O1 ⟨wipeD ds1.sl vs, ds1.n⟩ H' O2 ds2 ∧ Rep K F H' O2 (wipe σ vs) ds2 ∧ ns.length ≤ i + 1 ∧ Clear vs ds2 ∧ P (i + 1) ns ds2,
      fun ns' H' hN => ⟨its.length - (i + 1), by omega, rfl, hlt, hN⟩, fun x H3 hy => ?_⟩
    obtain ⟨d, ed, sm3, im⟩ := yl x H3 hy
    have R3 : Rep K F H3 O2 (wipe σ vs) ds2 := R2.grow sm3 grow_refl (fun _ h => h) (lo_same R2.lo sm3)
    have st3 : Step (wipe σ vs) H2 O2 ds2 H3 O2 ds2 := Step.grow sm3 grow_refl fun _ h => h
    refine ⟨O2, ds2, d, _, R3, im, turn i d ns ds2 ed p2, fun O4 ds4 σ4 tg4 R4 on4 h4 => ?_⟩
    have ag4 : ∀ j : Nat, j ∉ vs → σ4[j]? = (wipe σ vs)[j]? := fun j hj => on4.2 j fun z => hj (hT j z)
    refine ⟨wipe_eq (on4.1.trans wl) fun j hj => by rw [ag4 j hj, wo j hj], ?_⟩
    have bring : ∀ {H6 : Hp} {O6 : List Addr} {ds6 : DS}, Step σ4 H3 O4 ds4 H6 O6 ds6 → Rep K F H6 O6 σ4 ds6 →
        Step (wipe σ vs) H1 O1 ⟨wipeD ds1.sl vs, ds1.n⟩ H6 O6 ⟨wipeD ds6.sl vs, ds6.n⟩ ∧ Rep K F H6 O6 (wipe σ vs) ⟨wipeD ds6.sl vs, ds6.n⟩ := by
      intro H6 O6 ds6 s6 R6
      have s46 : Step (wipe σ vs) H3 O4 ds2 H6 O6 ⟨wipeD ds6.sl vs, ds6.n⟩ := s6.fit ag4 hcl tg4.mu tg4.bx tg4.sl
      have sT : Step (wipe σ vs) H3 O2 ds2 H3 O4 ds2 := ⟨tg4.hs.gr, fun p hp _ => tg4.sub p hp, fun _ _ h _ => h, fun _ h => h, fun _ dv h => ⟨dv, h⟩, fun _ _ h => h, fun _ _ h => h⟩
      exact ⟨st.trans ((st3.trans sT).trans s46), R6.fit (σ' := wipe σ vs) vs (by rw [on4.1]) fun j hj => (ag4 j hj).symm⟩
    refine ⟨O4, ds4, _, R4, h4, fun b ds5 H5 O5 s5 R5 h5 => ?_⟩
    cases b with
    | false =>
      refine iteF ?_
      obtain ⟨b1, b2⟩ := bring s5 R5
      exact ⟨O5, _, b1, b2, by omega, wipeD_clear _ _ _, h5⟩
    | true =>
      refine iteT ⟨O5, ds5, _, R5, h5, fun y ds6 v H6 O6 s6 R6 ry h6 => ?_⟩
      split at h6
      · rename_i k e1
        have ev := vw_int (RpV.vw R6 ry e1)
        subst ev
        obtain ⟨b1, b2⟩ := bring (s5.trans s6) R6
        exact ⟨k, rfl, O6, _, b1, b2, by rw [List.length_cons]; omega, wipeD_clear _ _ _, h6⟩
      · exact h6.elim
  · have e : i = its.length := by omega
    subst e
    refine .inl ⟨io.stop H2 O2 R2.lo a2, ?_⟩
    have q := fin ns ds2 p2
    have l2 : ds2.sl.length = ds1.sl.length := by rw [R2.len, R1.len, wl]
    have mo : ∀ j p, MutAt σ ⟨restD ds2.sl ds1.sl vs, ds2.n⟩ j p → MutAt σ ds1 j p := fun j p ⟨a, dv, b, c⟩ => by
      by_cases hj : j ∈ vs
      · have b' : (restD ds2.sl ds1.sl vs)[j]? = some (some dv) := b
        rw [restD_in l2 hj] at b'
        exact ⟨a, dv, b', c⟩
      · have b' : (restD ds2.sl ds1.sl vs)[j]? = some (some dv) := b
        rw [restD_out hj] at b'
        exact (mw j p (st.mu j p ⟨by rw [wo j hj]; exact a, dv, b', c⟩)).1
    have bo : ∀ j p, BoxS σ ⟨restD ds2.sl ds1.sl vs, ds2.n⟩ j p → BoxS σ ds1 j p := fun j p ⟨a, b⟩ => by
      have b' : (restD ds2.sl ds1.sl vs)[j]? = some (some .box) := b
      by_cases hj : j ∈ vs
      · rw [restD_in l2 hj] at b'
        exact ⟨a, b'⟩
      · rw [restD_out hj] at b'
        obtain ⟨b1, b2⟩ := st.bx j p ⟨by rw [wo j hj]; exact a, b'⟩
        exact ⟨a, (wipeD_some b2).1⟩
    have inw : ∀ j p, j ∈ vs → MutAt σ ds1 j p → ∀ k, ¬ MutAt (wipe σ vs) ⟨wipeD ds1.sl vs, ds1.n⟩ k p := fun j p hj hm k hk => by
      obtain ⟨h1, h2⟩ := mw k p hk
      exact h2 (R1.mu j k p hm h1 ▸ hj)
    have mO : ∀ j p, j ∈ vs → MutAt σ ds1 j p → p ∈ O2 := fun j p hj hm => st.o2 p (R1.mutO hm) (inw j p hj hm)
    refine hq (.d (.int (dc ns : Nat))) ⟨restD ds2.sl ds1.sl vs, ds2.n⟩ (.int (dc ns : Nat)) H2 O2 (s1.trans ⟨a2.gr, fun p hp n => ?_, fun a o ha n => st.kp a o ha fun j hj => n j (mw j a hj).1, a2.dm, fun j dv hj => ?_, mo, bo⟩) ?_ (.int _) q
    · exact st.o2 p hp fun j hj => n j (mw j p hj).1
    · by_cases hv : j ∈ vs
      · exact ⟨dv, by show (restD ds2.sl ds1.sl vs)[j]? = _; rw [restD_in l2 hv]; exact hj⟩
      · obtain ⟨dv', e'⟩ := st.sl j dv (by show (wipeD ds1.sl vs)[j]? = _; rw [wipeD_keep hv]; exact hj)
        exact ⟨dv', by show (restD ds2.sl ds1.sl vs)[j]? = _; rw [restD_out hv]; exact e'⟩
    · refine ⟨R2.lo, R2.sub, R2.ext, fun j dv hj => ?_, fun j k p h1 h2 => R1.mu j k p (mo j p h1) (mo k p h2), fun j p h1 => R1.new j p (mo j p h1), fun j p ys h1 h2 => ?_, R2.bx, fun j p hb => R1.bu j p (bo j p hb), fun j k p r h1 h2 => R1.b1 j k p r (bo j p h1) (bo k r h2), R2.fo, R2.bo, by show (restD ds2.sl ds1.sl vs).length = _; rw [restD_len, l2, R1.len]⟩
      · by_cases hv : j ∈ vs
        · have hj' : (restD ds2.sl ds1.sl vs)[j]? = some (some dv) := hj
          rw [restD_in l2 hv] at hj'
          obtain ⟨w', ew, r⟩ := R1.sl j dv hj'
          refine ⟨w', ew, ?_⟩
          cases dv with
          | exc xa xb => exact hs_ex R1.lo a2 r
          | d y => exact hs_rp R1.lo a2 r
          | own ys =>
            obtain ⟨p, us, e3, c1, c2, c3⟩ := r
            subst e3
            have hm : MutAt σ ds1 j p := ⟨ew, _, hj', trivial⟩
            exact ⟨p, us, rfl, mO j p hv hm, st.kp p _ c2 (inw j p hv hm), hs_rpl R1.lo a2 c3⟩
          | box => exact absurd hj' (noBox_ok hbx hv)
          | slot k => exact r
        · have hj' : (restD ds2.sl ds1.sl vs)[j]? = some (some dv) := hj
          rw [restD_out hv] at hj'
          obtain ⟨w', ew, r⟩ := R2.sl j dv hj'
          exact ⟨w', by rw [← wo j hv]; exact ew, r⟩
      · by_cases hv : j ∈ vs
        · have hj' : (restD ds2.sl ds1.sl vs)[j]? = some (some (.own ys)) := h2
          rw [restD_in l2 hv] at hj'
          exact R1.newO j p ys h1 hj'
        · have hj' : (restD ds2.sl ds1.sl vs)[j]? = some (some (.own ys)) := h2
          rw [restD_out hv] at hj'
          exact R2.newO j p ys (by rw [wo j hv]; exact h1) hj'
theorem de_lenS {s : Bool} {T : List Nat} {w : DTI} {g : DTG} {tt : DTT} {te : DTE} {ifs : List Expr} {scope : Scope} {own : List (Str × Nat)} (hgl : Gl X "len") (hm : X.mg "len" = none) (hc : X.calm = true) (hN : X.N.Nodup) (hi : DI s X F tg it w) (ok : BlkOk X.N X.env.scope scope own)
    (hT : ∀ i ∈ T, i ∈ own.map (·.2))
    (hg : ∀ (s0 : Shared) (H : Hp) (C : Addr) (cl : List (Str × Addr)) (fp : List Addr), DG s T (X.blk s0 H scope (compEnvC scope cl C X.env) fp) F tg g)
    (ht : ∀ (s0 : Shared) (H : Hp) (C : Addr) (cl : List (Str × Addr)) (fp : List Addr), DTs (X.blk s0 H scope (compEnvC scope cl C X.env) fp) F ifs tt)
    (he : ∀ (s0 : Shared) (H : Hp) (C : Addr) (cl : List (Str × Addr)) (fp : List Addr), DE (X.blk s0 H scope (compEnvC scope cl C X.env) fp) F elt te)
    (hs : ∀ x, foldedSetIterable it X.env x = pure x := by intro _; rfl) : DE X F (.Call (.Name "len" p) [.SetComp elt [⟨tg, it, ifs, 0⟩] scope q] [] pos) (dLenS w g tt te (own.map (·.2))) :=
  PE_imp (pe_lenSc hgl hm hc hN hi ok hg ht he hs) fun σ H Q h => lenS_lift hT h
end
/-- over coded items, all taken -/
theorem lenS_map {α : Type} (enc : α → D) (xs : List α) (fn : α → Int) {w : DTI} {g : DTG} {tt : DTT} {te : DTE} {vs : List Nat} {ds ds1 : DS} {Q : DV → DS → Prop} (hw : ∀ K : List D → DS → Prop, K (xs.map enc) ds1 → w ds K) (hb : noBox ds1.sl vs = true) (hl : xs.length < 4000)
    (hst : ∀ a ∈ xs, ∀ (ns : List Int) (P : List Int → DS → Prop), P (fn a :: ns) ⟨wipeD ds1.sl vs, ds1.n⟩ → g (enc a) ⟨wipeD ds1.sl vs, ds1.n⟩ fun ds3 => tt ds3 fun b ds4 => match b with
      | true => te ds4 fun y ds5 => match peek ds5 y with
        | some (.int k) => P (k :: ns) ⟨wipeD ds5.sl vs, ds5.n⟩
        | _ => False
      | false => P ns ⟨wipeD ds4.sl vs, ds4.n⟩)
    (hQ : Q (.d (.int (dc (xs.map fn).reverse : Nat))) ⟨restD (wipeD ds1.sl vs) ds1.sl vs, ds1.n⟩) : dLenS w g tt te vs ds Q := by
  unfold dLenS
  refine hw _ ?_
  rw [hb]
  refine ⟨by rw [List.length_map]; exact hl, fun i ns ds => ns = ((xs.take i).map fn).reverse ∧ ds = ⟨wipeD ds1.sl vs, ds1.n⟩, ⟨by simp, rfl⟩, ?_, ?_⟩
  · rintro i d ns ds2 hi ⟨rfl, rfl⟩
    rw [List.getElem?_map] at hi
    cases ex : xs[i]? with
    | none => rw [ex] at hi; cases hi
    | some a =>
      rw [ex] at hi
      cases hi
      refine hst a (List.mem_of_getElem? ex) _ (fun ns ds => ns = ((xs.take (i + 1)).map fn).reverse ∧ ds = ⟨wipeD ds1.sl vs, ds1.n⟩) ⟨?_, rfl⟩
      have e : xs.take (i + 1) = xs.take i ++ [a] := by rw [List.take_add_one, ex]; rfl
      rw [e, List.map_append, List.reverse_append]; rfl
  · rintro ns ds2 ⟨rfl, rfl⟩
    rw [List.length_map, List.take_length]
    exact hQ
end SF

/-! SL56: t.count(x) of a tuple. -/
namespace SF
open PySem PySem.Spec PyProof.Rows L2
section
variable {X : Cx} {F : Fx} {o e : Expr} {apos cpos : Pos}
def rCntT (K : Fg) : V → List V → Hp → VK → Prop := fun x xs H Q => ∃ (p : Addr) (vs : List V) (v : V), x = .ref p ∧ xs = [v] ∧ SqT K H p vs ∧ flatV v = true ∧ vs.all flatV = true ∧ Q (.int ((vs.countP fun y => eqV y v : Nat) : Int)) H
theorem mt_cntT : MtR X "tuple.count" (rCntT X.K) := by
  intro pins s σ H x xs v us Q I rx rxs h
  obtain ⟨p, vs, y, rfl, rfl, hs, f1, f2, q⟩ := h
  cases rx
  obtain ⟨u, rfl, ru⟩ := rxs.one
  obtain ⟨its, rv, ⟨⟨cls, dd, data, sl⟩, ho, hc, n, hd⟩, hlen⟩ := I.tuple hs
  simp only at hc hd
  subst hc hd
  refine call_meets PySem.F.slot_tuple_count ⟨_, ho, rfl⟩ PySem.F.entry_tuple_count (PySem.F.args_tuple_count_2 _ _) (SeqAt.tuple_countAt p its.toArray n dd sl u (eqU y)) ⟨ho, fun z hz => mem_eqAt ru f1 rv f2 z (by simpa using hz), ?_⟩
  refine ⟨.int _, H, I.tok _, ⟨s.toks, ?_⟩, q⟩
  show Value.int ((its.toArray.toList.countP (eqU y) : Nat) : Int) s.toks = _
  rw [show its.toArray.toList = its by simp, count_eqU rv f2]
def tCntT (K : Fg) (to te : TE) : TE := fun σ H Q => to σ H fun x H1 => ∃ a vs, x = .ref a ∧ TpA K H1 a vs ∧ te σ H1 fun y H2 => rCntT K x [y] H2 Q
theorem pe_cntT {to te : TE} (ho : PE X o to) (hE : PE X e te) (hbase : attributeBase o "count" X.env (eval o X.env) = eval o X.env := by rfl)
    (hfew : ((backTo cpos (starEach [e] X.env)).all (fun x => !x.1) && (backToKw cpos (keywordEach [] X.env)).all (fun x => x.1.isSome) && decide ([e].length + ([] : List Keyword).length + (if ([] : List Keyword).isEmpty then 0 else 1) < 30)) = true := by rfl)
    (hline : (apos.endLine == cpos.line) = true := by rfl) (hs : starEach [e] X.env = (false, eval e X.env) :: starEach [] X.env := by rfl) (hplain : (backTo cpos (starEach [] X.env)).any (·.1) = false := by rfl) :
    PE X (.Call (.Attribute o "count" apos) [e] [] cpos) (tCntT X.K to te) := by
  constructor
  intro pins s σ H Q I h
  refine wpAny_Call_method_late hbase hfew hline rfl (thn (ho.run pins s σ H _ I h) ?_)
  rintro v s1 ⟨x, H1, I1, r1, a, vs, ex, ht, q⟩
  subst ex
  cases r1
  obtain ⟨its, rv, pl, hz⟩ := I1.tuple (TpA.seq ht)
  refine ⟨"tuple", "tuple.count", PySem.F.plainAttrs_tuple, PySem.F.slot_tuple_count, PySem.F.type_tuple_count, pl.typeIs, fun b eb => ?_, ?_⟩
  · cases eb
    rcases ht with ⟨ob, h1, h2⟩ | ⟨_, ob, h1, h2⟩
    · obtain ⟨g, _⟩ := I1.hok a _ h1
      exact ⟨ob, g, h2⟩
    · exact ⟨ob, I1.kIn a ob h1, h2⟩
  · have hA := (pa_cons hE pa_nil hs).run cpos pins s1 σ H1 (fun xs H2 => rCntT X.K (.ref a) xs H2 Q) I1 q
    rw [hs] at hA ⊢
    refine Calls.callWith_builtin (by show (false || (backTo cpos (starEach [] X.env)).any (·.1)) = false; rw [hplain] <;> rfl) (Calls.evalArgs_plain (thn hA ?_))
    rintro us s2 ⟨vs, H2, I2, r2, q2⟩
    exact mt_cntT pins s2 σ H2 (.ref a) vs (.ref a) us Q I2 rfl r2 q2
def dCntT (ta tb : DTE) : DTE := fun ds Q => ta ds fun x ds1 => match peek ds1 x with
  | some (.tuple _) => tb ds1 fun y ds2 => match peek ds2 x, peek ds2 y with
    | some (.tuple xs), some d => match scD d && xs.all scD with
      | true => Q (.d (.int (cntD xs d : Nat))) ds2
      | false => False
    | _, _ => False
  | _ => False
theorem de_cntT {ta tb : DTE} (ho : DE X F o ta) (hE : DE X F e tb) (hbase : attributeBase o "count" X.env (eval o X.env) = eval o X.env := by rfl)
    (hfew : ((backTo cpos (starEach [e] X.env)).all (fun x => !x.1) && (backToKw cpos (keywordEach [] X.env)).all (fun x => x.1.isSome) && decide ([e].length + ([] : List Keyword).length + (if ([] : List Keyword).isEmpty then 0 else 1) < 30)) = true := by rfl)
    (hline : (apos.endLine == cpos.line) = true := by rfl) (hs : starEach [e] X.env = (false, eval e X.env) :: starEach [] X.env := by rfl) (hplain : (backTo cpos (starEach [] X.env)).any (·.1) = false := by rfl) :
    DE X F (.Call (.Attribute o "count" apos) [e] [] cpos) (dCntT ta tb) :=
  PE_imp (pe_cntT ho hE hbase hfew hline hs hplain) fun σ H Q ⟨O, ds, Qa, R, ht, hq⟩ => ⟨O, ds, _, R, ht, fun x ds1 v H1 O1 s1 R1 rx hx => by
    split at hx
    · rename_i xs0 e0
      obtain ⟨p, vs0, e1, h1, r1⟩ := (RpV.vw R1 rx e0).tup
      subst e1
      refine ⟨p, vs0, rfl, h1, O1, ds1, _, R1, hx, fun y ds2 w H2 O2 s2 R2 ry hy => ?_⟩
      have rx2 := RpV.step R1 (s1.mutO R) rx s2
      split at hy
      · rename_i xs d ex ey
        cases es : (scD d && xs.all scD) with
        | false => rw [es] at hy; exact hy.elim
        | true =>
          rw [es] at hy
          rw [Bool.and_eq_true] at es
          obtain ⟨q, vs, e2, h2, r2⟩ := (RpV.vw R2 rx2 ex).tup
          cases e2
          have rw' := (RpV.vw R2 ry ey).sc es.1
          have fl := sc_any rw' es.1 r2 es.2
          refine ⟨p, vs, w, rfl, rfl, TpA.seq h2, sc_flat rw' es.1, fl.1, ?_⟩
          rw [cnt_vals rw' es.1 r2 es.2]
          exact (mkCont R (s1.trans s2) R2 hq).d _ _ (.int _) hy
      · exact hy.elim
    · exact hx.elim⟩
end
end SF

/-! SL57: a tuple times 1 or more. -/
namespace SF
open PySem PySem.Spec PyProof.Rows L2
theorem tuple_mul1 (l : Addr) (items : Array Value) (n : Nat) (dd : Option Addr) (sl : Array (Option Value)) (u : Tok) :
    Meets (Builtin.«tuple.__mul__» ⟨[.ref l, .int 1 u], []⟩) (fun _ R s => s.heap.get? l = some { cls := .type "tuple", dict := dd, data := .seq items n, slots := sl } ∧ R (.ok (.ret (Value.ref l))) s) :=
  .of_wp fun prog w A R s h => by
    obtain ⟨hp, g, d, tk, os⟩ := s
    obtain ⟨hl, h⟩ := h
    have f1 := AutoSeq1.idx_int
    have c0 : (decide ((1 : Int) < -(2 ^ 63)) || decide ((1 : Int) ≥ 2 ^ 63)) = false := by decide
    have c1 : (items.isEmpty || (1 : Int) == 1) = true := by simp
    wp_walk using wpAny_loadPart' hl
    repeat (first
      | (refine wpAny_ite_false (decide_eq_false (by rw [c0]; exact Bool.false_ne_true)) ?_; wp_walk using wpAny_loadPart' hl)
      | (refine wpAny_ite_true (decide_eq_true c1) ?_; wp_walk using wpAny_loadPart' hl))
    exact ⟨_, rfl, h⟩
section
variable {X : Cx} {F : Fx} {a b : Expr} {ta tb : DTE} {pos : Pos}
def rMulT1 (K : Fg) : R2 := fun x y H Q => ∃ l xs, x = .ref l ∧ y = .int 1 ∧ SqT K H l xs ∧ Q (.ref l) H
theorem op_mulT1 : OpR X (binaryOp .Mult) (rMulT1 X.K) := by
  intro pins s σ H x y v u Q I rx ry h
  obtain ⟨l, xs, rfl, rfl, sq, go⟩ := h
  cases rx
  obtain ⟨t, rfl⟩ := ry
  obtain ⟨its, r, ⟨⟨cls, dd, data, sl⟩, ho, hc, n, hd⟩, hs⟩ := I.tuple sq
  simp only at hc hd
  subst hc hd
  refine wpAny_binaryOp_repeat_ref (T := "tuple") (U := "int") (by decide) ⟨_, ho, rfl⟩ (fun s' => typeIs_int s' 1 t) noFill_tuple_mul F.fills_int_mul F.slot_int_rmul repeat_tuple F.slot_int_index.lookup (call_meets F.slot_int_rmul (typeIs_int s 1 t) F.entry_int_rmul (F.args_int_rmul_2 _ _) (int_rmul_tuple 1 t l its.toArray n dd sl) ⟨ho, rfl, ⟨_, ho, rfl⟩, call_meets F.slot_tuple_mul ⟨_, ho, rfl⟩ F.entry_tuple_mul (F.args_tuple_mul_2 _ _) (tuple_mul1 l its.toArray n dd sl t) ⟨ho, ?_⟩⟩)
  exact ⟨.ref l, H, I, rfl, go⟩
theorem op_mulTT : OpR X (binaryOp .Mult) (fun x y H Q => rMulT X.K x y H Q ∨ rMulT1 X.K x y H Q) := by
  intro pins s σ H x y v u Q I rx ry h
  rcases h with h | h
  · exact op_mulT pins s σ H x y v u Q I rx ry h
  · exact op_mulT1 pins s σ H x y v u Q I rx ry h
def fMulU : F2 := fun d e Q => match d, e with
  | .tuple xs, .int k => (xs ≠ [] ∧ 1 ≤ k ∧ k ≤ 1000 ∧ xs.length ≤ 1000) ∧ Q (.d (.tuple (List.replicate k.toNat xs).flatten))
  | _, _ => False
theorem de_mulU (ha : DE X F a ta) (hb : DE X F b tb) : DE X F (.BinOp a .Mult b pos) (dOp2 fMulU ta tb) := de_op2 (pe_op op_mulTT ha hb) (by
  intro H O x y d e Qa Q lo wx wy hf k
  unfold fMulU at hf
  split at hf
  · rename_i xs i
    obtain ⟨l, vs, e1, h1, r1⟩ := wx.tuple
    obtain ⟨⟨n1, n2, n3, n4⟩, hf⟩ := hf
    by_cases h2 : 2 ≤ i
    · exact .inl ⟨l, _, vs, e1, wy.int, h1, fun z => n1 (by subst z; cases r1; rfl), h2, n3, by rw [r1.length]; exact n4, fun p o hp ho => k.tup p o _ _ hp ho (r1.rep _) hf⟩
    · have e : i = 1 := by omega
      subst e
      refine .inr ⟨l, vs, e1, wy.int, h1, ?_⟩
      have e2 : (List.replicate (1 : Int).toNat xs).flatten = xs := by
        show (xs ++ []) = xs
        rw [List.append_nil]
      rw [e2] at hf
      rw [← e1]
      exact k.d _ _ wx.rp hf
  · exact hf.elim)
end
end SF

/-! SL58: sorted of lists of ints. -/
namespace SF
open PySem PySem.Spec PyProof.Rows L2
def rwE (p : List Int) : D := .list (p.map .int)
def leR (p q : List Int) : Bool := decide (p ≤ q)
def rSortedRD (K : Fg) : List V → Hp → VK → Prop := fun xs H Q => ∃ (a : Addr) (vs : List V) (ps : List (List Int)), xs = [.ref a] ∧ SqL K H a vs ∧ DpAll K H vs (ps.map rwE) ∧ ps.length ≤ 4000 ∧ ∀ (zs : List (V × List Int)) (p : Addr), zs.Perm (vs.zip ps) → zs.map (·.2) = ps.mergeSort leR → H p = none → Q (.ref p) (upd H p (.lst (zs.map (·.1))))
theorem each_valsR {β : Type} : ∀ {vs : List V} {us : List Value} {ps : List β}, Vals vs us → ps.length = vs.length → PySem.W.EachIs (fun v (b : V × β) => RelV b.1 v) us (vs.zip ps)
  | _, _, [], .nil, _ => .nil
  | _, _, _ :: _, .nil, h => by simp at h
  | _, _, [], .cons _ _, h => by simp at h
  | _, _, p :: ps, .cons r rs, h => .cons r (each_valsR rs (by simpa using h))
theorem each_sndR {β : Type} {R : Value → β → Prop} : ∀ {vs : List V} {us : List Value} {ps : List β}, PySem.W.EachIs R us ps → ps.length = vs.length → PySem.W.EachIs (fun v (b : V × β) => R v b.2) us (vs.zip ps)
  | [], _, _, .nil, _ => .nil
  | _ :: _, _, _, .nil, h => by simp at h
  | [], _, _, .cons _ _, h => by simp at h
  | v :: vs, _, _, .cons r rs, h => .cons r (each_sndR rs (by simpa using h))
theorem vals_eachR {β : Type} : ∀ {zs : List (V × β)} {us : List Value}, PySem.W.EachIs (fun v (b : V × β) => RelV b.1 v) us zs → Vals (zs.map (·.1)) us
  | _, _, .nil => .nil
  | _, _, .cons r rs => .cons r (vals_eachR rs)
section
variable {X : Cx} {F : Fx}
theorem cr_sortedRD (hu : X.A.units + 65 < cLine) : CallR X (.builtin "sorted") (rSortedRD X.K) := by
  intro pins s σ H xs us Q I r h
  obtain ⟨l, vs, ps, rfl, hs, hd, hl4, q⟩ := h
  obtain ⟨its, rv, hl, _⟩ := I.list hs
  rw [Vals.ref1 r]
  have hlen : vs.length = ps.length := by rw [dpAll_len hd, List.length_map]
  obtain ⟨as, hr⟩ := Dp.readsAll I _ _ _ hd rv
  have hsz := sizeLine_eq
  have e := each_valsR (ps := ps) rv hlen.symm
  have er := each_sndR (vs := vs) (PySem.W.readsAll_each rwE hr) hlen.symm
  have hzl : (vs.zip ps).length = ps.length := by rw [List.length_zip]; omega
  refine PySem.W.sorted_data (bs := vs.zip ps) (enc := fun b => rwE b.2) hl.isList e er (PySem.W.AllAlike.of fun b b' => PySem.W.alike_ints _ _) (PySem.W.Sortable.others fun b => ⟨(fun h => by cases h), fun xs h => by cases h⟩) (by rw [hzl]; omega) (fun b _ => ?_) fun out ho hout => ?_
  · show X.A.units + 2 + (PyData.list (b.2.map .int)).depth < cLine
    simp only [PyData.depth, PySem.W.depth_ints]
    omega
  · have ed : PySem.W.dataLe false (fun b : V × List Int => rwE b.2) = fun p q => decide (p.2 ≤ q.2) := PySem.W.dataLe_rows (fun b : V × List Int => b.2)
    rw [ed] at hout
    have pm := List.mergeSort_perm (vs.zip ps) (fun p q : V × List Int => decide (p.2 ≤ q.2))
    obtain ⟨ep, he'⟩ := PyProof.Rows.sortedAll_at s.heap its (List.toArray out)
    have vl := vals_eachR hout
    have hz1 : (((vs.zip ps).mergeSort fun p q : V × List Int => decide (p.2 ≤ q.2)).map (·.1)).length ≤ sizeLine := by
      rw [List.length_map, pm.length_eq, hzl]; omega
    have pw : (((vs.zip ps).mergeSort fun p q : V × List Int => decide (p.2 ≤ q.2)).map (·.2)) = ps.mergeSort leR := by
      have hm := List.map_mergeSort (r := fun p q : V × List Int => decide (p.2 ≤ q.2)) (s := leR) (f := fun x : V × List Int => x.2) (l := vs.zip ps) (fun a _ b _ => rfl)
      rw [List.map_snd_zip (by omega)] at hm
      exact hm
    exact ⟨.ref _, upd H (s.heap.objs.size + 1) (.lst (((vs.zip ps).mergeSort fun p q : V × List Int => decide (p.2 ≤ q.2)).map (·.1))), I.laid (t' := s.toks) (fun _ _ => PyProof.Rows.sortedAll_old) (Nat.le_succ _) ⟨hz1, (List.toArray out).toList, ep, by simpa using vl, he'⟩, rfl, q _ _ pm pw (I.hok.fresh (Nat.le_succ _))⟩
def rwsD : List D → Option (List (List Int))
  | [] => some []
  | .list ys :: xs => match intsD ys with
    | some r => (rwsD xs).map fun q => r :: q
    | none => none
  | _ => none
theorem rwsD_ok : ∀ {xs : List D} {ps : List (List Int)}, rwsD xs = some ps → xs = ps.map rwE
  | [], ps, h => by cases h; rfl
  | x :: xs, ps, h => by
    have key : ∃ ys r, x = .list ys ∧ intsD ys = some r ∧ (rwsD xs).map (fun q => r :: q) = some ps := by
      unfold rwsD at h
      split at h
      · rename_i e; cases e
      · rename_i ys zs e
        cases e
        split at h
        · rename_i r e2
          exact ⟨ys, r, rfl, e2, h⟩
        · cases h
      · cases h
    obtain ⟨ys, r, rfl, h2, h3⟩ := key
    cases e2 : rwsD xs with
    | none => rw [e2] at h3; cases h3
    | some qs =>
      rw [e2] at h3
      cases h3
      rw [rwsD_ok e2, intsD_ok h2]; rfl
theorem rwsD_map : ∀ ps : List (List Int), rwsD (ps.map rwE) = some ps
  | [] => rfl
  | p :: ps => by
    show (match intsD (p.map .int) with | some r => (rwsD (ps.map rwE)).map fun q => r :: q | none => none) = _
    rw [intsD_map, rwsD_map ps]; rfl
@[irreducible] def fSortedR : FN := fun ds Q => match ds with
  | [.list xs] => someD (rwsD xs) fun ps => ps.length ≤ 4000 ∧ Q (.own ((ps.mergeSort leR).map rwE))
  | _ => False
theorem sortedR_i {ps : List (List Int)} {Q : DV → Prop} (h : ps.length ≤ 4000) (q : Q (.own ((ps.mergeSort leR).map rwE))) : fSortedR [.list (ps.map rwE)] Q := by
  unfold fSortedR
  show someD (rwsD (ps.map rwE)) _
  rw [rwsD_map]
  exact ⟨h, q⟩
theorem rpl_ofR {K : Fg} {H : Hp} {O : List Addr} : ∀ {zs : List (V × List Int)}, (∀ z ∈ zs, Rp K H O z.1 (rwE z.2)) → RpL K H O (zs.map (·.1)) ((zs.map (·.2)).map rwE)
  | [], _ => .nil
  | z :: zs, h => .cons (h z (by simp)) (rpl_ofR fun y hy => h y (List.mem_cons_of_mem _ hy))
theorem rpl_zipR {K : Fg} {H : Hp} {O : List Addr} : ∀ {vs : List V} {ps : List (List Int)}, RpL K H O vs (ps.map rwE) → ∀ z ∈ vs.zip ps, Rp K H O z.1 (rwE z.2)
  | [], _, _, z, hz => by simp at hz
  | _ :: _, [], _, z, hz => by simp at hz
  | v :: vs, p :: ps, r, z, hz => by
    cases r with
    | cons r1 r2 =>
      rcases List.mem_cons.mp hz with rfl | hz
      · exact r1
      · exact rpl_zipR r2 z hz
theorem bd_sortedR (hu : X.A.units + 65 < cLine) : BlD X (.builtin "sorted") fSortedR := ⟨_, cr_sortedRD hu, by
  intro H O xs ds Qa Q lo w hf k
  unfold fSortedR at hf
  split at hf
  · rename_i ys
    cases e : rwsD ys with
    | none => rw [e] at hf; exact hf.elim
    | some ps =>
      rw [e] at hf
      obtain ⟨v, ev, w1⟩ := vw1 w
      subst ev
      obtain ⟨p, vs, e1, h1, r1⟩ := w1.list
      subst e1
      rw [rwsD_ok e] at r1
      obtain ⟨h4, q⟩ := hf
      have hlen : vs.length = ps.length := by rw [r1.length, List.length_map]
      refine ⟨p, vs, ps, rfl, .inl (.inl h1), r1.dp, h4, fun zs p' pm so hn => ?_⟩
      have rl := rpl_ofR (zs := zs) fun z hz => rpl_zipR r1 z (pm.mem_iff.mp hz)
      rw [so] at rl
      exact k.lst p' _ _ hn rl q
  · exact hf.elim⟩
end
end SF

/-! SL59: a list that was read as data is one's own again, if nothing else is known that may hold it. -/
namespace SF
open PySem PySem.Spec PyProof.Rows L2
/-- every list of the caller is protected -/
def FzOk (F : Fx) : Prop := ∀ p xs, F.Hin p = some (.lst xs) → p ∈ F.O
section
variable {K : Fg} {F : Fx} {H : Hp} {O O' : List Addr} {σ : St} {ds : DS}
theorem Rep.freshL (R : Rep K F H O σ ds) (z : FzOk F) {p : Addr} {xs : List V} (h : H p = some (.lst xs)) (n : p ∉ O) : F.Hin p = none := by
  cases e : F.Hin p with
  | none => rfl
  | some o =>
    exfalso
    have := R.ext p o e fun hb => n (R.sub p (R.bo p hb))
    rw [h] at this
    cases this
    exact n (R.sub p (z p xs e))
def keepF : Option DV → Option DV
  | some (.d x) => match flat x with
    | true => some (.d x)
    | false => none
  | some (.own xs) => match flatL xs with
    | true => some (.own xs)
    | false => none
  | some .box => some .box
  | _ => none
theorem keepF_of {o : Option DV} {dv : DV} (h : keepF o = some dv) : o = some dv ∧ ((∃ x, dv = .d x ∧ flat x = true) ∨ (∃ xs, dv = .own xs ∧ flatL xs = true) ∨ dv = .box) := by
  cases o with
  | none => cases h
  | some d =>
    cases d with
    | d x =>
      have h : (match flat x with | true => some (DV.d x) | false => none) = some dv := h
      cases e : flat x with
      | true => rw [e] at h; cases h; exact ⟨rfl, .inl ⟨x, rfl, e⟩⟩
      | false => rw [e] at h; cases h
    | own xs =>
      have h : (match flatL xs with | true => some (DV.own xs) | false => none) = some dv := h
      cases e : flatL xs with
      | true => rw [e] at h; cases h; exact ⟨rfl, .inr (.inl ⟨xs, rfl, e⟩)⟩
      | false => rw [e] at h; cases h
    | box => cases h; exact ⟨rfl, .inr (.inr rfl)⟩
    | slot i => cases h
    | exc a b => cases h
def thawS (i : Nat) (ds : DS) (xs : List D) : DS := ⟨(ds.sl.map keepF).set i (some (.own xs)), ds.n⟩
theorem thaw_get {i j : Nat} {xs : List D} {dv : DV} (h : (thawS i ds xs).sl[j]? = some (some dv)) : (j = i ∧ dv = .own xs) ∨ (j ≠ i ∧ ds.sl[j]? = some (some dv) ∧ ((∃ x, dv = .d x ∧ flat x = true) ∨ (∃ xs, dv = .own xs ∧ flatL xs = true) ∨ dv = .box)) := by
  unfold thawS at h
  by_cases e : i = j
  · subst e
    rw [List.getElem?_set] at h
    simp only [if_true] at h
    split at h
    · cases h; exact .inl ⟨rfl, rfl⟩
    · cases h
  · rw [List.getElem?_set_ne e, List.getElem?_map] at h
    cases q : ds.sl[j]? with
    | none => rw [q] at h; cases h
    | some o =>
      rw [q] at h
      have h' : keepF o = some dv := by simpa using h
      obtain ⟨rfl, k⟩ := keepF_of h'
      exact .inr ⟨fun z => e z.symm, rfl, k⟩
theorem Rep.thaw (R : Rep K F H O σ ds) (z : FzOk F) {i : Nat} {xs : List D} (h : ds.sl[i]? = some (some (.d (.list xs)))) (f : flatL xs = true) : ∃ O', Rep K F H O' σ (thawS i ds xs) := by
  obtain ⟨v, ev, r⟩ := R.sl i _ h
  have r' : Rp K H O v (.list xs) := r
  cases r' with
  | @lst p vs _ hA rl =>
    obtain ⟨hp, hn⟩ := hA
    have fr := R.freshL z hp hn
    have mut_of : ∀ j q, MutAt σ (thawS i ds xs) j q → (j = i ∧ q = p) ∨ (j ≠ i ∧ MutAt σ ds j q) := fun j q ⟨a, dv, b, c⟩ => by
      rcases thaw_get b with ⟨e1, e2⟩ | ⟨e1, e2, _⟩
      · subst e1
        rw [ev] at a
        cases a
        exact .inl ⟨rfl, rfl⟩
      · exact .inr ⟨e1, a, dv, e2, c⟩
    have box_of : ∀ j q, BoxS σ (thawS i ds xs) j q → BoxS σ ds j q := fun j q ⟨a, b⟩ => by
      rcases thaw_get b with ⟨e1, e2⟩ | ⟨e1, e2, _⟩
      · cases e2
      · exact ⟨a, e2⟩
    have sub : ∀ q ∈ O, q ∈ p :: O := fun q hq => List.mem_cons_of_mem _ hq
    refine ⟨p :: O, ⟨fun q hq => ?_, fun q hq => sub q (R.sub q hq), R.ext, fun j dv hj => ?_, fun j l q a b => ?_, fun j q a => ?_, fun j q ys a b => ?_, R.bx, fun j q a => R.bu j q (box_of j q a), fun j l q q' a b => R.b1 j l q q' (box_of j q a) (box_of l q' b), R.fo, R.bo, ?_⟩⟩
    · rcases List.mem_cons.mp hq with e | hq
      · rw [e]; exact ⟨_, hp⟩
      · exact R.lo q hq
    · rcases thaw_get hj with ⟨e1, e2⟩ | ⟨e1, e2, k⟩
      · subst e1 e2
        exact ⟨_, ev, p, vs, rfl, List.mem_cons_self, hp, RpL.flat rl f⟩
      · obtain ⟨w, ew, rw_⟩ := R.sl j dv e2
        refine ⟨w, ew, ?_⟩
        rcases k with ⟨x, rfl, fx⟩ | ⟨ys, rfl, fy⟩ | rfl
        · exact Rp.flat rw_ fx
        · obtain ⟨q, ws, e, h1, h2, h3⟩ := rw_
          exact ⟨q, ws, e, sub q h1, h2, RpL.flat h3 fy⟩
        · obtain ⟨q, e, h1, h2⟩ := rw_
          exact ⟨q, e, sub q h1, h2⟩
    · rcases mut_of j q a with ⟨e1, e2⟩ | ⟨e1, m1⟩
      · rcases mut_of l q b with ⟨e3, _⟩ | ⟨e3, m2⟩
        · rw [e1, e3]
        · subst e2; exact absurd (R.mutO m2) hn
      · rcases mut_of l q b with ⟨e3, e4⟩ | ⟨e3, m2⟩
        · subst e4; exact absurd (R.mutO m1) hn
        · exact R.mu j l q m1 m2
    · rcases mut_of j q a with ⟨_, e2⟩ | ⟨_, m1⟩
      · rw [e2]; exact .inl fr
      · exact R.new j q m1
    · rcases thaw_get b with ⟨e1, e2⟩ | ⟨e1, e2, _⟩
      · subst e1
        rw [ev] at a
        cases a
        exact fr
      · exact R.newO j q ys a e2
    · have := R.len
      unfold thawS
      simpa using this
/-- slot i is one's own before the statement -/
def dThaw (i : Nat) (t : DTS) : DTS := fun E ds => match ds.sl[i]? with
  | some (some (.d (.list xs))) => flatL xs = true ∧ t E (thawS i ds xs)
  | _ => False
end
section
variable {X : Cx} {F : Fx} {st : Stmt} {t : DTS}
theorem ds0_thaw {i : Nat} (z : FzOk F) (h : PS X st (liftS0 X.K F t)) : PS X st (liftS0 X.K F (dThaw i t)) := PS_imp h fun D σ H ⟨O, ds, E, R, ht, k⟩ => by
  unfold dThaw at ht
  split at ht
  · rename_i xs e
    obtain ⟨O', R'⟩ := R.thaw z e ht.1
    exact ⟨O', _, E, R', ht.2, k⟩
  · exact ht.elim
end
section
variable {K : Fg} {H : Hp} {O O' : List Addr}
theorem TpA.same {a : Addr} {xs : List V} (h : TpA K H a xs) : TpA K H a xs := h
mutual
theorem Rp.lessF (sub : ∀ p ∈ O, p ∈ O') : ∀ {v : V} {d : D}, Rp K H O' v d → Rp K H O v d
  | _, _, .non => .non
  | _, _, .bl b => .bl b
  | _, _, .int i => .int i
  | _, _, .str x => .str x
  | _, _, .lst h r => .lst ⟨h.1, fun z => h.2 (sub _ z)⟩ (RpL.lessF sub r)
  | _, _, .tup h r => .tup h (RpL.lessF sub r)
theorem RpL.lessF (sub : ∀ p ∈ O, p ∈ O') : ∀ {vs : List V} {ds : List D}, RpL K H O' vs ds → RpL K H O vs ds
  | _, _, .nil => .nil
  | _, _, .cons h r => .cons (Rp.lessF sub h) (RpL.lessF sub r)
end
end
section
variable {P : Program} {w : World} {K : Fg} {mg : Str → Option Value} {base : Heap} {CX : CXT}
/-- a def by its body; beyond the heap's size nothing is known -/
theorem fnG_ofF {x qual : Str} {st : Stmt} {f : Addr} {fd : FuncData} {N ps : List Str} {k : Nat} {sp : Sp} (Fu : Fun K x qual st f fd) (S : FnScope N ps (defScope st)) (len : ∀ vs H Q E, sp vs H Q E → vs.length = ps.length)
    (hbody : ∀ (cdv : Value) (A : Around) (outer : List Env) (s : Shared) (H : Hp) (vs : List V) (Q : VK) (E : XK), (∀ a, s.heap.objs.size ≤ a → H a = none) → RoomG k (A.deeper (envOfC qual (defScope st) s.heap.objs.size f cdv)) → sp vs H Q E →
      ∃ t, PSs (cxOf CX P w K mg base N qual (defScope st) f cdv A outer s H E) (defBody st) t ∧ t { nx := fun _ H' => Q .non H', rt := Q } (start N vs) H) : FnG P w K mg base CX (k + 1) f fd ps sp := by
  obtain ⟨oc, od, kV, doc, pm, an, cdv, ct, osl, efd, lk, hcd⟩ := Fu.ex
  constructor
  · exact len
  intro A outer s H args us vs Q E hr e0 hb r hsp
  subst efd
  have old : ∀ b o, base.get? b = some o → s.heap.get? b = some o := fun b o e => (e0.bs b o e).1
  have KX : K.In s.heap := e0.mod.kin.keeps old
  have lim : s.heap.NoLimit := e0.mod.nolimit.keeps old
  refine codeAny_call_function hr.rm.depth (KX _ _ lk) rfl S.co S.gen rfl (PySem.W.codeRec_of KX hcd) (hb _ _ _ _ ?_)
  refine wpAny_newFunctionEnv_cells S.kind ?_ ?_
  · rintro ⟨n, v⟩ hy
    exact (S.par n (List.of_mem_zip hy).1).elim .inl fun q => .inr ⟨q, PySem.W.cellsFrom_some _ _ _ (.inl q)⟩
  rintro env rfl s1 x1
  obtain ⟨t, ht, hq⟩ := hbody cdv A outer s H vs Q E (fun a ha => e0.hok.fresh ha) ⟨hr.rm.deeper _, hr.gd⟩ hsp
  have I := inv_start (CX := CX) (E := E) S hr.rm.hd e0 (len _ _ _ _ hsp) r x1
  refine ⟨lim.keeps x1.toInCall.keep, codeAny_func (wpAny_mono (ht.run [] s1 _ H _ I hq) ?_ fun e s' z => z)⟩
  intro fl s' hs
  cases fl with
  | ret u => obtain ⟨v, σ', H', J, rv, q⟩ := hs; exact ⟨v, H', J.os, J.bare, J.base, J.hok, rv, q⟩
  | next => obtain ⟨σ', H', J, q⟩ := hs; exact ⟨.non, H', J.os, J.bare, J.base, J.hok, rfl, q⟩
  | brk => obtain ⟨_, _, _, q⟩ := hs; exact q.elim
  | cont => obtain ⟨_, _, _, q⟩ := hs; exact q.elim
end
open Classical in
/-- a def that is handed the box alone: all lists of the caller are protected -/
theorem Df.prF {P : Program} {w : World} {K : Fg} {mg : Str → Option Value} {base : Heap} {k : Nat} {x : Str} {st : Stmt} {N ps : List Str} {dsp : DSp} {t : DTS} (D : Df K mg x st ps) (S : FnScope N ps (defScope st)) (len : ∀ args n Q E, dsp args n Q E → args.length = ps.length)
    (box : ∀ args n Q E, dsp args n Q E → args = [.box])
    (der : ∀ (f : Addr) (cdv : Value) (A : Around) (outer : List Env) (s : Shared) (H : Hp) (E : XK) (F : Fx), FzOk F → RoomG k (A.deeper (envOfC x (defScope st) s.heap.objs.size f cdv)) →
      PSs (cxOf (L2.CX P w) P w K mg base N x (defScope st) f cdv A outer s H E).nox (defBody st) (liftS0 K F t))
    (rd : ∀ args n Qa Ea, dsp args n Qa Ea → t ⟨fun ds => Qa (.d .none) ds.n, fun r ds => Qa r ds.n, fun _ => False, fun _ => False⟩ (startD N.length args n)) : Pr P w K mg base (k + 1) x st ps dsp := by
  obtain ⟨f, fd, Fu, g, b⟩ := D.ex
  have hlen : ∀ vs H Q E, spD K mg dsp vs H Q E → vs.length = ps.length := fun vs H Q E ⟨B, O, args, n, Qa, Ea, _, _, ha, _, hd, _⟩ => by rw [paired_len ha]; exact len _ _ _ _ hd
  refine ⟨f, fd, fnG_ofF Fu S hlen fun cdv A outer s H vs Q E hfin hr hsp => ?_, Fu, g, b⟩
  have hl := hlen vs H Q E hsp
  obtain ⟨B, O, args, n, Qa, Ea, lo, hb, ha, h1, hd, hq, _⟩ := hsp
  have hpl : ps.length ≤ N.length := by have := congrArg List.length S.pre; rw [List.length_take] at this; omega
  let O2 : List Addr := O ++ (List.range s.heap.objs.size).filter fun p => decide (∃ xs, H p = some (.lst xs))
  have sub : ∀ p ∈ O, p ∈ O2 := fun p hp => List.mem_append.mpr (.inl hp)
  have lo2 : LO O2 H := fun p hp => by
    rcases List.mem_append.mp hp with h | h
    · exact lo p h
    · exact of_decide_eq_true (List.mem_filter.mp h).2
  have fz : FzOk ⟨H, B, O2⟩ := fun p xs h => by
    refine List.mem_append.mpr (.inr (List.mem_filter.mpr ⟨List.mem_range.mpr ?_, decide_eq_true ⟨xs, h⟩⟩))
    by_cases z : p < s.heap.objs.size
    · exact z
    · have := hfin p (Nat.le_of_not_lt z)
      have h' : H p = some (.lst xs) := h
      rw [this] at h'
      cases h'
  have eb := box _ _ _ _ hd
  subst eb
  have ha2 : Paired (ArgD K H B O2) vs [.box] := by
    cases ha with
    | cons r rr => cases rr with | nil => exact .cons r .nil
  refine ⟨_, (der f cdv A outer s H E ⟨H, B, O2⟩ fz hr).nox, O2, _, _, rep_start lo2 (fun b hb' => ⟨sub b (hb b hb').1, (hb b hb').2⟩) ha2 h1 (by omega), rd [.box] n Qa Ea hd, ?_⟩
  refine ⟨fun O' ds' σ' H' R' q => ?_, fun O' ds' σ' H' v dv R' r q => ?_, fun _ _ _ _ _ q => q, fun _ _ _ _ _ q => q⟩
  · exact hq (.d .none) ds'.n .non H' R'.ext (fun b hb => R'.bx b hb) .non q
  · refine hq dv ds'.n v H' R'.ext (fun b hb => R'.bx b hb) ?_ q
    cases dv with
    | d x => exact Rp.lessF sub r
    | own xs =>
      obtain ⟨p, vs', e, h2, h3, h4⟩ := r
      exact ⟨p, vs', e, h2, h3, RpL.lessF (fun a ha => by
        rcases List.mem_cons.mp ha with z | z
        · rw [z]; exact List.mem_cons_self
        · exact List.mem_cons_of_mem _ (sub a z)) h4⟩
    | box => exact r
    | slot j => exact r
    | exc a b => exact r
end SF

/-! SL60: defs with one default that are called where errors are caught, by position or by names. -/
namespace SF
open PySem PySem.Spec PyProof.Rows L2
structure PrK (P : Program) (w : World) (K : Fg) (mg : Str → Option Value) (base : Heap) (k : Nat) (x : Str) (st : Stmt) (ps : List Str) (dsp : DSp) : Prop where
  ex : ∃ f fd z dd, FnG P w K mg base (L2.CX P w) k f fd ps (spD K mg dsp) ∧ PySem.W.keepIn K (.ref f) = true ∧ mg x = some (.ref f) ∧ Binds K fd ps [] ∧ Vals [z] dd ∧ Binds K fd ps dd ∧ Ety K z ∧ FunD K x x (defArgs st) (defBody st) (defScope st) [z] [] f fd
section
variable {P : Program} {w : World} {K : Fg} {mg : Str → Option Value} {base : Heap} {k : Nat} {x : Str} {st : Stmt} {N ps : List Str} {dsp : DSp}
theorem PrK.mono {j : Nat} (h : PrK P w K mg base k x st ps dsp) (hj : k ≤ j) : PrK P w K mg base j x st ps dsp := by
  obtain ⟨f, fd, z, dd, G, r⟩ := h.ex
  exact ⟨f, fd, z, dd, G.mono hj, r⟩
theorem PrK.e (h : PrK P w K mg base k x st ps dsp) : PrE P w K mg base k x st ps dsp := by
  obtain ⟨f, fd, z, dd, G, h1, h2, h3, h4, h5, h6, _⟩ := h.ex
  exact ⟨f, fd, z, dd, G, h1, h2, h3, h4, h5, h6⟩
theorem DfE.prXK {t : EA → DTS} (D : DfE K mg x st ps) (S : FnScope N ps (defScope st)) (len : ∀ args n Q E, dsp args n Q E → args.length = ps.length)
    (der : ∀ (f : Addr) (cdv : Value) (A : Around) (outer : List Env) (s : Shared) (H : Hp) (E : XK) (F : Fx) (Ea : EA), RoomG k (A.deeper (envOfC x (defScope st) s.heap.objs.size f cdv)) → TakesD (cxOf (L2.CX P w) P w K mg base N x (defScope st) f cdv A outer s H E) F Ea →
      DSs (cxOf (L2.CX P w) P w K mg base N x (defScope st) f cdv A outer s H E) F (defBody st) (t Ea))
    (rd : ∀ args n Qa Ea, dsp args n Qa Ea → t (fun nm fo ds => Ea nm fo ds.n) ⟨fun ds => Qa (.d .none) ds.n, fun r ds => Qa r ds.n, fun _ => False, fun _ => False⟩ (startD N.length args n)) : PrK P w K mg base (k + 1) x st ps dsp := by
  obtain ⟨f, fd, z, dd, Fu, g, b, r, b2, et⟩ := D.ex
  have hlen : ∀ vs H Q E, spD K mg dsp vs H Q E → vs.length = ps.length := fun vs H Q E ⟨B, O, args, n, Qa, Ea, _, _, ha, _, hd, _⟩ => by rw [paired_len ha]; exact len _ _ _ _ hd
  refine ⟨f, fd, z, dd, fnG_ofD Fu S hlen fun cdv A outer s H vs Q E hr hsp => ?_, Fu.kp, g, b, r, b2, et, Fu⟩
  have hl := hlen vs H Q E hsp
  obtain ⟨B, O, args, n, Qa, Ea, lo, hb, ha, h1, hd, hq, hx⟩ := hsp
  have hpl : ps.length ≤ N.length := by have := congrArg List.length S.pre; rw [List.length_take] at this; omega
  have tk : TakesD (cxOf (L2.CX P w) P w K mg base N x (defScope st) f cdv A outer s H E) ⟨H, B, O⟩ (fun nm fo ds => Ea nm fo ds.n) := by
    refine Takes.imp (takes_of (E := E) rfl rfl rfl rfl) fun cv od σ' H' ⟨nm, fo, O', ds', R', ⟨c, x1, x2, x3⟩, he⟩ => ?_
    exact hx nm fo ds'.n cv od H' R'.ext (fun b hb => R'.bx b hb) ⟨c, x1, x2, Fld.mv R'.lo keep_refl (less_grow R'.sub) x3⟩ he
  refine ⟨_, der f cdv A outer s H E ⟨H, B, O⟩ _ hr tk, O, _, _, rep_start lo hb ha h1 (by omega), rd args n Qa Ea hd, ?_⟩
  refine ⟨fun O' ds' σ' H' a R' q => ?_, fun O' ds' σ' H' v dv a R' r q => ?_, fun _ _ _ _ _ _ q => q, fun _ _ _ _ _ _ q => q⟩
  · exact hq (.d .none) ds'.n .non H' R'.ext (fun b hb => R'.bx b hb) .non q
  · exact hq dv ds'.n v H' R'.ext (fun b hb => R'.bx b hb) r q
end
section
variable {X : Cx} {F : Fx} {Ea : EA} {k : Nat} {x : Str} {st : Stmt} {ps ks : List Str} {dsp : DSp} {p pos : Pos} {e : Expr} {es : List Expr} {kws : List Keyword} {tA : DTA}
/-- all given by position -/
theorem de_callEX0 (tk : TakesD X F Ea) (I : PrE X.prog X.w X.K X.mg X.base k x st ps dsp) (hr : RoomG k X.A) (hg : Gl X x) (ha : DA X F (e :: es) tA) (hdb : (x == ("__debug__" : Str)) = false := by decide) (he : starEach (e :: es) X.env = (false, eval e X.env) :: starEach es X.env := by rfl) (hpl : (backTo pos (starEach es X.env)).any (·.1) = false := by rfl) :
    DE X F (.Call (.Name x p) (e :: es) [] pos) (dCallX Ea dsp (fun as => as) tA) := by
  obtain ⟨f, fd, z, dd, G, kp, g, b, _⟩ := I.ex
  refine PE_imp (pe_callGS G hr hg g kp b (passAt tk) ha hdb he hpl) fun σ H Q ⟨O, ds, Qa, R, ht, hq⟩ => ⟨O, ds, _, R, ht, fun xs ds1 vs H1 O1 s1 R1 rx hx => ?_⟩
  cases ea : argsOf ds1 xs with
  | none => rw [ea] at hx; exact hx.elim
  | some args =>
    rw [ea] at hx
    exact call_coreX (gV := fun vs => vs) perm_id R s1 R1 rx ea hx hq fun nm fo ds' cv od H' O' _ R' xc he => ⟨nm, fo, O', ds', R', xc, he⟩
/-- all given by names -/
theorem de_callEKX {n : Nat} {ix : List Nat} (tk : TakesD X F Ea) (I : PrK X.prog X.w X.K X.mg X.base k x st ps dsp) (hr : RoomG k X.A) (hg : Gl X x) (hkw : DK X F kws tA)
    (hb : ∀ (T : Addr) (kV doc pm : Value) (an : Option Addr) (cdv ct : Value) (ws its : List Value), its.length = 1 → (pick n ix ws).length = ps.length → ∃ k, bindArgs (PySem.W.fnOf x x (defArgs st) (defBody st) (defScope st) (.ref T) kV doc pm an cdv ct) ⟨[], ks.zip ws⟩ = seqItems? (.ref T) >>= k ∧ k (some its.toArray) = pure (ps.zip (pick n ix ws)))
    (hall : (backToKw pos (keywordEach kws X.env)).all (·.1.isSome) = true := by rfl) (hks : (backToKw pos (keywordEach kws X.env)).filterMap (·.1) = ks := by rfl)
    (hdb : (x == ("__debug__" : Str)) = false := by decide) (hpl : (backToKw pos (keywordEach kws X.env)).any (·.1.isNone) = false := by rfl) :
    DE X F (.Call (.Name x p) [] kws pos) (dCallX Ea dsp (pick n ix) tA) := by
  obtain ⟨f, fd, z, dd, G, kp, g, b, r, b2, et, Fu⟩ := I.ex
  have hto : ∀ (s : Shared) (ws : List Value), X.K.In s.heap → (pick n ix ws).length = ps.length → BindsTo s fd ⟨[], ks.zip ws⟩ (ps.zip (pick n ix ws)) := by
    obtain ⟨oc, od, dV, kV, doc, pm, an, cdv, ct, osl, efd, lk, hcd, hd, _⟩ := Fu.ex
    subst efd
    rcases hd with ⟨h0, _⟩ | ⟨_, T, o, its, nT, rfl, lT, oT, vl⟩
    · cases h0
    · have hi : its.length = 1 := by
        cases vl with
        | cons _ q => cases q; rfl
      intro s ws XI hl
      obtain ⟨k', e1, e2⟩ := hb T kV doc pm an cdv ct ws its hi hl
      refine BindsTo.of_looks fun M => ?_
      rw [e1]
      exact looks_items XI lT oT (.of_pure e2)
  refine PE_imp (pe_callGKS (g := pick n ix) (gV := pick n ix) G hr hg g kp hto (fun h => pick_paired h) (passAt tk) hkw hall hks hdb hpl) fun σ H Q ⟨O, ds, Qa, R, ht, hq⟩ => ⟨O, ds, _, R, ht, fun xs ds1 vs H1 O1 s1 R1 rx hx => ?_⟩
  cases ea : argsOf ds1 xs with
  | none => rw [ea] at hx; exact hx.elim
  | some args =>
    rw [ea] at hx
    exact call_coreX (gV := pick n ix) ⟨fun h => pick_paired h⟩ R s1 R1 rx ea hx hq fun nm fo ds' cv od H' O' _ R' xc he => ⟨nm, fo, O', ds', R', xc, he⟩
end
end SF

/-! SL61: an except clause that names one class. -/
namespace SF
open PySem PySem.Spec PyProof.Rows L2
variable {X : Cx}
theorem test1 {n1 : Str} {c1 : Value} {p1 : Pos} (g1 : Gl X n1) (m1 : X.mg n1 = some c1)
    (d1 : (n1 == ("__debug__" : Str)) = false := by decide) : TestOk X (.Name n1 p1) [c1] := by
  intro a pn pins σ H s cls Q E I LT hm q
  refine ld_glob (X := X.suite a pn) I g1 m1 ?_ d1
  refine q _ _ (fun _ _ h => h) (W.exm_one I.kIn LT ?_)
  unfold W.exmAny at hm
  cases e : W.exmOne X.K cls c1 with
  | none => rw [e] at hm; cases hm
  | some b =>
    rw [e] at hm
    cases b with
    | true => rfl
    | false => simp [W.exmAny] at hm
end SF

/-! SL62: zip of two, one name as target: the tuple that was given out may be there still. -/
namespace SF
section
open PySem
open PySem.Sem (wp)
/-- a zip with its marks -/
abbrev IsZF (h : Heap) (z TI TO : Addr) (f0 : Value) (f1 : Bool) : Prop := h.get? z = some { cls := .type "zip", dict := none, data := .fields #[f0, .bool f1, .bool false, .ref TI, .ref TO], slots := #[] }
variable {prog : Program} {w : World} {A : Around} {E : Value → Shared → Prop} {s : Shared}
variable {t u : Bool} {z TI TO i1 i2 l1 l2 : Addr} {k1 k2 : Nat} {xs ys : Array Value} {a b : Value}
theorem zipF_item {x y : Value} {Q : Value → Shared → Prop} (D : ZipApart z TI TO i1 i2 l1 l2) {f0 : Value} {f1 : Bool} (hz : IsZF s.heap z TI TO f0 f1) (hfr : ∀ R : Bool → Shared → Prop, R true s → wpAny (model prog w) A (Builtin.SmallTypes.ownedTupleIsFree (.ref z)) R E s) (hTI : IsPair s.heap TI (.ref i1) (.ref i2)) (hTO : IsPair s.heap TO a b)
    (h1 : ItK t s.heap i1 l1 k1) (h2 : ItK u s.heap i2 l2 k2) (hl1 : SqK t s.heap l1 xs) (hl2 : SqK u s.heap l2 ys) (hx : xs[k1]? = some x) (hy : ys[k2]? = some y)
    (hQ : ∀ h', IsZF h' z TI TO (rawInt s.heap.objs.size) false → IsPair h' TO x y → ItK t h' i1 l1 (k1 + 1) → ItK u h' i2 l2 (k2 + 1) → IsPair h' s.heap.objs.size x y → h'.objs.size = s.heap.objs.size + 1 → (∀ c o, c ≠ z → c ≠ TO → c ≠ i1 → c ≠ i2 → s.heap.get? c = some o → h'.get? c = some o) → Q (.ref s.heap.objs.size) { s with heap := h' }) :
    wpAny (model prog w) A (Builtin.«zip.__next__» ⟨[.ref z], []⟩) (fun fin s' => ∃ v, fin = .done (.ret v) ∧ Q v s') E s := by
  show wpAny _ _ (field (.ref z) 2 >>= _) _ _ _
  refine wpAny_bind (wpAny_field hz rfl (x := .bool false) rfl ?_); show wpAny _ _ (field (.ref z) 3 >>= _) _ _ _
  refine wpAny_bind (wpAny_field hz rfl (x := .ref TI) rfl (wpAny_bind (wpAny_seqItems hTI rfl ?_)))
  show wpAny _ _ (Builtin.SmallTypes.ownedTupleIsFree (.ref z) >>= _) _ _ _
  refine wpAny_bind (hfr _ ?_); simp only [if_true]
  refine wpAny_bind (wpAny_rule (wpAny_bind (wpAny_field hz rfl (x := .ref TO) rfl (wpAny_bind (wpAny_setField_rec hz (by simp) fun g1 hz1 hs1 => ?_)))))
  have hz1 : IsZF g1 z TI TO .ellipsis f1 := hz1
  refine wpAny_bind ?_; simp only [List.zipIdx_cons, List.zipIdx_nil, List.forIn_cons, List.forIn_nil]
  refine wpAny_bind (wpAny_bind (wpAny_onRaise ?_)); show wpAny _ _ (Builtin.SmallTypes.nextOf (.ref i1) >>= _) _ _ _
  refine wpAny_bind (nextK_item (h1.ext hs1.extBut D.i1z) (hl1.ext hs1.extBut D.l1z) hx fun g2 h12 hs2 => wpAny_pure ?_)
  have hTO2 : IsPair g2 TO a b := hs2.extBut _ _ D.TOi1 (hs1.extBut _ _ D.TOz hTO)
  refine wpAny_bind (wpAny_seqItems hTO2 rfl (wpAny_bind (wpAny_updateSeq_pair hTO2 fun g3 hTO3 hs3 => ?_)))
  have hTO3 : IsPair g3 TO x b := hTO3
  refine wpAny_bind (wpAny_letGo (wpAny_pure (wpAny_bind (wpAny_bind (wpAny_onRaise ?_))))); show wpAny _ _ (Builtin.SmallTypes.nextOf (.ref i2) >>= _) _ _ _
  refine wpAny_bind (nextK_item (((h2.ext hs1.extBut D.i2z).ext hs2.extBut D.i12.symm).ext hs3.extBut D.TOi2.symm) (((hl2.ext hs1.extBut D.l2z).ext hs2.extBut D.l2i1).ext hs3.extBut D.l2TO) hy fun g4 h24 hs4 => wpAny_pure ?_)
  have hTO4 : IsPair g4 TO x b := hs4.extBut _ _ D.TOi2 hTO3
  refine wpAny_bind (wpAny_seqItems hTO4 rfl (wpAny_bind (wpAny_updateSeq_pair hTO4 fun g5 hTO5 hs5 => ?_)))
  have hTO5 : IsPair g5 TO x y := hTO5
  refine wpAny_bind (wpAny_letGo (wpAny_pure (wpAny_pure (wpAny_bind (wpAny_seqItems hTO5 rfl (wpAny_bind (wpAny_newTuple ?_)))))))
  have sz : g5.objs.size = s.heap.objs.size := by rw [hs5.1, hs4.1, hs3.1, hs2.1, hs1.1]
  have hz5 : IsZF g5 z TI TO .ellipsis f1 := hs5.extBut _ _ D.TOz.symm (hs4.extBut _ _ D.i2z.symm (hs3.extBut _ _ D.TOz.symm (hs2.extBut _ _ D.i1z.symm hz1)))
  have kp : ∀ c o, c ≠ z → c ≠ TO → c ≠ i1 → c ≠ i2 → s.heap.get? c = some o → g5.get? c = some o := fun c o c1 c2 c3 c4 e => hs5.extBut _ _ c2 (hs4.extBut _ _ c4 (hs3.extBut _ _ c2 (hs2.extBut _ _ c3 (hs1.extBut _ _ c1 e))))
  have h15 : ItK t g5 i1 l1 (k1 + 1) := ((h12.ext hs3.extBut D.TOi1.symm).ext hs4.extBut D.i12).ext hs5.extBut D.TOi1.symm
  have h25 : ItK u g5 i2 l2 (k2 + 1) := h24.ext hs5.extBut D.TOi2.symm
  have zl : z < g5.objs.size := Heap.lt_size hz5
  show wpAny _ _ (Builtin.SmallTypes.ownedTupleHandOut (.ref z) (.ref g5.objs.size) >>= _) _ _ _; refine wpAny_bind ?_
  unfold Builtin.SmallTypes.ownedTupleHandOut
  have hz6 : IsZF (g5.push { cls := .type "tuple", data := .seq #[x, y] }) z TI TO .ellipsis f1 := Heap.get?_push_of_some _ hz5
  refine wpAny_bind (wpAny_setField_rec hz6 (by simp) fun g7 hz7 hs7 => ?_)
  have hz7 : IsZF g7 z TI TO (rawInt g5.objs.size) f1 := hz7
  refine wpAny_setField_rec hz7 (by simp) fun g8 hz8 hs8 => ?_
  have hz8 : IsZF g8 z TI TO (rawInt g5.objs.size) false := hz8
  have up : ∀ c o, c ≠ z → g5.get? c = some o → g8.get? c = some o := fun c o c1 e => hs8.extBut _ _ c1 (hs7.extBut _ _ c1 (Heap.get?_push_of_some _ e))
  have hT8 : IsPair g8 g5.objs.size x y := hs8.extBut _ _ (Nat.ne_of_gt zl) (hs7.extBut _ _ (Nat.ne_of_gt zl) (Heap.get?_push_size _ rfl))
  have s8 : g8.objs.size = g5.objs.size + 1 := by rw [hs8.1, hs7.1, Heap.size_push]
  rw [sz] at hz8 hT8 s8
  refine wpAny_pure ⟨_, rfl, ?_⟩
  show Q (.ref g5.objs.size) _
  rw [sz]
  exact hQ g8 hz8 (up _ _ D.TOz hTO5) (h15.mv fun o e => up _ o D.i1z e) (h25.mv fun o e => up _ o D.i2z e) hT8 s8 fun c o c1 c2 c3 c4 e => up c o c1 (kp c o c1 c2 c3 c4 e)
theorem zipF_end {Q : Fin → Shared → Prop} (hh : A.handled = none) (D : ZipApart z TI TO i1 i2 l1 l2) {f0 : Value} {f1 : Bool} (hz : IsZF s.heap z TI TO f0 f1) (hfr : ∀ R : Bool → Shared → Prop, R true s → wpAny (model prog w) A (Builtin.SmallTypes.ownedTupleIsFree (.ref z)) R E s) (hTI : IsPair s.heap TI (.ref i1) (.ref i2)) (hTO : IsPair s.heap TO a b)
    (h1 : ItK t s.heap i1 l1 k1) (h2 : ItK u s.heap i2 l2 k2) (hl1 : SqK t s.heap l1 xs) (hl2 : SqK u s.heap l2 ys) (hend : xs[k1]? = none ∨ ys[k2]? = none)
    (hE : ∀ h' e, (∀ c o, c ≠ z → c ≠ TO → c ≠ i1 → c ≠ i2 → s.heap.get? c = some o → h'.get? c = some o) → (∃ o, h'.get? e = some o ∧ o.cls = .type "StopIteration") → E (.ref e) { s with heap := h' }) : wpAny (model prog w) A (Builtin.«zip.__next__» ⟨[.ref z], []⟩) Q E s := by
  show wpAny _ _ (field (.ref z) 2 >>= _) _ _ _
  refine wpAny_bind (wpAny_field hz rfl (x := .bool false) rfl ?_); show wpAny _ _ (field (.ref z) 3 >>= _) _ _ _
  refine wpAny_bind (wpAny_field hz rfl (x := .ref TI) rfl (wpAny_bind (wpAny_seqItems hTI rfl ?_)))
  show wpAny _ _ (Builtin.SmallTypes.ownedTupleIsFree (.ref z) >>= _) _ _ _
  refine wpAny_bind (hfr _ ?_); simp only [if_true]
  refine wpAny_bind (wpAny_rule (wpAny_bind (wpAny_field hz rfl (x := .ref TO) rfl (wpAny_bind (wpAny_setField_rec hz (by simp) fun g1 hz1 hs1 => ?_)))))
  have hz1 : IsZF g1 z TI TO .ellipsis f1 := hz1
  refine wpAny_bind ?_; simp only [List.zipIdx_cons, List.zipIdx_nil, List.forIn_cons, List.forIn_nil]
  refine wpAny_bind (wpAny_bind (wpAny_onRaise ?_)); show wpAny _ _ (Builtin.SmallTypes.nextOf (.ref i1) >>= _) _ _ _
  cases hx : xs[k1]? with
  | none =>
    refine wpAny_bind (nextK_end hh (h1.ext hs1.extBut D.i1z) (hl1.ext hs1.extBut D.l1z) hx fun g2 e hs2 he => ?_)
    obtain ⟨oe, hoe, hce⟩ := he
    have hz2 : IsZF g2 z TI TO .ellipsis f1 := hs2 _ _ D.i1z.symm hz1
    have ez : e ≠ z := fun q => by subst q; rw [hz2] at hoe; cases hoe; simp at hce
    exact wpAny_setField_rec hz2 (by simp) fun g3 _ hs3 => hE g3 e (fun c o c1 _ c3 _ q => hs3.extBut _ _ c1 (hs2 _ _ c3 (hs1.extBut _ _ c1 q))) ⟨oe, hs3.extBut _ _ ez hoe, hce⟩
  | some x =>
    have hy : ys[k2]? = none := by
      rcases hend with q | q
      · rw [hx] at q; cases q
      · exact q
    refine wpAny_bind (nextK_item (h1.ext hs1.extBut D.i1z) (hl1.ext hs1.extBut D.l1z) hx fun g2 h12 hs2 => wpAny_pure ?_)
    have hTO2 : IsPair g2 TO a b := hs2.extBut _ _ D.TOi1 (hs1.extBut _ _ D.TOz hTO)
    refine wpAny_bind (wpAny_seqItems hTO2 rfl (wpAny_bind (wpAny_updateSeq_pair hTO2 fun g3 hTO3 hs3 => ?_)))
    refine wpAny_bind (wpAny_letGo (wpAny_pure (wpAny_bind (wpAny_bind (wpAny_onRaise ?_))))); show wpAny _ _ (Builtin.SmallTypes.nextOf (.ref i2) >>= _) _ _ _
    refine wpAny_bind (nextK_end hh (((h2.ext hs1.extBut D.i2z).ext hs2.extBut D.i12.symm).ext hs3.extBut D.TOi2.symm) (((hl2.ext hs1.extBut D.l2z).ext hs2.extBut D.l2i1).ext hs3.extBut D.l2TO) hy fun g4 e hs4 he => ?_)
    obtain ⟨oe, hoe, hce⟩ := he
    have hz4 : IsZF g4 z TI TO .ellipsis f1 := hs4 _ _ D.i2z.symm (hs3.extBut _ _ D.TOz.symm (hs2.extBut _ _ D.i1z.symm hz1))
    have ez : e ≠ z := fun q => by subst q; rw [hz4] at hoe; cases hoe; simp at hce
    exact wpAny_setField_rec hz4 (by simp) fun g5 _ hs5 => hE g5 e (fun c o c1 c2 c3 c4 q => hs5.extBut _ _ c1 (hs4 _ _ c4 (hs3.extBut _ _ c2 (hs2.extBut _ _ c3 (hs1.extBut _ _ c1 q))))) ⟨oe, hs5.extBut _ _ ez hoe, hce⟩
/-- the tuple is there still: another one is made -/
theorem zipH_item {x y : Value} {Q : Value → Shared → Prop} (D : ZipApart z TI TO i1 i2 l1 l2) {T : Addr} {f1 : Bool} {oT : Obj} (hz : IsZF s.heap z TI TO (rawInt T) f1) (hT : s.heap.get? T = some oT) (hTI : IsPair s.heap TI (.ref i1) (.ref i2))
    (h1 : ItK t s.heap i1 l1 k1) (h2 : ItK u s.heap i2 l2 k2) (hl1 : SqK t s.heap l1 xs) (hl2 : SqK u s.heap l2 ys) (hx : xs[k1]? = some x) (hy : ys[k2]? = some y)
    (hQ : ∀ h', IsZF h' z TI TO (rawInt T) true → ItK t h' i1 l1 (k1 + 1) → ItK u h' i2 l2 (k2 + 1) → IsPair h' s.heap.objs.size x y → h'.objs.size = s.heap.objs.size + 1 → (∀ c o, c ≠ z → c ≠ i1 → c ≠ i2 → s.heap.get? c = some o → h'.get? c = some o) → Q (.ref s.heap.objs.size) { s with heap := h' }) :
    wpAny (model prog w) A (Builtin.«zip.__next__» ⟨[.ref z], []⟩) (fun fin s' => ∃ v, fin = .done (.ret v) ∧ Q v s') E s := by
  show wpAny _ _ (field (.ref z) 2 >>= _) _ _ _
  refine wpAny_bind (wpAny_field hz rfl (x := .bool false) rfl ?_); show wpAny _ _ (field (.ref z) 3 >>= _) _ _ _
  refine wpAny_bind (wpAny_field hz rfl (x := .ref TI) rfl (wpAny_bind (wpAny_seqItems hTI rfl ?_)))
  show wpAny _ _ (Builtin.SmallTypes.ownedTupleIsFree (.ref z) >>= _) _ _ _
  refine wpAny_bind (wpAny_tupleHeld_zip hz hT fun g1 hz1 hs1 => ?_); simp only [Bool.false_eq_true, if_false]
  refine wpAny_bind ?_; rw [← Array.forIn_toList]; simp only [List.forIn_cons, List.forIn_nil]
  refine wpAny_bind (wpAny_bind (wpAny_holding ?_)); show wpAny _ _ (Builtin.SmallTypes.nextOf (.ref i1) >>= _) _ _ _
  refine wpAny_bind (nextK_item (s := { s with heap := g1 }) (h1.ext hs1.extBut D.i1z) (hl1.ext hs1.extBut D.l1z) hx fun g2 h12 hs2 => wpAny_pure (wpAny_pure ?_))
  refine wpAny_bind (wpAny_bind (wpAny_holding ?_)); show wpAny _ _ (Builtin.SmallTypes.nextOf (.ref i2) >>= _) _ _ _
  refine wpAny_bind (nextK_item (s := { s with heap := g2 }) ((h2.ext hs1.extBut D.i2z).ext hs2.extBut D.i12.symm) ((hl2.ext hs1.extBut D.l2z).ext hs2.extBut D.l2i1) hy fun g3 h23 hs3 => wpAny_pure (wpAny_pure (wpAny_pure ?_)))
  show wpAny _ _ (newTuple [x, y] >>= _) _ _ _; refine wpAny_bind (wpAny_newTuple ?_)
  have sz : g3.objs.size = s.heap.objs.size := by rw [hs3.1, hs2.1, hs1.1]
  have hz3 : IsZF g3 z TI TO (rawInt T) true := hs3.extBut _ _ D.i2z.symm (hs2.extBut _ _ D.i1z.symm hz1)
  have kp : ∀ c o, c ≠ z → c ≠ i1 → c ≠ i2 → s.heap.get? c = some o → g3.get? c = some o := fun c o c1 c2 c3 e => hs3.extBut _ _ c3 (hs2.extBut _ _ c2 (hs1.extBut _ _ c1 e))
  have h13 : ItK t g3 i1 l1 (k1 + 1) := h12.ext hs3.extBut D.i12
  refine wpAny_pure ⟨_, rfl, ?_⟩
  show Q (.ref g3.objs.size) _
  have hp : IsPair (g3.push { cls := .type "tuple", data := .seq #[x, y] }) g3.objs.size x y := Heap.get?_push_size _ rfl
  have s4 : (g3.push { cls := .type "tuple", data := .seq #[x, y] }).objs.size = g3.objs.size + 1 := Heap.size_push ..
  rw [sz] at hp s4 ⊢
  exact hQ _ (Heap.get?_push_of_some _ hz3) (h13.mv fun o e => Heap.get?_push_of_some _ e) (h23.mv fun o e => Heap.get?_push_of_some _ e) hp s4 fun c o c1 c2 c3 e => Heap.get?_push_of_some _ (kp c o c1 c2 c3 e)
theorem zipH_end {Q : Fin → Shared → Prop} (hh : A.handled = none) (D : ZipApart z TI TO i1 i2 l1 l2) {T : Addr} {f1 : Bool} {oT : Obj} (hz : IsZF s.heap z TI TO (rawInt T) f1) (hT : s.heap.get? T = some oT) (hTI : IsPair s.heap TI (.ref i1) (.ref i2))
    (h1 : ItK t s.heap i1 l1 k1) (h2 : ItK u s.heap i2 l2 k2) (hl1 : SqK t s.heap l1 xs) (hl2 : SqK u s.heap l2 ys) (hend : xs[k1]? = none ∨ ys[k2]? = none)
    (hE : ∀ h' e, (∀ c o, c ≠ z → c ≠ TO → c ≠ i1 → c ≠ i2 → s.heap.get? c = some o → h'.get? c = some o) → (∃ o, h'.get? e = some o ∧ o.cls = .type "StopIteration") → E (.ref e) { s with heap := h' }) : wpAny (model prog w) A (Builtin.«zip.__next__» ⟨[.ref z], []⟩) Q E s := by
  show wpAny _ _ (field (.ref z) 2 >>= _) _ _ _
  refine wpAny_bind (wpAny_field hz rfl (x := .bool false) rfl ?_); show wpAny _ _ (field (.ref z) 3 >>= _) _ _ _
  refine wpAny_bind (wpAny_field hz rfl (x := .ref TI) rfl (wpAny_bind (wpAny_seqItems hTI rfl ?_)))
  show wpAny _ _ (Builtin.SmallTypes.ownedTupleIsFree (.ref z) >>= _) _ _ _
  refine wpAny_bind (wpAny_tupleHeld_zip hz hT fun g1 hz1 hs1 => ?_); simp only [Bool.false_eq_true, if_false]
  refine wpAny_bind ?_; rw [← Array.forIn_toList]; simp only [List.forIn_cons, List.forIn_nil]
  refine wpAny_bind (wpAny_bind (wpAny_holding ?_)); show wpAny _ _ (Builtin.SmallTypes.nextOf (.ref i1) >>= _) _ _ _
  cases hx : xs[k1]? with
  | none => exact wpAny_bind (nextK_end (s := { s with heap := g1 }) hh (h1.ext hs1.extBut D.i1z) (hl1.ext hs1.extBut D.l1z) hx fun g2 e hs2 he => hE g2 e (fun c o c1 _ c3 _ q => hs2 _ _ c3 (hs1.extBut _ _ c1 q)) he)
  | some x =>
    have hy : ys[k2]? = none := by
      rcases hend with q | q
      · rw [hx] at q; cases q
      · exact q
    refine wpAny_bind (nextK_item (s := { s with heap := g1 }) (h1.ext hs1.extBut D.i1z) (hl1.ext hs1.extBut D.l1z) hx fun g2 h12 hs2 => wpAny_pure (wpAny_pure ?_))
    refine wpAny_bind (wpAny_bind (wpAny_holding ?_)); show wpAny _ _ (Builtin.SmallTypes.nextOf (.ref i2) >>= _) _ _ _
    exact wpAny_bind (nextK_end (s := { s with heap := g2 }) hh ((h2.ext hs1.extBut D.i2z).ext hs2.extBut D.i12.symm) ((hl2.ext hs1.extBut D.l2z).ext hs2.extBut D.l2i1) hy fun g3 e hs3 he => hE g3 e (fun c o c1 _ c3 c4 q => hs3 _ _ c4 (hs2.extBut _ _ c3 (hs1.extBut _ _ c1 q))) he)
/-- its first mark: nothing, or the tuple that was given out -/
def Mk0 (f0 : Value) : Prop := f0 = .none ∨ ∃ T : Addr, f0 = rawInt T
theorem free_none {f1 : Bool} (hz : IsZF s.heap z TI TO .none f1) (R : Bool → Shared → Prop) (h : R true s) : wpAny (model prog w) A (Builtin.SmallTypes.ownedTupleIsFree (.ref z)) R E s := by
  unfold Builtin.SmallTypes.ownedTupleIsFree
  exact wpAny_bind (wpAny_field hz rfl (x := .none) rfl (wpAny_pure h))
theorem free_gone {T : Addr} {f1 : Bool} (hz : IsZF s.heap z TI TO (rawInt T) f1) (hT : s.heap.get? T = none) (R : Bool → Shared → Prop) (h : R true s) : wpAny (model prog w) A (Builtin.SmallTypes.ownedTupleIsFree (.ref z)) R E s := by
  unfold Builtin.SmallTypes.ownedTupleIsFree
  refine wpAny_bind (wpAny_field hz rfl (x := rawInt T) rfl ?_)
  show wpAny _ _ (loadIfAlive ((T : Int).toNat) >>= _) _ _ _
  rw [Int.toNat_natCast]
  refine wpAny_bind ?_
  have al : ∀ (R : Option Obj → Shared → Prop), R none s → wpAny (model prog w) A (loadIfAlive T) R E s := fun R hR => by
    have h' : R (s.heap.get? T) s := by rw [hT]; exact hR
    exact fun _ _ _ => h'
  refine al _ ?_
  simp only [Option.isNone_none, if_true]
  exact wpAny_pure h
theorem zipN_item {x y : Value} {Q : Value → Shared → Prop} (D : ZipApart z TI TO i1 i2 l1 l2) {f0 : Value} {f1 : Bool} (hz : IsZF s.heap z TI TO f0 f1) (hf : Mk0 f0) (hTI : IsPair s.heap TI (.ref i1) (.ref i2)) (hTO : IsPair s.heap TO a b)
    (h1 : ItK t s.heap i1 l1 k1) (h2 : ItK u s.heap i2 l2 k2) (hl1 : SqK t s.heap l1 xs) (hl2 : SqK u s.heap l2 ys) (hx : xs[k1]? = some x) (hy : ys[k2]? = some y)
    (hQ : ∀ h' g0 g1, IsZF h' z TI TO g0 g1 → Mk0 g0 → (∃ a b, IsPair h' TO a b) → ItK t h' i1 l1 (k1 + 1) → ItK u h' i2 l2 (k2 + 1) → IsPair h' s.heap.objs.size x y → h'.objs.size = s.heap.objs.size + 1 → (∀ c o, c ≠ z → c ≠ TO → c ≠ i1 → c ≠ i2 → s.heap.get? c = some o → h'.get? c = some o) → Q (.ref s.heap.objs.size) { s with heap := h' }) :
    wpAny (model prog w) A (Builtin.«zip.__next__» ⟨[.ref z], []⟩) (fun fin s' => ∃ v, fin = .done (.ret v) ∧ Q v s') E s := by
  have way : (∀ R : Bool → Shared → Prop, R true s → wpAny (model prog w) A (Builtin.SmallTypes.ownedTupleIsFree (.ref z)) R E s) → wpAny (model prog w) A (Builtin.«zip.__next__» ⟨[.ref z], []⟩) (fun fin s' => ∃ v, fin = .done (.ret v) ∧ Q v s') E s := fun fr =>
    zipF_item D hz fr hTI hTO h1 h2 hl1 hl2 hx hy fun g b1 b2 b3 b4 b5 b6 b7 => hQ g _ _ b1 (.inr ⟨_, rfl⟩) ⟨_, _, b2⟩ b3 b4 b5 b6 b7
  rcases hf with rfl | ⟨T, rfl⟩
  · exact way (free_none hz)
  · cases e : s.heap.get? T with
    | none => exact way (free_gone hz e)
    | some oT => exact zipH_item D hz e hTI h1 h2 hl1 hl2 hx hy fun g b1 b3 b4 b5 b6 b7 => hQ g _ _ b1 (.inr ⟨_, rfl⟩) ⟨_, _, b7 _ _ D.TOz D.TOi1 D.TOi2 hTO⟩ b3 b4 b5 b6 fun c o c1 _ c3 c4 q => b7 c o c1 c3 c4 q
theorem zipN_end {Q : Fin → Shared → Prop} (hh : A.handled = none) (D : ZipApart z TI TO i1 i2 l1 l2) {f0 : Value} {f1 : Bool} (hz : IsZF s.heap z TI TO f0 f1) (hf : Mk0 f0) (hTI : IsPair s.heap TI (.ref i1) (.ref i2)) (hTO : IsPair s.heap TO a b)
    (h1 : ItK t s.heap i1 l1 k1) (h2 : ItK u s.heap i2 l2 k2) (hl1 : SqK t s.heap l1 xs) (hl2 : SqK u s.heap l2 ys) (hend : xs[k1]? = none ∨ ys[k2]? = none)
    (hE : ∀ h' e, (∀ c o, c ≠ z → c ≠ TO → c ≠ i1 → c ≠ i2 → s.heap.get? c = some o → h'.get? c = some o) → (∃ o, h'.get? e = some o ∧ o.cls = .type "StopIteration") → E (.ref e) { s with heap := h' }) : wpAny (model prog w) A (Builtin.«zip.__next__» ⟨[.ref z], []⟩) Q E s := by
  rcases hf with rfl | ⟨T, rfl⟩
  · exact zipF_end hh D hz (free_none hz) hTI hTO h1 h2 hl1 hl2 hend hE
  · cases e : s.heap.get? T with
    | none => exact zipF_end hh D hz (free_gone hz e) hTI hTO h1 h2 hl1 hl2 hend hE
    | some oT => exact zipH_end hh D hz e hTI h1 h2 hl1 hl2 hend hE
theorem pyNextN_item {x y : Value} {Q : Option Value → Shared → Prop} (D : ZipApart z TI TO i1 i2 l1 l2) {f0 : Value} {f1 : Bool} (hz : IsZF s.heap z TI TO f0 f1) (hf : Mk0 f0) (hTI : IsPair s.heap TI (.ref i1) (.ref i2)) (hTO : IsPair s.heap TO a b)
    (h1 : ItK t s.heap i1 l1 k1) (h2 : ItK u s.heap i2 l2 k2) (hl1 : SqK t s.heap l1 xs) (hl2 : SqK u s.heap l2 ys) (hx : xs[k1]? = some x) (hy : ys[k2]? = some y)
    (hQ : ∀ h' g0 g1, IsZF h' z TI TO g0 g1 → Mk0 g0 → (∃ a b, IsPair h' TO a b) → ItK t h' i1 l1 (k1 + 1) → ItK u h' i2 l2 (k2 + 1) → IsPair h' s.heap.objs.size x y → h'.objs.size = s.heap.objs.size + 1 → (∀ c o, c ≠ z → c ≠ TO → c ≠ i1 → c ≠ i2 → s.heap.get? c = some o → h'.get? c = some o) → Q (some (.ref s.heap.objs.size)) { s with heap := h' }) :
    wpAny (model prog w) A (pyNext (.ref z)) Q E s := by
  have hT : s.TypeIs (.ref z) "zip" := ⟨_, hz, rfl⟩
  unfold pyNext
  refine wpAny_bind (wpAny_attempt (wpAny_callSpecial?_slot (name := Str.ofString "__next__") hT F.slot_zip_next ?_))
  exact wpAny_call_entry F.slot_zip_next hT F.entry_zip_next (zipN_item D hz hf hTI hTO h1 h2 hl1 hl2 hx hy fun g g0 g1 b1 b0 b2 b3 b4 b5 b6 b7 => wpAny_pure (hQ g g0 g1 b1 b0 b2 b3 b4 b5 b6 b7)) (F.args_zip_next_1 _)
theorem pyNextN_end {Q : Option Value → Shared → Prop} (hh : A.handled = none) (D : ZipApart z TI TO i1 i2 l1 l2) {f0 : Value} {f1 : Bool} (hz : IsZF s.heap z TI TO f0 f1) (hf : Mk0 f0) (hTI : IsPair s.heap TI (.ref i1) (.ref i2)) (hTO : IsPair s.heap TO a b)
    (h1 : ItK t s.heap i1 l1 k1) (h2 : ItK u s.heap i2 l2 k2) (hl1 : SqK t s.heap l1 xs) (hl2 : SqK u s.heap l2 ys) (hend : xs[k1]? = none ∨ ys[k2]? = none)
    (hQ : ∀ h', (∀ c o, c ≠ z → c ≠ TO → c ≠ i1 → c ≠ i2 → s.heap.get? c = some o → h'.get? c = some o) → Q none { s with heap := h' }) : wpAny (model prog w) A (pyNext (.ref z)) Q E s := by
  have hT : s.TypeIs (.ref z) "zip" := ⟨_, hz, rfl⟩
  unfold pyNext
  refine wpAny_bind (wpAny_attempt (wpAny_callSpecial?_slot (name := Str.ofString "__next__") hT F.slot_zip_next ?_))
  refine wpAny_call_entry F.slot_zip_next hT F.entry_zip_next (zipN_end hh D hz hf hTI hTO h1 h2 hl1 hl2 hend fun g e hk he => ?_) (F.args_zip_next_1 _)
  obtain ⟨o, ho, hc⟩ := he
  exact wpAny_bind (wpAny_isInstance (T := "StopIteration") (b := true) ⟨o, ho, hc⟩ isSubtype_stop (wpAny_pure (hQ _ hk)))
end
end SF

/-! SL63: zip of two with one name as target, over data; min and max of a tuple of ints. -/
namespace SF
open PySem PySem.Spec PyProof.Rows L2
/-- pairs, each a tuple of its own -/
def ItzN (K : Fg) (t u : Bool) (a b : Addr) : It :=
  ⟨fun i H => ∃ (xs ys : List V) (x y : V), SqV K t H a xs ∧ SqV K u H b ys ∧ xs[i]? = some x ∧ ys[i]? = some y, fun i H v H' => ∃ T o x y, v = .ref T ∧ H T = none ∧ o.dict = none ∧ H' = upd H T (.frz o (.tup [x, y])) ∧ (∀ xs, SqV K t H a xs → xs[i]? = some x) ∧ ∀ ys, SqV K u H b ys → ys[i]? = some y,
    fun i H => ∃ xs ys : List V, SqV K t H a xs ∧ SqV K u H b ys ∧ (xs.length ≤ i ∨ ys.length ≤ i)⟩
theorem iter_zipN {prog : Program} {w : World} {A : Around} {E : Value → Shared → Prop} {s : Shared} {z TI TO : Addr} {f0 : Value} {f1 : Bool} {Q : Value → Shared → Prop} (hz : IsZF s.heap z TI TO f0 f1) (h : Q (.ref z) s) : wpAny (model prog w) A (pyIter (.ref z)) Q E s := by
  have ty : s.TypeIs (.ref z) "zip" := ⟨_, hz, rfl⟩
  refine wpAny_pyIter_slot ty F.slot_zip_iter (wpAny_call_entry F.slot_zip_iter ty F.entry_zip_iter (E := E) ?_ (F.args_zip_iter_1 _))
  show wpAny _ _ (ret (.ref z)) _ _ s; exact wpAny_pure ⟨_, rfl, "zip", _, ty, F.slot_zip_next.lookup, h⟩
theorem turn_zipN {P : Program} {w : World} {K : Fg} {nm : Str} {tpos : Pos} {t u : Bool} {a b z TI TO i1 i2 : Addr} (D : ZipApart z TI TO i1 i2 a b) :
    Turn P w K (.Name nm tpos) (ItzN K t u a b) [z, TI, TO, i1, i2] z (fun i h => (∃ f0 f1, IsZF h z TI TO f0 f1 ∧ Mk0 f0) ∧ IsPair h TI (.ref i1) (.ref i2) ∧ (∃ x y, IsPair h TO x y) ∧ ItK t h i1 a i ∧ ItK u h i2 b i) where
  mem := by simp
  obj := fun i h st c hc => by
    obtain ⟨⟨f0, f1, hz, _⟩, hTI, ⟨x, y, hTO⟩, p1, p2⟩ := st
    rcases five hc with q | q | q | q | q <;> rw [q]
    · exact ⟨_, hz, fun v q => nomatch q⟩
    · exact ⟨_, hTI, fun v q => nomatch q⟩
    · exact ⟨_, hTO, fun v q => nomatch q⟩
    · exact p1.ob
    · exact p2.ob
  keep := fun i h h' st k => by
    obtain ⟨⟨f0, f1, hz, m⟩, hTI, ⟨x, y, hTO⟩, h1, h2⟩ := st
    exact ⟨⟨f0, f1, k z (by simp) _ hz, m⟩, k TI (by simp) _ hTI, ⟨x, y, k TO (by simp) _ hTO⟩, h1.mv fun o q => k i1 (by simp) o q, h2.mv fun o q => k i2 (by simp) o q⟩
  item := by
    intro X hP hw hK hc i pins s σ H E I hf st hg
    subst hP hw hK
    obtain ⟨⟨f0, f1, hz, m0⟩, hTI, ⟨x0, y0, hTO⟩, h1, h2⟩ := st
    obtain ⟨xs, ys, x, y, hqx, hqy, hx, hy⟩ := hg
    obtain ⟨its, rv, p⟩ := sqv_in I hqx
    obtain ⟨its2, rv2, p2⟩ := sqv_in I hqy
    obtain ⟨v1, hu, ru⟩ := rv.get hx
    obtain ⟨v2, hu2, ru2⟩ := rv2.get hy
    have zl : z < s.heap.objs.size := Heap.lt_size hz
    refine pyNextN_item D hz m0 hTI hTO h1 h2 p p2 (x := v1) (y := v2) (by simpa using hu) (by simpa using hu2) fun g g0 g1 z' m' TO' h1' h2' hT hsz hk => ?_
    refine ⟨_, rfl, wpAny_pure ?_⟩
    have hT2 : g.get? s.heap.objs.size = some { cls := .type "tuple", data := .seq #[v1, v2] } := hT
    have new : ObjOk X.prog X.w (upd H s.heap.objs.size (.frz { cls := .type "tuple", data := .seq #[v1, v2] } (.tup [x, y]))) g s.heap.objs.size (.frz { cls := .type "tuple", data := .seq #[v1, v2] } (.tup [x, y])) := ⟨hT2, by show 2 ≤ sizeLine; decide, [v1, v2], .cons ru (.cons ru2 .nil), ⟨_, hT2, rfl, _, rfl⟩⟩
    have I1 : Inv X pins σ (upd H s.heap.objs.size (.frz { cls := .type "tuple", data := .seq #[v1, v2] } (.tup [x, y]))) { s with heap := g } :=
      I.turnedNew (t' := s.toks) (ch := [z, TI, TO, i1, i2]) (fun c o hb q => by
        obtain ⟨n1, n2, n3, n4, n5⟩ := five_no hb
        exact hk c o n1 n3 n4 n5 q) hf (Nat.le_refl _) new
    refine ⟨.ref s.heap.objs.size, _, I1, rfl, ⟨_, _, x, y, rfl, I.hok.fresh (Nat.le_refl _), rfl, rfl, fun l hl => by rw [sqv_inj I hl hqx]; exact hx, fun l hl => by rw [sqv_inj I hl hqy]; exact hy⟩, ⟨⟨g0, g1, z', m'⟩, hk _ _ D.TIz D.TITO D.TIi1 D.TIi2 hTI, TO', h1', h2'⟩, fun c hcm => ?_⟩
    have hlt : c < s.heap.objs.size := by
      rcases five hcm with q | q | q | q | q <;> rw [q]
      · exact zl
      · exact Heap.lt_size hTI
      · exact Heap.lt_size hTO
      · exact h1.lt
      · exact h2.lt
    rw [upd_ne (Nat.ne_of_lt hlt)]
    exact (hf c hcm).1
  done := by
    intro X hP hw hK hc i pins s σ H E I hf st hg
    subst hP hw hK
    obtain ⟨⟨f0, f1, hz, m0⟩, hTI, ⟨x0, y0, hTO⟩, h1, h2⟩ := st
    obtain ⟨xs, ys, hqx, hqy, hend⟩ := hg
    obtain ⟨its, rv, p⟩ := sqv_in I hqx
    obtain ⟨its2, rv2, p2⟩ := sqv_in I hqy
    have l1 := rv.length
    have l2 := rv2.length
    have he : its.toArray[i]? = none ∨ its2.toArray[i]? = none := by
      rcases hend with q | q
      · exact .inl (by simp; omega)
      · exact .inr (by simp; omega)
    exact pyNextN_end (I.ok.hd hc) D hz m0 hTI hTO h1 h2 p p2 he fun g hk => ⟨rfl, I.turnedL (t' := s.toks) (ch := [z, TI, TO, i1, i2]) (fun c o hb q => by
      obtain ⟨n1, n2, n3, n4, n5⟩ := five_no hb
      exact hk c o n1 n3 n4 n5 q) hf⟩
  self := fun A i s Q E ⟨⟨f0, f1, hz, _⟩, _⟩ h => iter_zipN hz h
def iZipN (K : Fg) (ta : TA) : TI := fun σ H R => ta σ H fun vs H1 => ∃ a b xs ys t u, vs = [.ref a, .ref b] ∧ SqV K t H1 a xs ∧ SqV K u H1 b ys ∧ R (ItzN K t u a b) H1
theorem pi_zipN {X : Cx} {e e2 : Expr} {ta : TA} {p pos tpos : Pos} {nm : Str} (hg : Gl X "zip") (hm : X.mg "zip" = none) (ha : PA X [e, e2] ta) (hs : starEach [e, e2] X.env = (false, eval e X.env) :: starEach [e2] X.env := by rfl) (hpl : (backTo pos (starEach [e2] X.env)).any (·.1) = false := by rfl) :
    PI X (.Name nm tpos) (.Call (.Name "zip" p) [e, e2] [] pos) (iZipN X.K ta) := by
  refine ⟨fun pins s σ H R I h => ?_⟩
  refine Call_ (ld_blt I hg hm PyProof.Rows.boot_zip (PyProof.Rows.callWith_type1 (thn (ha.run pos pins s σ H _ I h) fun us s1 ⟨vs, H1, I1, r1, q1⟩ => ?_) hs hpl))
  obtain ⟨a, b, xs, ys, t, u, ex, hqx, hqy, q⟩ := q1
  subst ex
  cases r1 with
  | cons r rr =>
    cases rr with
    | cons r' rr =>
      cases rr
      cases r
      cases r'
      obtain ⟨its, rv, p1⟩ := sqv_in I1 hqx
      obtain ⟨its2, rv2, p2⟩ := sqv_in I1 hqy
      refine call_zipU p1 p2 fun g hz hTI hTO h1 h2 hsz hk => iter_zipN (f0 := .none) (f1 := false) hz ?_
      have I2 : Inv X pins σ H1 { s1 with heap := g } := I1.kept (t' := s1.toks) hk
      refine ⟨s1.heap.objs.size + 4, [s1.heap.objs.size + 4, s1.heap.objs.size + 2, s1.heap.objs.size + 3, s1.heap.objs.size, s1.heap.objs.size + 1], _, _, H1, rfl, I2, turn_zipN (PySem.W.ktu_apart s1.heap.objs.size a b p1.lt p2.lt), ⟨⟨.none, false, hz, .inl rfl⟩, hTI, ⟨_, _, hTO⟩, h1, h2⟩, fun c hcm => ?_, q⟩
      have hle : s1.heap.objs.size ≤ c := by
        rcases five hcm with z | z | z | z | z <;> rw [z]
        · exact Nat.le_add_right _ _
        · exact Nat.le_add_right _ _
        · exact Nat.le_add_right _ _
        · exact Nat.le_refl _
        · exact Nat.le_add_right _ _
      exact I1.fpOk hle (I1.hok.fresh hle)
section
variable {X : Cx} {F : Fx} {tg e a b : Expr} {te : DTE} {tA : DTA} {p pos tpos : Pos}
theorem itok_zipN {K : Fg} {H : Hp} {O : List Addr} {t u : Bool} {a b : Addr} {vs ws : List V} {xs ys : List D} (lo : LO O H) (h : ∀ H2 O2, HS O H O2 H2 → LO O H → SqV K t H2 a vs) (h' : ∀ H2 O2, HS O H O2 H2 → LO O H → SqV K u H2 b ws) (r : RpL K H O vs xs) (r' : RpL K H O ws ys) (hz : xs.length ≤ 16777216) : ItOk true K (ItzN K t u a b) (zipD xs ys) O H where
  len := by rw [zipD_len, sizeLine_eq]; omega
  go := fun H2 O2 lo2 hs i hi => by
    rw [zipD_len] at hi
    have h2 := h H2 O2 hs lo
    have h2' := h' H2 O2 hs lo
    have i1 : i < xs.length := by omega
    have i2 : i < ys.length := by omega
    obtain ⟨v, ev, rv⟩ := (hs_rpl lo hs r).get (List.getElem?_eq_getElem i1)
    obtain ⟨w, ew, rw'⟩ := (hs_rpl lo hs r').get (List.getElem?_eq_getElem i2)
    refine ⟨⟨vs, ws, v, w, h2, h2', ev, ew⟩, fun x H3 hy => ?_⟩
    obtain ⟨T, o, x1, x2, e1, hT, od, e2, f1, f2⟩ := hy
    subst e1 e2
    have q1 := f1 vs h2
    have q2 := f2 ws h2'
    rw [ev] at q1; cases q1
    rw [ew] at q2; cases q2
    have sm := same_new (o := .frz o (.tup [v, w])) hT
    refine ⟨_, zipD_get (List.getElem?_eq_getElem i1) (List.getElem?_eq_getElem i2), sm, ?_⟩
    exact .tup (.inl ⟨o, upd_same, od⟩) (.cons (Rp.mv lo2 (same_keep sm) grow_refl rv) (.cons (Rp.mv lo2 (same_keep sm) grow_refl rw') .nil))
  stop := fun H2 O2 lo2 hs => ⟨vs, ws, h H2 O2 hs lo, h' H2 O2 hs lo, by rw [zipD_len, r.length, r'.length]; omega⟩
theorem di_zipN {nm : Str} (hg : Gl X "zip") (hm : X.mg "zip" = none) (ha : DA X F [a, b] tA) (hs : starEach [a, b] X.env = (false, eval a X.env) :: starEach [b] X.env := by rfl) (hpl : (backTo pos (starEach [b] X.env)).any (·.1) = false := by rfl) :
    DI true X F (.Name nm tpos) (.Call (.Name "zip" p) [a, b] [] pos) (dZip2 tA) :=
  PI_imp (pi_zipN hg hm ha hs hpl) fun σ H Q ⟨O, ds, Qa, R, ht, hq⟩ => ⟨O, ds, _, R, ht, fun xs ds1 vs H1 O1 s1 R1 rx hx => by
    split at hx
    · rename_i x y ds2 e
      split at hx
      · rename_i xs ys ex ey
        obtain ⟨O2, s2, R2, rl, _⟩ := frzL_ok R s1 R1 rx e
        cases rl with
        | cons r1 rl =>
          cases rl with
          | cons r2 rl =>
            cases rl
            obtain ⟨p1, us1, t1, e1, h1, l1, k1⟩ := seq_of r1 ex
            obtain ⟨p2, us2, t2, e2, h2, l2, k2⟩ := seq_of r2 ey
            subst e1 e2
            exact ⟨_, _, _, _, _, _, rfl, h1, h2, hq _ ds2 H1 O2 _ s2 R2 (itok_zipN R2.lo k1 k2 l1 l2 hx.1) hx.2⟩
      · exact hx.elim
    · exact hx.elim⟩
/-! min and max of a tuple of ints -/
def rMinT (K : Fg) : List V → Hp → VK → Prop := fun xs H Q => ∃ (a : Addr) (n : Int) (ns : List Int), xs = [.ref a] ∧ SqT K H a ((n :: ns).map V.int) ∧ Q (.int (ns.foldl min n)) H
def rMaxT (K : Fg) : List V → Hp → VK → Prop := fun xs H Q => ∃ (a : Addr) (n : Int) (ns : List Int), xs = [.ref a] ∧ SqT K H a ((n :: ns).map V.int) ∧ Q (.int (ns.foldl max n)) H
theorem dp_ints {K : Fg} {H : Hp} : ∀ ns : List Int, DpAll K H (ns.map V.int) (ns.map PyData.int)
  | [] => .nil
  | n :: ns => .cons (.int n) (dp_ints ns)
theorem alike_is (ns : List Int) : PySem.W.AlikeAll (ns.map PyData.int) := ⟨fun x hx y hy => by
  obtain ⟨a, _, rfl⟩ := List.mem_map.mp hx
  obtain ⟨b, _, rfl⟩ := List.mem_map.mp hy
  rfl, fun x hx => by
  obtain ⟨a, _, rfl⟩ := List.mem_map.mp hx
  intro h; cases h⟩
theorem int_of {x : V} {ns : List Int} {i : Nat} (h : (ns.map V.int)[i]? = some x) : ∃ m : Int, x = .int m := by
  rw [List.getElem?_map] at h
  cases e : ns[i]? with
  | none => rw [e] at h; cases h
  | some m => rw [e] at h; cases h; exact ⟨m, rfl⟩
theorem cr_minT (hc : X.calm = true) (hu : X.A.units + 65 < cLine) : CallR X (.builtin "min") (rMinT X.K) := by
  intro pins s σ H xs us Q I r h
  obtain ⟨l, n, ns, rfl, hs, q⟩ := h
  obtain ⟨its, rv, hl, _⟩ := I.tuple hs
  rw [Vals.ref1 r]
  obtain ⟨as, hr⟩ := Dp.readsAll I _ _ _ (dp_ints (n :: ns)) rv
  refine PySem.W.min_tuple_data (x := .int n) (xs := ns.map .int) (I.ok.hd hc) hl hr (alike_is (n :: ns)) (by rw [show PyData.depthAll (PyData.int n :: ns.map .int) = 0 from PySem.W.depth_ints (n :: ns)]; omega) fun i v g tk bs hv hrd hk => ?_
  obtain ⟨x, hx, rx⟩ := vals_back rv (i := i) (u := v) (by simpa using hv)
  obtain ⟨m, rfl⟩ := int_of hx
  rw [PySem.W.minD_ints] at hrd
  obtain ⟨as2, hr2⟩ := Dp.reads I _ _ _ (Dp.int m) rx
  have e := (hrd.unique _ _ (PySem.W.reads_keeps hk hr2)).1
  cases e
  exact ⟨_, H, I.kept hk, rx, q⟩
theorem cr_maxT (hc : X.calm = true) (hu : X.A.units + 65 < cLine) : CallR X (.builtin "max") (rMaxT X.K) := by
  intro pins s σ H xs us Q I r h
  obtain ⟨l, n, ns, rfl, hs, q⟩ := h
  obtain ⟨its, rv, hl, _⟩ := I.tuple hs
  rw [Vals.ref1 r]
  obtain ⟨as, hr⟩ := Dp.readsAll I _ _ _ (dp_ints (n :: ns)) rv
  refine PySem.W.max_tuple_data (x := .int n) (xs := ns.map .int) (I.ok.hd hc) hl hr (alike_is (n :: ns)) (by rw [show PyData.depthAll (PyData.int n :: ns.map .int) = 0 from PySem.W.depth_ints (n :: ns)]; omega) fun i v g tk bs hv hrd hk => ?_
  obtain ⟨x, hx, rx⟩ := vals_back rv (i := i) (u := v) (by simpa using hv)
  obtain ⟨m, rfl⟩ := int_of hx
  rw [PySem.W.maxD_ints] at hrd
  obtain ⟨as2, hr2⟩ := Dp.reads I _ _ _ (Dp.int m) rx
  have e := (hrd.unique _ _ (PySem.W.reads_keeps hk hr2)).1
  cases e
  exact ⟨_, H, I.kept hk, rx, q⟩
@[irreducible] def gMinT : FN := fun ds Q => match ds with
  | [.tuple xs] => someD (intsD xs) fun ns => match ns with
    | n :: ns => Q (.d (.int (ns.foldl min n)))
    | [] => False
  | _ => False
@[irreducible] def gMaxT : FN := fun ds Q => match ds with
  | [.tuple xs] => someD (intsD xs) fun ns => match ns with
    | n :: ns => Q (.d (.int (ns.foldl max n)))
    | [] => False
  | _ => False
theorem gMinT_i {n : Int} {ns : List Int} {Q : DV → Prop} (q : Q (.d (.int (ns.foldl min n)))) : gMinT [.tuple ((n :: ns).map .int)] Q := by
  unfold gMinT
  show someD (intsD ((n :: ns).map .int)) _
  rw [intsD_map]
  exact q
theorem gMaxT_i {n : Int} {ns : List Int} {Q : DV → Prop} (q : Q (.d (.int (ns.foldl max n)))) : gMaxT [.tuple ((n :: ns).map .int)] Q := by
  unfold gMaxT
  show someD (intsD ((n :: ns).map .int)) _
  rw [intsD_map]
  exact q
theorem bd_minT (hc : X.calm = true) (hu : X.A.units + 65 < cLine) : BlD X (.builtin "min") gMinT := ⟨_, cr_minT hc hu, by
  intro H O xs ds Qa Q lo w hf k
  unfold gMinT at hf
  split at hf
  · rename_i ys
    cases e : intsD ys with
    | none => rw [e] at hf; exact hf.elim
    | some ns =>
      rw [e] at hf
      cases ns with
      | nil => exact hf.elim
      | cons n ns =>
        obtain ⟨v, ev, w1⟩ := vw1 w
        subst ev
        obtain ⟨p, vs, e1, h1, r1⟩ := w1.tuple
        subst e1
        rw [intsD_ok e] at r1
        have er := r1.ints
        subst er
        exact ⟨p, n, ns, rfl, h1, k.d _ _ (.int _) hf⟩
  · exact hf.elim⟩
theorem bd_maxT (hc : X.calm = true) (hu : X.A.units + 65 < cLine) : BlD X (.builtin "max") gMaxT := ⟨_, cr_maxT hc hu, by
  intro H O xs ds Qa Q lo w hf k
  unfold gMaxT at hf
  split at hf
  · rename_i ys
    cases e : intsD ys with
    | none => rw [e] at hf; exact hf.elim
    | some ns =>
      rw [e] at hf
      cases ns with
      | nil => exact hf.elim
      | cons n ns =>
        obtain ⟨v, ev, w1⟩ := vw1 w
        subst ev
        obtain ⟨p, vs, e1, h1, r1⟩ := w1.tuple
        subst e1
        rw [intsD_ok e] at r1
        have er := r1.ints
        subst er
        exact ⟨p, n, ns, rfl, h1, k.d _ _ (.int _) hf⟩
  · exact hf.elim⟩
end
end SF

/-! SL64: zip of any number of things of one length, at the heap. -/
namespace SF
section
open PySem
open PySem.Sem (wp)
/-- one of the things: its kind, its walker, its place -/
structure ZQ where
  t : Bool
  it : Addr
  l : Addr
abbrev IsTup (h : Heap) (T : Addr) (xs : List Value) : Prop := h.get? T = some { cls := .type "tuple", data := .seq xs.toArray }
structure ZA (z TI TO : Addr) (qs : List ZQ) : Prop where
  TIz : TI ≠ z
  TOz : TO ≠ z
  TITO : TI ≠ TO
  iz : ∀ q ∈ qs, q.it ≠ z ∧ q.it ≠ TI ∧ q.it ≠ TO
  lz : ∀ q ∈ qs, q.l ≠ z ∧ q.l ≠ TO ∧ ∀ p ∈ qs, q.l ≠ p.it
  one : ∀ (k k' : Nat) (q q' : ZQ), qs[k]? = some q → qs[k']? = some q' → q.it = q'.it → k = k'
variable {prog : Program} {w : World} {A : Around} {E : Value → Shared → Prop} {s : Shared}
variable {z TI TO : Addr} {qs : List ZQ} {i : Nat} {ws vals : List Value} {f0 : Value} {f1 : Bool}
theorem upd_tup {T : Addr} {xs : List Value} {k : Nat} {x : Value} {Q : Unit → Shared → Prop} (hT : IsTup s.heap T xs) (hl : xs.length ≤ 100)
    (h : ∀ h', IsTup h' T (xs.set k x) → Heap.SameBut T s.heap h' → Q () { s with heap := h' }) :
    wpAny (model prog w) A (updateSeq T (·.setIfInBounds k x)) Q E s := by
  have b : (100 : Nat) ≤ sizeLine := by decide
  refine wpAny_updateSeq hT rfl (h _ ?_ (Heap.SameBut.update ..)) (by rw [List.size_toArray]; omega) (by rw [Array.size_setIfInBounds, List.size_toArray]; omega)
  show (s.heap.update T _).get? T = _
  rw [Heap.get?_update_self _ hT rfl]
  simp [Obj.mapSeq]
theorem drop_cons' {α : Type} {xs : List α} {j : Nat} {x : α} (h : xs[j]? = some x) : xs.drop j = x :: xs.drop (j + 1) := by
  obtain ⟨hj, e⟩ := List.getElem?_eq_some_iff.mp h
  rw [List.drop_eq_getElem_cons hj, e]
/-- what is left of the walkers, with their numbers -/
def zRest (qs : List ZQ) (j : Nat) : List (Value × Nat) := ((qs.drop j).map fun q => Value.ref q.it).zipIdx j
theorem zRest_cons {q : ZQ} {j : Nat} (h : qs[j]? = some q) : zRest qs j = (.ref q.it, j) :: zRest qs (j + 1) := by
  unfold zRest
  rw [drop_cons' h]
  rfl
theorem zRest_end {j : Nat} (h : qs.length ≤ j) : zRest qs j = [] := by
  unfold zRest
  rw [List.drop_eq_nil_of_le h]
  rfl
theorem zRest_some {j : Nat} {x : Value × Nat} {rest : List (Value × Nat)} (h : x :: rest = zRest qs j) : ∃ q, qs[j]? = some q ∧ x = (.ref q.it, j) ∧ rest = zRest qs (j + 1) := by
  cases e : qs[j]? with
  | none => rw [zRest_end (List.getElem?_eq_none_iff.mp e)] at h; cases h
  | some q => rw [zRest_cons e] at h; cases h; exact ⟨q, rfl, rfl, rfl⟩
/-- the walk on its way: j of the walkers have gone on -/
structure ZW (s0 : Heap) (z TI TO : Addr) (qs : List ZQ) (vals : List Value) (i j : Nat) (f1 : Bool) (h : Heap) : Prop where
  hz : IsZF h z TI TO .ellipsis f1
  out : ∃ ws, IsTup h TO ws ∧ ws.length = qs.length ∧ ws.take j = vals.take j
  now : ∀ (k : Nat) (q : ZQ), qs[k]? = some q → ItK q.t h q.it q.l (if k < j then i + 1 else i)
  rest : ∀ c o, c ≠ z → c ≠ TO → (∀ q ∈ qs, c ≠ q.it) → s0.get? c = some o → h.get? c = some o
  size : h.objs.size = s0.objs.size
theorem SqK.keep {t : Bool} {h h' : Heap} {l : Addr} {xs : Array Value} (p : SqK t h l xs) (k : ∀ o, h.get? l = some o → h'.get? l = some o) : SqK t h' l xs := by
  cases t
  · obtain ⟨o, e, r⟩ := p; exact ⟨o, k _ e, r⟩
  · obtain ⟨o, e, r⟩ := p; exact ⟨o, k _ e, r⟩
theorem zipAF_item {Q : Value → Shared → Prop} (D : ZA z TI TO qs) (hz : IsZF s.heap z TI TO f0 f1) (hfr : ∀ R : Bool → Shared → Prop, R true s → wpAny (model prog w) A (Builtin.SmallTypes.ownedTupleIsFree (.ref z)) R E s)
    (hTI : IsTup s.heap TI (qs.map fun q => .ref q.it)) (hTO : IsTup s.heap TO ws) (hw : ws.length = qs.length) (hn : 0 < qs.length) (hl : qs.length ≤ 100)
    (hi : ∀ q ∈ qs, ItK q.t s.heap q.it q.l i) (hv : vals.length = qs.length) (hx : ∀ (k : Nat) (q : ZQ), qs[k]? = some q → ∃ xs v, SqK q.t s.heap q.l xs ∧ xs[i]? = some v ∧ vals[k]? = some v)
    (hQ : ∀ h', IsZF h' z TI TO (rawInt s.heap.objs.size) false → IsTup h' TO vals → (∀ q ∈ qs, ItK q.t h' q.it q.l (i + 1)) → IsTup h' s.heap.objs.size vals → h'.objs.size = s.heap.objs.size + 1 → (∀ c o, c ≠ z → c ≠ TO → (∀ q ∈ qs, c ≠ q.it) → s.heap.get? c = some o → h'.get? c = some o) → Q (.ref s.heap.objs.size) { s with heap := h' }) :
    wpAny (model prog w) A (Builtin.«zip.__next__» ⟨[.ref z], []⟩) (fun fin s' => ∃ v, fin = .done (.ret v) ∧ Q v s') E s := by
  have b : (100 : Nat) ≤ sizeLine := by decide
  show wpAny _ _ (field (.ref z) 2 >>= _) _ _ _
  refine wpAny_bind (wpAny_field hz rfl (x := .bool false) rfl ?_); show wpAny _ _ (field (.ref z) 3 >>= _) _ _ _
  refine wpAny_bind (wpAny_field hz rfl (x := .ref TI) rfl (wpAny_bind (wpAny_seqItems hTI rfl ?_)))
  have ne : ((qs.map fun q => Value.ref q.it).toArray.isEmpty) = false := by
    cases qs with
    | nil => simp at hn
    | cons q qs => rfl
  simp only [ne]
  show wpAny _ _ (Builtin.SmallTypes.ownedTupleIsFree (.ref z) >>= _) _ _ _
  refine wpAny_bind (hfr _ ?_); simp only [if_true]
  refine wpAny_bind (wpAny_rule (wpAny_bind (wpAny_field hz rfl (x := .ref TO) rfl (wpAny_bind (wpAny_setField_rec hz (by simp) fun g1 hz1 hs1 => ?_)))))
  have hz1 : IsZF g1 z TI TO .ellipsis f1 := hz1
  have W1 : ZW s.heap z TI TO qs vals i 0 f1 g1 := ⟨hz1, ⟨ws, hs1.extBut _ _ D.TOz hTO, hw, rfl⟩, fun k q hk => by
    have := hi q (List.mem_of_getElem? hk)
    simp only [Nat.not_lt_zero, if_false]
    exact this.ext hs1.extBut (D.iz q (List.mem_of_getElem? hk)).1, fun c o c1 _ _ q => hs1.extBut _ _ c1 q, hs1.1⟩
  refine wpAny_bind (wpAny_forIn_list _ (fun rest r s' => r.1 = none ∧ ∃ j h', s' = { s with heap := h' } ∧ rest = zRest qs j ∧ j ≤ qs.length ∧ ZW s.heap z TI TO qs vals i j f1 h') _ ?_ ?_ _ _ ⟨rfl, 0, g1, rfl, rfl, Nat.zero_le _, W1⟩)
  · intro x rest r s' hI
    obtain ⟨r1, r2⟩ := r
    obtain ⟨hr, j, g2, rfl, e, hj, W⟩ := hI
    cases hr
    obtain ⟨q, hq, rfl, rfl⟩ := zRest_some e
    have qm : q ∈ qs := List.mem_of_getElem? hq
    obtain ⟨xs, v, hs, hxv, hvv⟩ := hx j q hq
    obtain ⟨ws2, hT2, hl2, ht2⟩ := W.out
    have it0 := W.now j q hq
    simp only [Nat.lt_irrefl, if_false] at it0
    refine wpAny_bind (wpAny_onRaise ?_); show wpAny _ _ (Builtin.SmallTypes.nextOf (.ref q.it) >>= _) _ _ _
    refine wpAny_bind (nextK_item (s := { s with heap := g2 }) it0 (hs.keep fun o ho => W.rest _ o (D.lz q qm).1 (D.lz q qm).2.1 (fun p hp => (D.lz q qm).2.2 p hp) ho) hxv fun g3 h3 hs3 => wpAny_pure ?_)
    have hT3 : IsTup g3 TO ws2 := hs3.extBut _ _ (fun h => (D.iz q qm).2.2 h.symm) hT2
    refine wpAny_bind (wpAny_seqItems (s := { s with heap := g3 }) hT3 rfl (wpAny_bind (upd_tup (s := { s with heap := g3 }) hT3 (by omega) fun g4 hT4 hs4 => ?_)))
    refine wpAny_bind (wpAny_letGo (wpAny_pure ?_))
    have jl : j < qs.length := (List.getElem?_eq_some_iff.mp hq).1
    refine ⟨rfl, j + 1, g4, rfl, rfl, jl, ?_⟩
    refine ⟨hs4.extBut _ _ D.TOz.symm (hs3.extBut _ _ (D.iz q qm).1.symm W.hz), ⟨_, hT4, by rw [List.length_set]; exact hl2, ?_⟩, fun k p hk => ?_, fun c o c1 c2 c3 h => hs4.extBut _ _ c2 (hs3.extBut _ _ (c3 q qm) (W.rest c o c1 c2 c3 h)), ?_⟩
    · have vl : vals[j]? = some v := hvv
      rw [List.take_add_one, List.take_add_one, vl, List.getElem?_set_self (by omega), List.take_set_of_le (Nat.le_refl _), ht2]
    · by_cases ek : k = j
      · subst ek
        rw [hq] at hk; cases hk
        rw [if_pos (Nat.lt_succ_self k)]
        exact h3.ext hs4.extBut (D.iz q qm).2.2
      · have pm : p ∈ qs := List.mem_of_getElem? hk
        have nq : p.it ≠ q.it := fun h => ek (D.one k j p q hk hq h)
        have := W.now k p hk
        have : ItK p.t g4 p.it p.l (if k < j then i + 1 else i) := (this.ext hs3.extBut nq).ext hs4.extBut (D.iz p pm).2.2
        rw [show (if k < j + 1 then i + 1 else i) = (if k < j then i + 1 else i) by split <;> split <;> omega]
        exact this
    · show g4.objs.size = _
      rw [hs4.1, hs3.1, W.size]
  · intro r s' hI
    obtain ⟨r1, r2⟩ := r
    obtain ⟨hr, j, g5, rfl, e, hj, W⟩ := hI
    cases hr
    have ej : j = qs.length := by
      refine Nat.le_antisymm hj (Nat.le_of_not_lt fun h => ?_)
      rw [zRest_cons (List.getElem?_eq_getElem h)] at e
      cases e
    subst ej
    obtain ⟨ws2, hT5, hl2, ht2⟩ := W.out
    have ew : ws2 = vals := by
      rw [List.take_of_length_le (by omega), List.take_of_length_le (by omega)] at ht2
      exact ht2
    subst ew
    show wpAny _ _ (seqItems? (.ref TO) >>= _) _ _ _
    refine wpAny_bind (wpAny_seqItems (s := { s with heap := g5 }) hT5 rfl (wpAny_bind (wpAny_newTuple (s := { s with heap := g5 }) ?_ (by show ws2.length ≤ _; omega))))
    have sz : g5.objs.size = s.heap.objs.size := W.size
    have hz5 := W.hz
    have zl : z < g5.objs.size := Heap.lt_size hz5
    show wpAny _ _ (Builtin.SmallTypes.ownedTupleHandOut (.ref z) (.ref g5.objs.size) >>= _) _ _ _; refine wpAny_bind ?_
    unfold Builtin.SmallTypes.ownedTupleHandOut
    have hz6 : IsZF (g5.push { cls := .type "tuple", data := .seq ws2.toArray }) z TI TO .ellipsis f1 := Heap.get?_push_of_some _ hz5
    refine wpAny_bind (wpAny_setField_rec hz6 (by simp) fun g7 hz7 hs7 => ?_)
    have hz7 : IsZF g7 z TI TO (rawInt g5.objs.size) f1 := hz7
    refine wpAny_setField_rec hz7 (by simp) fun g8 hz8 hs8 => ?_
    have hz8 : IsZF g8 z TI TO (rawInt g5.objs.size) false := hz8
    have up : ∀ c o, c ≠ z → g5.get? c = some o → g8.get? c = some o := fun c o c1 e => hs8.extBut _ _ c1 (hs7.extBut _ _ c1 (Heap.get?_push_of_some _ e))
    have hT8 : IsTup g8 g5.objs.size ws2 := hs8.extBut _ _ (Nat.ne_of_gt zl) (hs7.extBut _ _ (Nat.ne_of_gt zl) (Heap.get?_push_size _ rfl))
    have s8 : g8.objs.size = g5.objs.size + 1 := by rw [hs8.1, hs7.1, Heap.size_push]
    rw [sz] at hz8 hT8 s8
    refine wpAny_pure ⟨_, rfl, ?_⟩
    show Q (.ref g5.objs.size) _
    rw [sz]
    refine hQ g8 hz8 (up _ _ D.TOz hT5) (fun q hq => ?_) hT8 s8 fun c o c1 c2 c3 e => up c o c1 (W.rest c o c1 c2 c3 e)
    obtain ⟨k, hk⟩ := List.mem_iff_getElem?.mp hq
    have := W.now k q hk
    rw [if_pos (List.getElem?_eq_some_iff.mp hk).1] at this
    exact this.mv fun o e => up _ o (D.iz q hq).1 e
end
end SF

/-! SL65: zip of any number of things: its other ways. -/
namespace SF
section
open PySem
open PySem.Sem (wp)
variable {prog : Program} {w : World} {A : Around} {E : Value → Shared → Prop} {s : Shared}
variable {z TI TO : Addr} {q0 : ZQ} {qs : List ZQ} {i : Nat} {ws vals : List Value} {f0 : Value} {f1 : Bool}
/-- the walk on its way, the tuple being there still -/
structure ZH (s0 : Heap) (z TI TO : Addr) (T : Addr) (qs : List ZQ) (i j : Nat) (h : Heap) : Prop where
  hz : IsZF h z TI TO (rawInt T) true
  now : ∀ (k : Nat) (q : ZQ), qs[k]? = some q → ItK q.t h q.it q.l (if k < j then i + 1 else i)
  rest : ∀ c o, c ≠ z → (∀ q ∈ qs, c ≠ q.it) → s0.get? c = some o → h.get? c = some o
  size : h.objs.size = s0.objs.size
theorem zipAH_item {Q : Value → Shared → Prop} (D : ZA z TI TO qs) {T : Addr} {oT : Obj} (hz : IsZF s.heap z TI TO (rawInt T) f1) (hT : s.heap.get? T = some oT)
    (hTI : IsTup s.heap TI (qs.map fun q => .ref q.it)) (hn : 0 < qs.length) (hl : qs.length ≤ 100)
    (hi : ∀ q ∈ qs, ItK q.t s.heap q.it q.l i) (hv : vals.length = qs.length) (hx : ∀ (k : Nat) (q : ZQ), qs[k]? = some q → ∃ xs v, SqK q.t s.heap q.l xs ∧ xs[i]? = some v ∧ vals[k]? = some v)
    (hQ : ∀ h', IsZF h' z TI TO (rawInt T) true → (∀ q ∈ qs, ItK q.t h' q.it q.l (i + 1)) → IsTup h' s.heap.objs.size vals → h'.objs.size = s.heap.objs.size + 1 → (∀ c o, c ≠ z → (∀ q ∈ qs, c ≠ q.it) → s.heap.get? c = some o → h'.get? c = some o) → Q (.ref s.heap.objs.size) { s with heap := h' }) :
    wpAny (model prog w) A (Builtin.«zip.__next__» ⟨[.ref z], []⟩) (fun fin s' => ∃ v, fin = .done (.ret v) ∧ Q v s') E s := by
  have b : (100 : Nat) ≤ sizeLine := by decide
  show wpAny _ _ (field (.ref z) 2 >>= _) _ _ _
  refine wpAny_bind (wpAny_field hz rfl (x := .bool false) rfl ?_); show wpAny _ _ (field (.ref z) 3 >>= _) _ _ _
  refine wpAny_bind (wpAny_field hz rfl (x := .ref TI) rfl (wpAny_bind (wpAny_seqItems hTI rfl ?_)))
  have ne : ((qs.map fun q => Value.ref q.it).toArray.isEmpty) = false := by
    cases qs with
    | nil => simp at hn
    | cons q qs => rfl
  simp only [ne]
  show wpAny _ _ (Builtin.SmallTypes.ownedTupleIsFree (.ref z) >>= _) _ _ _
  refine wpAny_bind (wpAny_tupleHeld_zip hz hT fun g1 hz1 hs1 => ?_); simp only [Bool.false_eq_true, if_false]
  have W1 : ZH s.heap z TI TO T qs i 0 g1 := ⟨hz1, fun k q hk => by
    have := hi q (List.mem_of_getElem? hk)
    simp only [Nat.not_lt_zero, if_false]
    exact this.ext hs1.extBut (D.iz q (List.mem_of_getElem? hk)).1, fun c o c1 _ q => hs1.extBut _ _ c1 q, hs1.1⟩
  refine wpAny_bind ?_
  rw [← Array.forIn_toList]
  refine wpAny_forIn_list _ (fun rest r s' => r.1 = none ∧ ∃ j h', s' = { s with heap := h' } ∧ rest = (qs.drop j).map (fun q => Value.ref q.it) ∧ j ≤ qs.length ∧ r.2 = (vals.take j).toArray ∧ ZH s.heap z TI TO T qs i j h') _ ?_ ?_ _ _ ⟨rfl, 0, g1, rfl, rfl, Nat.zero_le _, rfl, W1⟩
  · intro x rest r s' hI
    obtain ⟨r1, r2⟩ := r
    obtain ⟨hr, j, g2, rfl, e, hj, hr2, W⟩ := hI
    cases hr
    cases hr2
    cases hq : qs[j]? with
    | none => rw [List.drop_eq_nil_of_le (List.getElem?_eq_none_iff.mp hq)] at e; cases e
    | some q =>
      rw [drop_cons' hq, List.map_cons] at e
      cases e
      have qm : q ∈ qs := List.mem_of_getElem? hq
      obtain ⟨xs, v, hs, hxv, hvv⟩ := hx j q hq
      have it0 := W.now j q hq
      simp only [Nat.lt_irrefl, if_false] at it0
      refine wpAny_bind (wpAny_holding ?_); show wpAny _ _ (Builtin.SmallTypes.nextOf (.ref q.it) >>= _) _ _ _
      refine wpAny_bind (nextK_item (s := { s with heap := g2 }) it0 (hs.keep fun o ho => W.rest _ o (D.lz q qm).1 (fun p hp => (D.lz q qm).2.2 p hp) ho) hxv fun g3 h3 hs3 => wpAny_pure (wpAny_pure ?_))
      have jl : j < qs.length := (List.getElem?_eq_some_iff.mp hq).1
      refine ⟨rfl, j + 1, g3, rfl, rfl, jl, ?_, ?_⟩
      · show (vals.take j).toArray.push v = _
        rw [List.take_add_one, hvv]
        simp
      refine ⟨hs3.extBut _ _ (D.iz q qm).1.symm W.hz, fun k p hk => ?_, fun c o c1 c3 h => hs3.extBut _ _ (c3 q qm) (W.rest c o c1 c3 h), ?_⟩
      · by_cases ek : k = j
        · subst ek
          rw [hq] at hk; cases hk
          rw [if_pos (Nat.lt_succ_self k)]
          exact h3
        · have nq : p.it ≠ q.it := fun h => ek (D.one k j p q hk hq h)
          have := W.now k p hk
          have : ItK p.t g3 p.it p.l (if k < j then i + 1 else i) := this.ext hs3.extBut nq
          rw [show (if k < j + 1 then i + 1 else i) = (if k < j then i + 1 else i) by split <;> split <;> omega]
          exact this
      · show g3.objs.size = _
        rw [hs3.1, W.size]
  · intro r s' hI
    obtain ⟨r1, r2⟩ := r
    obtain ⟨hr, j, g3, rfl, e, hj, hr2, W⟩ := hI
    cases hr
    cases hr2
    have ej : j = qs.length := by
      refine Nat.le_antisymm hj (Nat.le_of_not_lt fun h => ?_)
      rw [drop_cons' (List.getElem?_eq_getElem h)] at e
      cases e
    subst ej
    rw [List.take_of_length_le (by omega)]
    show wpAny _ _ (newTuple vals >>= _) _ _ _
    refine wpAny_bind (wpAny_newTuple (s := { s with heap := g3 }) ?_ (by show vals.length ≤ _; omega))
    have sz : g3.objs.size = s.heap.objs.size := W.size
    refine wpAny_pure ⟨_, rfl, ?_⟩
    show Q (.ref g3.objs.size) _
    have hp : IsTup (g3.push { cls := .type "tuple", data := .seq vals.toArray }) g3.objs.size vals := Heap.get?_push_size _ rfl
    have s4 : (g3.push { cls := .type "tuple", data := .seq vals.toArray }).objs.size = g3.objs.size + 1 := Heap.size_push ..
    rw [sz] at hp s4 ⊢
    refine hQ _ (Heap.get?_push_of_some _ W.hz) (fun q hq => ?_) hp s4 fun c o c1 c3 e => Heap.get?_push_of_some _ (W.rest c o c1 c3 e)
    obtain ⟨k, hk⟩ := List.mem_iff_getElem?.mp hq
    have := W.now k q hk
    rw [if_pos (List.getElem?_eq_some_iff.mp hk).1] at this
    exact this.mv fun o e => Heap.get?_push_of_some _ e
/-! the end: the first thing has no more -/
theorem zipAF_end {Q : Fin → Shared → Prop} (hh : A.handled = none) (D : ZA z TI TO (q0 :: qs)) (hz : IsZF s.heap z TI TO f0 f1) (hfr : ∀ R : Bool → Shared → Prop, R true s → wpAny (model prog w) A (Builtin.SmallTypes.ownedTupleIsFree (.ref z)) R E s)
    (hTI : IsTup s.heap TI ((q0 :: qs).map fun q => .ref q.it)) {xs : Array Value} (h1 : ItK q0.t s.heap q0.it q0.l i) (hl1 : SqK q0.t s.heap q0.l xs) (hend : xs[i]? = none)
    (hE : ∀ h' e, (∀ c o, c ≠ z → c ≠ q0.it → s.heap.get? c = some o → h'.get? c = some o) → (∃ o, h'.get? e = some o ∧ o.cls = .type "StopIteration") → E (.ref e) { s with heap := h' }) : wpAny (model prog w) A (Builtin.«zip.__next__» ⟨[.ref z], []⟩) Q E s := by
  have q0m : q0 ∈ q0 :: qs := by simp
  show wpAny _ _ (field (.ref z) 2 >>= _) _ _ _
  refine wpAny_bind (wpAny_field hz rfl (x := .bool false) rfl ?_); show wpAny _ _ (field (.ref z) 3 >>= _) _ _ _
  refine wpAny_bind (wpAny_field hz rfl (x := .ref TI) rfl (wpAny_bind (wpAny_seqItems hTI rfl ?_)))
  have ne : (((q0 :: qs).map fun q => Value.ref q.it).toArray.isEmpty) = false := rfl
  simp only [ne]
  show wpAny _ _ (Builtin.SmallTypes.ownedTupleIsFree (.ref z) >>= _) _ _ _
  refine wpAny_bind (hfr _ ?_); simp only [if_true]
  refine wpAny_bind (wpAny_rule (wpAny_bind (wpAny_field hz rfl (x := .ref TO) rfl (wpAny_bind (wpAny_setField_rec hz (by simp) fun g1 hz1 hs1 => ?_)))))
  have hz1 : IsZF g1 z TI TO .ellipsis f1 := hz1
  refine wpAny_bind ?_; simp only [List.map_cons, List.zipIdx_cons, List.forIn_cons]
  refine wpAny_bind (wpAny_bind (wpAny_onRaise ?_)); show wpAny _ _ (Builtin.SmallTypes.nextOf (.ref q0.it) >>= _) _ _ _
  refine wpAny_bind (nextK_end hh (h1.ext hs1.extBut (D.iz q0 q0m).1) (hl1.ext hs1.extBut (D.lz q0 q0m).1) hend fun g2 e hs2 he => ?_)
  obtain ⟨oe, hoe, hce⟩ := he
  have hz2 : IsZF g2 z TI TO .ellipsis f1 := hs2 _ _ (D.iz q0 q0m).1.symm hz1
  have ez : e ≠ z := fun q => by subst q; rw [hz2] at hoe; cases hoe; simp at hce
  exact wpAny_setField_rec hz2 (by simp) fun g3 _ hs3 => hE g3 e (fun c o c1 c3 q => hs3.extBut _ _ c1 (hs2 _ _ c3 (hs1.extBut _ _ c1 q))) ⟨oe, hs3.extBut _ _ ez hoe, hce⟩
theorem zipAH_end {Q : Fin → Shared → Prop} (hh : A.handled = none) (D : ZA z TI TO (q0 :: qs)) {T : Addr} {oT : Obj} (hz : IsZF s.heap z TI TO (rawInt T) f1) (hT : s.heap.get? T = some oT)
    (hTI : IsTup s.heap TI ((q0 :: qs).map fun q => .ref q.it)) {xs : Array Value} (h1 : ItK q0.t s.heap q0.it q0.l i) (hl1 : SqK q0.t s.heap q0.l xs) (hend : xs[i]? = none)
    (hE : ∀ h' e, (∀ c o, c ≠ z → c ≠ q0.it → s.heap.get? c = some o → h'.get? c = some o) → (∃ o, h'.get? e = some o ∧ o.cls = .type "StopIteration") → E (.ref e) { s with heap := h' }) : wpAny (model prog w) A (Builtin.«zip.__next__» ⟨[.ref z], []⟩) Q E s := by
  have q0m : q0 ∈ q0 :: qs := by simp
  show wpAny _ _ (field (.ref z) 2 >>= _) _ _ _
  refine wpAny_bind (wpAny_field hz rfl (x := .bool false) rfl ?_); show wpAny _ _ (field (.ref z) 3 >>= _) _ _ _
  refine wpAny_bind (wpAny_field hz rfl (x := .ref TI) rfl (wpAny_bind (wpAny_seqItems hTI rfl ?_)))
  have ne : (((q0 :: qs).map fun q => Value.ref q.it).toArray.isEmpty) = false := rfl
  simp only [ne]
  show wpAny _ _ (Builtin.SmallTypes.ownedTupleIsFree (.ref z) >>= _) _ _ _
  refine wpAny_bind (wpAny_tupleHeld_zip hz hT fun g1 hz1 hs1 => ?_); simp only [Bool.false_eq_true, if_false]
  refine wpAny_bind ?_; rw [← Array.forIn_toList]; simp only [List.map_cons, List.forIn_cons]
  refine wpAny_bind (wpAny_bind (wpAny_holding ?_)); show wpAny _ _ (Builtin.SmallTypes.nextOf (.ref q0.it) >>= _) _ _ _
  exact wpAny_bind (nextK_end (s := { s with heap := g1 }) hh (h1.ext hs1.extBut (D.iz q0 q0m).1) (hl1.ext hs1.extBut (D.lz q0 q0m).1) hend fun g2 e hs2 he => hE g2 e (fun c o c1 c3 q => hs2 _ _ c3 (hs1.extBut _ _ c1 q)) he)
theorem zipA_item {Q : Value → Shared → Prop} (D : ZA z TI TO qs) (hz : IsZF s.heap z TI TO f0 f1) (hf : Mk0 f0)
    (hTI : IsTup s.heap TI (qs.map fun q => .ref q.it)) (hTO : ∃ ws, IsTup s.heap TO ws ∧ ws.length = qs.length) (hn : 0 < qs.length) (hl : qs.length ≤ 100)
    (hi : ∀ q ∈ qs, ItK q.t s.heap q.it q.l i) (hv : vals.length = qs.length) (hx : ∀ (k : Nat) (q : ZQ), qs[k]? = some q → ∃ xs v, SqK q.t s.heap q.l xs ∧ xs[i]? = some v ∧ vals[k]? = some v)
    (hQ : ∀ h' g0 g1, IsZF h' z TI TO g0 g1 → Mk0 g0 → (∃ ws, IsTup h' TO ws ∧ ws.length = qs.length) → (∀ q ∈ qs, ItK q.t h' q.it q.l (i + 1)) → IsTup h' s.heap.objs.size vals → h'.objs.size = s.heap.objs.size + 1 → (∀ c o, c ≠ z → c ≠ TO → (∀ q ∈ qs, c ≠ q.it) → s.heap.get? c = some o → h'.get? c = some o) → Q (.ref s.heap.objs.size) { s with heap := h' }) :
    wpAny (model prog w) A (Builtin.«zip.__next__» ⟨[.ref z], []⟩) (fun fin s' => ∃ v, fin = .done (.ret v) ∧ Q v s') E s := by
  obtain ⟨ws, hTO, hw⟩ := hTO
  have way : (∀ R : Bool → Shared → Prop, R true s → wpAny (model prog w) A (Builtin.SmallTypes.ownedTupleIsFree (.ref z)) R E s) → wpAny (model prog w) A (Builtin.«zip.__next__» ⟨[.ref z], []⟩) (fun fin s' => ∃ v, fin = .done (.ret v) ∧ Q v s') E s := fun fr =>
    zipAF_item D hz fr hTI hTO hw hn hl hi hv hx fun g b1 b2 b3 b4 b5 b6 => hQ g _ _ b1 (.inr ⟨_, rfl⟩) ⟨_, b2, hv⟩ b3 b4 b5 b6
  rcases hf with rfl | ⟨T, rfl⟩
  · exact way (free_none hz)
  · cases e : s.heap.get? T with
    | none => exact way (free_gone hz e)
    | some oT => exact zipAH_item D hz e hTI hn hl hi hv hx fun g b1 b3 b4 b5 b6 => hQ g _ _ b1 (.inr ⟨_, rfl⟩) ⟨_, b6 _ _ D.TOz (fun q hq h => (D.iz q hq).2.2 h.symm) hTO, hw⟩ b3 b4 b5 fun c o c1 _ c3 q => b6 c o c1 c3 q
theorem zipA_end {Q : Fin → Shared → Prop} (hh : A.handled = none) (D : ZA z TI TO (q0 :: qs)) (hz : IsZF s.heap z TI TO f0 f1) (hf : Mk0 f0)
    (hTI : IsTup s.heap TI ((q0 :: qs).map fun q => .ref q.it)) {xs : Array Value} (h1 : ItK q0.t s.heap q0.it q0.l i) (hl1 : SqK q0.t s.heap q0.l xs) (hend : xs[i]? = none)
    (hE : ∀ h' e, (∀ c o, c ≠ z → c ≠ q0.it → s.heap.get? c = some o → h'.get? c = some o) → (∃ o, h'.get? e = some o ∧ o.cls = .type "StopIteration") → E (.ref e) { s with heap := h' }) : wpAny (model prog w) A (Builtin.«zip.__next__» ⟨[.ref z], []⟩) Q E s := by
  rcases hf with rfl | ⟨T, rfl⟩
  · exact zipAF_end hh D hz (free_none hz) hTI h1 hl1 hend hE
  · cases e : s.heap.get? T with
    | none => exact zipAF_end hh D hz (free_gone hz e) hTI h1 hl1 hend hE
    | some oT => exact zipAH_end hh D hz e hTI h1 hl1 hend hE
theorem pyNextA_item {Q : Option Value → Shared → Prop} (D : ZA z TI TO qs) (hz : IsZF s.heap z TI TO f0 f1) (hf : Mk0 f0)
    (hTI : IsTup s.heap TI (qs.map fun q => .ref q.it)) (hTO : ∃ ws, IsTup s.heap TO ws ∧ ws.length = qs.length) (hn : 0 < qs.length) (hl : qs.length ≤ 100)
    (hi : ∀ q ∈ qs, ItK q.t s.heap q.it q.l i) (hv : vals.length = qs.length) (hx : ∀ (k : Nat) (q : ZQ), qs[k]? = some q → ∃ xs v, SqK q.t s.heap q.l xs ∧ xs[i]? = some v ∧ vals[k]? = some v)
    (hQ : ∀ h' g0 g1, IsZF h' z TI TO g0 g1 → Mk0 g0 → (∃ ws, IsTup h' TO ws ∧ ws.length = qs.length) → (∀ q ∈ qs, ItK q.t h' q.it q.l (i + 1)) → IsTup h' s.heap.objs.size vals → h'.objs.size = s.heap.objs.size + 1 → (∀ c o, c ≠ z → c ≠ TO → (∀ q ∈ qs, c ≠ q.it) → s.heap.get? c = some o → h'.get? c = some o) → Q (some (.ref s.heap.objs.size)) { s with heap := h' }) :
    wpAny (model prog w) A (pyNext (.ref z)) Q E s := by
  have hT : s.TypeIs (.ref z) "zip" := ⟨_, hz, rfl⟩
  unfold pyNext
  refine wpAny_bind (wpAny_attempt (wpAny_callSpecial?_slot (name := Str.ofString "__next__") hT F.slot_zip_next ?_))
  exact wpAny_call_entry F.slot_zip_next hT F.entry_zip_next (zipA_item D hz hf hTI hTO hn hl hi hv hx fun g g0 g1 b1 b0 b2 b3 b4 b5 b6 => wpAny_pure (hQ g g0 g1 b1 b0 b2 b3 b4 b5 b6)) (F.args_zip_next_1 _)
theorem pyNextA_end {Q : Option Value → Shared → Prop} (hh : A.handled = none) (D : ZA z TI TO (q0 :: qs)) (hz : IsZF s.heap z TI TO f0 f1) (hf : Mk0 f0)
    (hTI : IsTup s.heap TI ((q0 :: qs).map fun q => .ref q.it)) {xs : Array Value} (h1 : ItK q0.t s.heap q0.it q0.l i) (hl1 : SqK q0.t s.heap q0.l xs) (hend : xs[i]? = none)
    (hQ : ∀ h', (∀ c o, c ≠ z → c ≠ q0.it → s.heap.get? c = some o → h'.get? c = some o) → Q none { s with heap := h' }) : wpAny (model prog w) A (pyNext (.ref z)) Q E s := by
  have hT : s.TypeIs (.ref z) "zip" := ⟨_, hz, rfl⟩
  unfold pyNext
  refine wpAny_bind (wpAny_attempt (wpAny_callSpecial?_slot (name := Str.ofString "__next__") hT F.slot_zip_next ?_))
  refine wpAny_call_entry F.slot_zip_next hT F.entry_zip_next (zipA_end hh D hz hf hTI h1 hl1 hend fun g e hk he => ?_) (F.args_zip_next_1 _)
  obtain ⟨o, ho, hc⟩ := he
  exact wpAny_bind (wpAny_isInstance (T := "StopIteration") (b := true) ⟨o, ho, hc⟩ isSubtype_stop (wpAny_pure (hQ _ hk)))
/-! making it -/
abbrev itObj (t : Bool) (l : Addr) : Obj := match t with
  | true => { cls := .type "tuple_iterator", data := .fields #[.ref l, .int 0 0] }
  | false => { cls := .type "list_iterator", data := .fields #[.ref l, .int 0 0] }
theorem iterK {t : Bool} {l : Addr} {xs : Array Value} {Q : Value → Shared → Prop} (hl : SqK t s.heap l xs) (hQ : Q (.ref s.heap.objs.size) { s with heap := s.heap.push (itObj t l) }) : wpAny (model prog w) A (pyIter (.ref l)) Q E s := by
  cases t
  · exact wpAny_pyIter_list hl hQ
  · exact wpAny_pyIter_tuple hl hQ
/-- the walkers: made one by one from n on -/
def zqs : Nat → List (Bool × Addr) → List ZQ
  | _, [] => []
  | n, p :: ps => ⟨p.1, n, p.2⟩ :: zqs (n + 1) ps
theorem zqs_len : ∀ (n : Nat) (ps : List (Bool × Addr)), (zqs n ps).length = ps.length
  | _, [] => rfl
  | n, p :: ps => by rw [zqs, List.length_cons, zqs_len, List.length_cons]
theorem zqs_get : ∀ (n : Nat) (ps : List (Bool × Addr)) (k : Nat), (zqs n ps)[k]? = (ps[k]?).map fun p => ⟨p.1, n + k, p.2⟩
  | _, [], k => by simp [zqs]
  | n, p :: ps, 0 => by simp [zqs]
  | n, p :: ps, k + 1 => by
    rw [zqs, List.getElem?_cons_succ, zqs_get, List.getElem?_cons_succ, show n + 1 + k = n + (k + 1) by omega]
theorem zqs_mem {n : Nat} {ps : List (Bool × Addr)} {q : ZQ} (h : q ∈ zqs n ps) : ∃ (k : Nat) (p : Bool × Addr), ps[k]? = some p ∧ q = ⟨p.1, n + k, p.2⟩ := by
  obtain ⟨k, hk⟩ := List.mem_iff_getElem?.mp h
  rw [zqs_get] at hk
  cases e : ps[k]? with
  | none => rw [e] at hk; cases hk
  | some p => rw [e] at hk; cases hk; exact ⟨k, p, e, rfl⟩
theorem iterAllK {ps : List (Bool × Addr)} {Q : List Value → Shared → Prop} (hp : ∀ p ∈ ps, ∃ xs, SqK p.1 s.heap p.2 xs)
    (hQ : ∀ h', (∀ q ∈ zqs s.heap.objs.size ps, ItK q.t h' q.it q.l 0) → h'.objs.size = s.heap.objs.size + ps.length → (∀ c o, s.heap.get? c = some o → h'.get? c = some o) → Q ((zqs s.heap.objs.size ps).map fun q => .ref q.it) { s with heap := h' }) :
    wpAny (model prog w) A (Builtin.SmallTypes.iterAll (ps.map fun p => .ref p.2)) Q E s := by
  unfold Builtin.SmallTypes.iterAll
  refine wpAny_bind (wpAny_forIn_list _ (fun rest r s' => ∃ j h', s' = { s with heap := h' } ∧ j ≤ ps.length ∧ rest = (ps.drop j).map (fun p => Value.ref p.2) ∧ r = (((zqs s.heap.objs.size ps).take j).map fun q => Value.ref q.it).toArray ∧ (∀ (k : Nat) q, k < j → (zqs s.heap.objs.size ps)[k]? = some q → ItK q.t h' q.it q.l 0) ∧ h'.objs.size = s.heap.objs.size + j ∧ (∀ c o, s.heap.get? c = some o → h'.get? c = some o)) _ ?_ ?_ _ _ ⟨0, s.heap, rfl, Nat.zero_le _, rfl, rfl, fun k q hk => absurd hk (Nat.not_lt_zero _), rfl, fun c o h => h⟩)
  · intro x rest r s' hI
    obtain ⟨j, g, rfl, hj, e, rfl, hi, hz, hk⟩ := hI
    cases hq : ps[j]? with
    | none => rw [List.drop_eq_nil_of_le (List.getElem?_eq_none_iff.mp hq)] at e; cases e
    | some p =>
      rw [drop_cons' hq, List.map_cons] at e
      cases e
      obtain ⟨xs, hs⟩ := hp p (List.mem_of_getElem? hq)
      refine wpAny_bind (wpAny_holding (iterK (s := { s with heap := g }) (hs.keep fun o ho => hk _ o ho) (wpAny_pure ?_)))
      have jl : j < ps.length := (List.getElem?_eq_some_iff.mp hq).1
      have gj : (zqs s.heap.objs.size ps)[j]? = some ⟨p.1, s.heap.objs.size + j, p.2⟩ := by rw [zqs_get, hq]; rfl
      refine ⟨j + 1, _, rfl, jl, rfl, ?_, fun k q hkj hkq => ?_, ?_, fun c o h => Heap.get?_push_of_some _ (hk c o h)⟩
      · show (((zqs s.heap.objs.size ps).take j).map fun q => Value.ref q.it).toArray.push (.ref g.objs.size) = _
        rw [List.take_add_one, gj, hz]
        simp
      · by_cases ek : k = j
        · subst ek
          rw [gj] at hkq
          cases hkq
          have gp : (g.push (itObj p.1 p.2)).get? g.objs.size = some (itObj p.1 p.2) := Heap.get?_push_size _ (by cases p.1 <;> rfl)
          rw [hz] at gp
          obtain ⟨t, l⟩ := p
          cases t
          · exact ⟨_, gp, rfl, rfl⟩
          · exact ⟨_, gp, rfl, rfl⟩
        · exact (hi k q (by omega) hkq).mv fun o e => Heap.get?_push_of_some _ e
      · show (g.push _).objs.size = _
        rw [Heap.size_push, hz]
        omega
  · intro r s' hI
    obtain ⟨j, g, rfl, hj, e, rfl, hi, hz, hk⟩ := hI
    have ej : j = ps.length := by
      refine Nat.le_antisymm hj (Nat.le_of_not_lt fun h => ?_)
      rw [drop_cons' (List.getElem?_eq_getElem h)] at e
      cases e
    subst ej
    rw [List.take_of_length_le (by rw [zqs_len]; exact Nat.le_refl _)]
    refine wpAny_pure (hQ g (fun q hq => ?_) hz hk)
    obtain ⟨k, hkq⟩ := List.mem_iff_getElem?.mp hq
    have := (List.getElem?_eq_some_iff.mp hkq).1
    rw [zqs_len] at this
    exact hi k q this hkq
end
end SF

/-! SL66: the call zip(*xs). -/
namespace SF
section
open PySem
open PySem.Sem (wp)
theorem typeCall_zipA (args : List Value) : checkTypeCall "zip" ⟨args, []⟩ = pure () := by kernel_rfl
theorem newCall_zipA : ∀ args : List Value, args.length ≤ 24 → checkBuiltinCall "zip.__new__" ⟨.type "zip" :: args, []⟩ = pure ()
  | [], _ => by kernel_rfl
  | [_], _ => by kernel_rfl
  | [_, _], _ => by kernel_rfl
  | [_, _, _], _ => by kernel_rfl
  | [_, _, _, _], _ => by kernel_rfl
  | [_, _, _, _, _], _ => by kernel_rfl
  | [_, _, _, _, _, _], _ => by kernel_rfl
  | [_, _, _, _, _, _, _], _ => by kernel_rfl
  | [_, _, _, _, _, _, _, _], _ => by kernel_rfl
  | [_, _, _, _, _, _, _, _, _], _ => by kernel_rfl
  | [_, _, _, _, _, _, _, _, _, _], _ => by kernel_rfl
  | [_, _, _, _, _, _, _, _, _, _, _], _ => by kernel_rfl
  | [_, _, _, _, _, _, _, _, _, _, _, _], _ => by kernel_rfl
  | [_, _, _, _, _, _, _, _, _, _, _, _, _], _ => by kernel_rfl
  | [_, _, _, _, _, _, _, _, _, _, _, _, _, _], _ => by kernel_rfl
  | [_, _, _, _, _, _, _, _, _, _, _, _, _, _, _], _ => by kernel_rfl
  | [_, _, _, _, _, _, _, _, _, _, _, _, _, _, _, _], _ => by kernel_rfl
  | [_, _, _, _, _, _, _, _, _, _, _, _, _, _, _, _, _], _ => by kernel_rfl
  | [_, _, _, _, _, _, _, _, _, _, _, _, _, _, _, _, _, _], _ => by kernel_rfl
  | [_, _, _, _, _, _, _, _, _, _, _, _, _, _, _, _, _, _, _], _ => by kernel_rfl
  | [_, _, _, _, _, _, _, _, _, _, _, _, _, _, _, _, _, _, _, _], _ => by kernel_rfl
  | [_, _, _, _, _, _, _, _, _, _, _, _, _, _, _, _, _, _, _, _, _], _ => by kernel_rfl
  | [_, _, _, _, _, _, _, _, _, _, _, _, _, _, _, _, _, _, _, _, _, _], _ => by kernel_rfl
  | [_, _, _, _, _, _, _, _, _, _, _, _, _, _, _, _, _, _, _, _, _, _, _], _ => by kernel_rfl
  | [_, _, _, _, _, _, _, _, _, _, _, _, _, _, _, _, _, _, _, _, _, _, _, _], _ => by kernel_rfl
  | _ :: _ :: _ :: _ :: _ :: _ :: _ :: _ :: _ :: _ :: _ :: _ :: _ :: _ :: _ :: _ :: _ :: _ :: _ :: _ :: _ :: _ :: _ :: _ :: _ :: _, h => by simp at h
theorem args_object_initA (obj : Value) (args : List Value) : argsOk "object.__init__" ⟨obj :: args, []⟩ := by
  unfold argsOk; rw [signature?_of (id := "object.__init__") (n := ['_', '_', 't', 'i', 'n', 'i', '_', '_']) (o := ['t', 'c', 'e', 'j', 'b', 'o']) (by kernel_rfl) F.owner_object]; kernel_rfl
/-- what making a zip does to the heap -/
def ZNew (s0 : Heap) (ps : List (Bool × Addr)) (h' : Heap) : Prop :=
  IsZF h' (s0.objs.size + ps.length + 2) (s0.objs.size + ps.length) (s0.objs.size + ps.length + 1) .none false ∧ IsTup h' (s0.objs.size + ps.length) ((zqs s0.objs.size ps).map fun q => .ref q.it) ∧ IsTup h' (s0.objs.size + ps.length + 1) ((zqs s0.objs.size ps).map fun _ => .none) ∧ (∀ q ∈ zqs s0.objs.size ps, ItK q.t h' q.it q.l 0) ∧ h'.objs.size = s0.objs.size + ps.length + 3 ∧ ∀ c o, s0.get? c = some o → h'.get? c = some o
theorem meets_zipA_new (ps : List (Bool × Addr)) (hl : ps.length ≤ 24) :
    Meets (Builtin.«zip.__new__» ⟨.type "zip" :: ps.map fun p => .ref p.2, []⟩) (fun _ R s => (∀ p ∈ ps, ∃ xs, SqK p.1 s.heap p.2 xs) ∧
      ∀ h', ZNew s.heap ps h' → R (.ok (.ret (.ref (s.heap.objs.size + ps.length + 2)))) { s with heap := h' }) :=
  .of_wp fun prog w A R s h => by
    have b : (100 : Nat) ≤ sizeLine := by decide
    obtain ⟨hp, h⟩ := h
    have hsub := sub_zip
    unfold Builtin.«zip.__new__» Builtin.SmallTypes.newClass
    have hl1 : ((zqs s.heap.objs.size ps).map fun q => Value.ref q.it).length ≤ sizeLine := by rw [List.length_map, zqs_len]; omega
    have hl2 : (((zqs s.heap.objs.size ps).map fun q => Value.ref q.it).map fun _ => Value.none).length ≤ sizeLine := by rw [List.length_map]; exact hl1
    have fin : ∀ g, (∀ q ∈ zqs s.heap.objs.size ps, ItK q.t g q.it q.l 0) → g.objs.size = s.heap.objs.size + ps.length → (∀ c o, s.heap.get? c = some o → g.get? c = some o) →
        ZNew s.heap ps (((g.push { cls := .type "tuple", data := .seq ((zqs s.heap.objs.size ps).map fun q => Value.ref q.it).toArray }).push { cls := .type "tuple", data := .seq (((zqs s.heap.objs.size ps).map fun q => Value.ref q.it).map fun _ => Value.none).toArray }).push { cls := .type "zip", data := .fields #[.none, .bool false, .bool false, .ref g.objs.size, .ref (g.objs.size + 1)] }) := fun g hi hz hk => by
      have z1 : (g.push { cls := .type "tuple", data := .seq ((zqs s.heap.objs.size ps).map fun q => Value.ref q.it).toArray }).objs.size = s.heap.objs.size + ps.length + 1 := by rw [Heap.size_push, hz]
      have z2 : ((g.push { cls := .type "tuple", data := .seq ((zqs s.heap.objs.size ps).map fun q => Value.ref q.it).toArray }).push { cls := .type "tuple", data := .seq (((zqs s.heap.objs.size ps).map fun q => Value.ref q.it).map fun _ => Value.none).toArray }).objs.size = s.heap.objs.size + ps.length + 2 := by rw [Heap.size_push, z1]
      refine ⟨?_, ?_, ?_, fun q hq => (hi q hq).mv fun o e => Heap.get?_push_of_some _ (Heap.get?_push_of_some _ (Heap.get?_push_of_some _ e)), by rw [Heap.size_push, z2], fun c o e => Heap.get?_push_of_some _ (Heap.get?_push_of_some _ (Heap.get?_push_of_some _ (hk c o e)))⟩
      · rw [← z2, hz]; exact Heap.get?_push_size _ rfl
      · rw [← hz]; exact Heap.get?_push_of_some _ (Heap.get?_push_of_some _ (Heap.get?_push_size _ rfl))
      · rw [← z1]
        have e : (((zqs s.heap.objs.size ps).map fun q => Value.ref q.it).map fun _ => Value.none) = (zqs s.heap.objs.size ps).map fun _ => Value.none := by rw [List.map_map]; rfl
        have := Heap.get?_push_size (g.push { cls := .type "tuple", data := .seq ((zqs s.heap.objs.size ps).map fun q => Value.ref q.it).toArray }) (o := { cls := .type "tuple", data := .seq (((zqs s.heap.objs.size ps).map fun q => Value.ref q.it).map fun _ => Value.none).toArray }) rfl
        rw [e] at this ⊢
        exact Heap.get?_push_of_some _ this
    refine wpAny_bind ?_
    wp_walk using (iterAllK hp)
    intro g hi hz hk
    refine wpAny_bind (wpAny_newTuple ?_ hl1)
    refine wpAny_bind (wpAny_newTuple ?_ hl2)
    refine wpAny_bind ?_
    unfold Builtin.SmallTypes.newRecord
    refine wpAny_newObj_type (wpAny_pure ⟨_, rfl, ?_⟩) (by show (5 : Nat) ≤ sizeLine + 2; decide)
    have := h _ (fin g hi hz hk)
    rw [Heap.size_push, Heap.size_push, hz]
    rw [hz] at this
    exact this
theorem call_zipA {prog : Program} {w : World} {A : Around} {E : Value → Shared → Prop} {s : Shared} {ps : List (Bool × Addr)} {Q : Value → Shared → Prop} (hl : ps.length ≤ 24) (hp : ∀ p ∈ ps, ∃ xs, SqK p.1 s.heap p.2 xs)
    (h : ∀ h', ZNew s.heap ps h' → Q (.ref (s.heap.objs.size + ps.length + 2)) { s with heap := h' }) : wpAny (model prog w) A (call (.type "zip") (ps.map fun p => .ref p.2)) Q E s := by
  refine callType_new F.called_zip (by decide) (typeCall_zipA _) (newCall_zipA _ (by rw [List.length_map]; exact hl)) (fun obj => args_object_initA obj _) F.entry_zip_new (meets_zipA_new ps hl) ⟨hp, fun h' zn => ?_⟩
  exact ⟨⟨_, zn.1, rfl⟩, h h' zn⟩
end
end SF

/-! SL67: for x in zip(*xs), over data. -/
namespace SF
open PySem PySem.Spec PyProof.Rows L2
/-- columns, each a tuple of its own -/
def ItzA (K : Fg) (ps : List (Bool × Addr)) : It :=
  ⟨fun i H => ∀ (k : Nat) (p : Bool × Addr), ps[k]? = some p → ∃ xs v, SqV K p.1 H p.2 xs ∧ xs[i]? = some v,
    fun i H v H' => ∃ (T : Addr) (o : Obj) (vs : List V), v = .ref T ∧ H T = none ∧ o.dict = none ∧ H' = upd H T (.frz o (.tup vs)) ∧ vs.length = ps.length ∧ ∀ (k : Nat) (p : Bool × Addr), ps[k]? = some p → ∀ xs, SqV K p.1 H p.2 xs → vs[k]? = xs[i]?,
    fun i H => ∃ p ps', ps = p :: ps' ∧ ∃ xs, SqV K p.1 H p.2 xs ∧ xs.length ≤ i⟩
theorem cols_pick {X : Cx} {pins : List (Addr × Obj)} {σ : L2.St} {H : Hp} {s : Shared} (I : Inv X pins σ H s) {i : Nat} : ∀ {ps : List (Bool × Addr)}, (∀ p ∈ ps, ∃ xs v, SqV X.K p.1 H p.2 xs ∧ xs[i]? = some v) →
    ∃ (vs : List V) (us : List Value), Vals vs us ∧ vs.length = ps.length ∧ us.length = ps.length ∧ (∀ (k : Nat) (p : Bool × Addr), ps[k]? = some p → ∀ xs, SqV X.K p.1 H p.2 xs → vs[k]? = xs[i]?) ∧ ∀ (k : Nat) (p : Bool × Addr), ps[k]? = some p → ∃ its v, SqK p.1 s.heap p.2 its ∧ its[i]? = some v ∧ us[k]? = some v
  | [], _ => ⟨[], [], .nil, rfl, rfl, fun k p h => by simp at h, fun k p h => by simp at h⟩
  | p :: ps, h => by
    obtain ⟨vs, us, r, l1, l2, h1, h2⟩ := cols_pick I (ps := ps) (i := i) fun q hq => h q (List.mem_cons_of_mem _ hq)
    obtain ⟨xs, v, hs, hv⟩ := h p (by simp)
    obtain ⟨its, rv, hk⟩ := sqv_in I hs
    obtain ⟨u, hu, ru⟩ := rv.get hv
    refine ⟨v :: vs, u :: us, .cons ru r, by rw [List.length_cons, l1, List.length_cons], by rw [List.length_cons, l2, List.length_cons], fun k q hq ys hy => ?_, fun k q hq => ?_⟩
    · cases k with
      | zero =>
        cases hq
        rw [sqv_inj I hy hs, hv]
        rfl
      | succ k => exact h1 k q hq ys hy
    · cases k with
      | zero =>
        cases hq
        exact ⟨its.toArray, u, hk, by simpa using hu, rfl⟩
      | succ k => exact h2 k q hq
theorem turn_zipA {P : Program} {w : World} {K : Fg} {nm : Str} {tpos : Pos} {ps : List (Bool × Addr)} {n : Nat} {z TI TO : Addr} (D : ZA z TI TO (zqs n ps)) (h0 : 0 < ps.length) (h1 : ps.length ≤ 100) :
    Turn P w K (.Name nm tpos) (ItzA K ps) (z :: TI :: TO :: (zqs n ps).map (·.it)) z (fun i h => (∃ f0 f1, IsZF h z TI TO f0 f1 ∧ Mk0 f0) ∧ IsTup h TI ((zqs n ps).map fun q => .ref q.it) ∧ (∃ ws, IsTup h TO ws ∧ ws.length = (zqs n ps).length) ∧ ∀ q ∈ zqs n ps, ItK q.t h q.it q.l i) where
  mem := by simp
  obj := fun i h st c hc => by
    obtain ⟨⟨f0, f1, hz, _⟩, hTI, ⟨ws, hTO, _⟩, p1⟩ := st
    rcases List.mem_cons.mp hc with q | hc
    · rw [q]; exact ⟨_, hz, fun v q => nomatch q⟩
    rcases List.mem_cons.mp hc with q | hc
    · rw [q]; exact ⟨_, hTI, fun v q => nomatch q⟩
    rcases List.mem_cons.mp hc with q | hc
    · rw [q]; exact ⟨_, hTO, fun v q => nomatch q⟩
    obtain ⟨q, hq, rfl⟩ := List.mem_map.mp hc
    exact (p1 q hq).ob
  keep := fun i h h' st k => by
    obtain ⟨⟨f0, f1, hz, m⟩, hTI, ⟨ws, hTO, hw⟩, p1⟩ := st
    exact ⟨⟨f0, f1, k z (by simp) _ hz, m⟩, k TI (by simp) _ hTI, ⟨ws, k TO (by simp) _ hTO, hw⟩, fun q hq => (p1 q hq).mv fun o e => k q.it (by simp; right; right; right; exact ⟨q, hq, rfl⟩) o e⟩
  item := by
    intro X hP hw hK hc i pins s σ H E I hf st hg
    subst hP hw hK
    obtain ⟨⟨f0, f1, hz, m0⟩, hTI, hTO, p1⟩ := st
    obtain ⟨vs, us, rv, l1, l2, g1, g2⟩ := cols_pick I (ps := ps) (i := i) fun p hp => by
      obtain ⟨k, hk⟩ := List.mem_iff_getElem?.mp hp
      exact hg k p hk
    have zl : z < s.heap.objs.size := Heap.lt_size hz
    refine pyNextA_item D hz m0 hTI hTO (by rw [zqs_len]; exact h0) (by rw [zqs_len]; exact h1) p1 (vals := us) (by rw [zqs_len]; exact l2) (fun k q hk => ?_) fun g b0 b1 z' m' TO' hi' hT hsz hk => ?_
    · rw [zqs_get] at hk
      cases e : ps[k]? with
      | none => rw [e] at hk; cases hk
      | some p =>
        rw [e] at hk
        cases hk
        exact g2 k p e
    refine ⟨_, rfl, wpAny_pure ?_⟩
    have hT2 : g.get? s.heap.objs.size = some { cls := .type "tuple", data := .seq us.toArray } := hT
    have new : ObjOk X.prog X.w (upd H s.heap.objs.size (.frz { cls := .type "tuple", data := .seq us.toArray } (.tup vs))) g s.heap.objs.size (.frz { cls := .type "tuple", data := .seq us.toArray } (.tup vs)) := ⟨hT2, by show vs.length ≤ sizeLine; rw [sizeLine_eq]; omega, us, rv, ⟨_, hT2, rfl, _, rfl⟩⟩
    have frame : ∀ c o, c ∉ (z :: TI :: TO :: (zqs n ps).map (·.it)) → s.heap.get? c = some o → g.get? c = some o := fun c o hb q => by
      refine hk c o (fun e => hb (by rw [e]; simp)) (fun e => hb (by rw [e]; simp)) (fun p hp e => hb ?_) q
      rw [e]
      simp
      right; right; right
      exact ⟨p, hp, rfl⟩
    have I1 : Inv X pins σ (upd H s.heap.objs.size (.frz { cls := .type "tuple", data := .seq us.toArray } (.tup vs))) { s with heap := g } :=
      I.turnedNew (t' := s.toks) (ch := z :: TI :: TO :: (zqs n ps).map (·.it)) frame hf (Nat.le_refl _) new
    refine ⟨.ref s.heap.objs.size, _, I1, rfl, ⟨_, _, vs, rfl, I.hok.fresh (Nat.le_refl _), rfl, rfl, l1, g1⟩, ⟨⟨b0, b1, z', m'⟩, hk _ _ D.TIz D.TITO (fun p hp e => (D.iz p hp).2.1 e.symm) hTI, TO', hi'⟩, fun c hcm => ?_⟩
    have hlt : c < s.heap.objs.size := by
      rcases List.mem_cons.mp hcm with q | hcm
      · rw [q]; exact zl
      rcases List.mem_cons.mp hcm with q | hcm
      · rw [q]; exact Heap.lt_size hTI
      rcases List.mem_cons.mp hcm with q | hcm
      · obtain ⟨ws, hTO, _⟩ := hTO
        rw [q]; exact Heap.lt_size hTO
      obtain ⟨q, hq, rfl⟩ := List.mem_map.mp hcm
      exact (p1 q hq).lt
    rw [upd_ne (Nat.ne_of_lt hlt)]
    exact (hf c hcm).1
  done := by
    intro X hP hw hK hc i pins s σ H E I hf st hg
    subst hP hw hK
    obtain ⟨⟨f0, f1, hz, m0⟩, hTI, hTO, p1⟩ := st
    obtain ⟨p, ps', rfl, xs, hqx, hend⟩ := hg
    obtain ⟨its, rv, hq⟩ := sqv_in I hqx
    have l1 := rv.length
    have he : its.toArray[i]? = none := by simp; omega
    refine pyNextA_end (I.ok.hd hc) D hz m0 hTI (p1 _ (by simp [zqs])) hq he fun g hk => ⟨rfl, I.turnedL (t' := s.toks) (ch := z :: TI :: TO :: (zqs n (p :: ps')).map (·.it)) (fun c o hb q => hk c o (fun e => hb (by rw [e]; simp)) (fun e => hb (by rw [e]; simp [zqs])) q) hf⟩
  self := fun A i s Q E ⟨⟨f0, f1, hz, _⟩, _⟩ h => iter_zipN hz h
theorem neN {a b : Nat} (h : a ≠ b) : (show Addr from a) ≠ (show Addr from b) := h
theorem zaApart {n : Nat} {ps : List (Bool × Addr)} (hl : ∀ p ∈ ps, p.2 < n) : ZA (n + ps.length + 2) (n + ps.length) (n + ps.length + 1) (zqs n ps) where
  TIz := neN (by omega)
  TOz := neN (by omega)
  TITO := neN (by omega)
  iz := fun q hq => by
    obtain ⟨k, p, e, rfl⟩ := zqs_mem hq
    have hk : k < ps.length := (List.getElem?_eq_some_iff.mp e).1
    exact ⟨neN (a := n + k) (b := n + ps.length + 2) (by omega), neN (a := n + k) (b := n + ps.length) (by omega), neN (a := n + k) (b := n + ps.length + 1) (by omega)⟩
  lz := fun q hq => by
    obtain ⟨k, p, e, rfl⟩ := zqs_mem hq
    have hp : (show Nat from p.2) < n := hl p (List.mem_of_getElem? e)
    refine ⟨neN (a := p.2) (b := n + ps.length + 2) (Nat.ne_of_lt (Nat.lt_of_lt_of_le hp (by omega))), neN (a := p.2) (b := n + ps.length + 1) (Nat.ne_of_lt (Nat.lt_of_lt_of_le hp (by omega))), fun r hr => ?_⟩
    obtain ⟨k', p', e', rfl⟩ := zqs_mem hr
    exact neN (a := p.2) (b := n + k') (Nat.ne_of_lt (Nat.lt_of_lt_of_le hp (by omega)))
  one := fun k k' q q' h h' e => by
    rw [zqs_get] at h h'
    cases e1 : ps[k]? with
    | none => rw [e1] at h; cases h
    | some p =>
      cases e2 : ps[k']? with
      | none => rw [e2] at h'; cases h'
      | some p' =>
        rw [e1] at h
        rw [e2] at h'
        cases h
        cases h'
        have h3 : n + k = n + k' := e
        omega
def iZipS (K : Fg) (te : TE) : TI := fun σ H R => te σ H fun v H1 => ∃ a t ps, v = .ref a ∧ SqV K t H1 a (ps.map fun p : Bool × Addr => .ref p.2) ∧ (∀ p ∈ ps, ∃ xs, SqV K p.1 H1 p.2 xs) ∧ 0 < ps.length ∧ ps.length ≤ 24 ∧ R (ItzA K ps) H1
theorem starV {P : Program} {w : World} {A : Around} {E : Value → Shared → Prop} {s : Shared} {t : Bool} {a : Addr} {its : Array Value} {Q : List Value → Shared → Prop} (h : SqK t s.heap a its) (hz : its.size ≤ sizeLine)
    (hq : ∀ h', (∀ b o, s.heap.get? b = some o → h'.get? b = some o) → Q its.toList { s with heap := h' }) : PySem.W.StarOf (model P w) A E (.ref a) Q s := by
  unfold PySem.W.StarOf notIterableAtAll
  cases t
  · obtain ⟨o, e, hc, n, hd⟩ := h
    have hT' : s.TypeIs (.ref a) "list" := ⟨o, e, hc⟩
    exact wpAny_bind (wpAny_specialOf hT' PySem.F.slot_list_iter.lookup (wpAny_pure ⟨rfl, wpAny_collect_seq a (.inl rfl) e hc hd hq hz⟩))
  · obtain ⟨o, e, hc, n, hd⟩ := h
    have hT' : s.TypeIs (.ref a) "tuple" := ⟨o, e, hc⟩
    exact wpAny_bind (wpAny_specialOf hT' PySem.F.slot_tuple_iter.lookup (wpAny_pure ⟨rfl, wpAny_collect_seq a (.inr rfl) e hc hd hq hz⟩))
theorem refs_vals : ∀ {ps : List (Bool × Addr)} {us : List Value}, Vals (ps.map fun p => V.ref p.2) us → us = ps.map fun p => .ref p.2
  | [], _, .nil => rfl
  | p :: ps, _, .cons r rr => by
    cases r
    rw [refs_vals rr]
    rfl
theorem pi_zipS {X : Cx} {e : Expr} {te : TE} {p sp pos tpos : Pos} {nm : Str} (hg : Gl X "zip") (hm : X.mg "zip" = none) (ha : PE X e te) :
    PI X (.Name nm tpos) (.Call (.Name "zip" p) [.Starred e sp] [] pos) (iZipS X.K te) := by
  refine ⟨fun pins s σ H R I h => ?_⟩
  refine Call_ (ld_blt I hg hm PyProof.Rows.boot_zip ?_)
  show wpAny _ _ (callWith pos (.type "zip") [] (backTo pos [(true, eval e X.env)]) []) _ _ _
  refine PySem.W.ks_call (P := fun _ => True) rfl (fun _ _ => ⟨.machine, .inr (.inl rfl), PySem.W.Looks.of_pure rfl⟩) (PySem.W.ks_lone ?_)
  refine thn (ha.run pins s σ H _ I h) fun u s1 ⟨v, H1, I1, r1, q1⟩ => ?_
  obtain ⟨a, t, ps, ev, hqa, hps, h0, h1, q⟩ := q1
  subst ev
  cases r1
  obtain ⟨its, rv, pa⟩ := sqv_in I1 hqa
  have hl := rv.length
  rw [List.length_map] at hl
  refine starV pa (by rw [sizeLine_eq, List.size_toArray]; omega) fun h' hk => ⟨trivial, ?_⟩
  have I2 : Inv X pins σ H1 { s1 with heap := h' } := I1.kept (t' := s1.toks) hk
  have ei : its.toArray.toList = ps.map fun p => .ref p.2 := by
    rw [List.toList_toArray]
    exact refs_vals rv
  rw [ei]
  have hsk : ∀ p ∈ ps, ∃ xs, SqK p.1 h' p.2 xs := fun p hp => by
    obtain ⟨xs, hx⟩ := hps p hp
    obtain ⟨us, _, hu⟩ := sqv_in I2 hx
    exact ⟨_, hu⟩
  refine call_zipA (s := { s1 with heap := h' }) h1 hsk fun g ⟨hz, hTI, hTO, hi, hsz, hkk⟩ => iter_zipN (f0 := .none) (f1 := false) hz ?_
  have I3 : Inv X pins σ H1 { s1 with heap := g } := I2.kept (t' := s1.toks) hkk
  have lt : ∀ p ∈ ps, p.2 < h'.objs.size := fun p hp => by
    obtain ⟨xs, hx⟩ := hsk p hp
    exact hx.lt
  refine ⟨h'.objs.size + ps.length + 2, _, _, _, H1, rfl, I3, turn_zipA (zaApart lt) h0 (by omega), ⟨⟨.none, false, hz, .inl rfl⟩, hTI, ⟨_, hTO, by rw [List.length_map]⟩, hi⟩, fun c hcm => ?_, q⟩
  have hle : h'.objs.size ≤ c := by
    rcases List.mem_cons.mp hcm with q | hcm
    · rw [q]; exact Nat.le_trans (Nat.le_add_right _ _) (by first | exact Nat.le_refl _ | exact Nat.le_add_right _ _)
    rcases List.mem_cons.mp hcm with q | hcm
    · rw [q]; exact Nat.le_trans (Nat.le_add_right _ _) (by first | exact Nat.le_refl _ | exact Nat.le_add_right _ _)
    rcases List.mem_cons.mp hcm with q | hcm
    · rw [q]; exact Nat.le_trans (Nat.le_add_right _ _) (by first | exact Nat.le_refl _ | exact Nat.le_add_right _ _)
    obtain ⟨q, hq, rfl⟩ := List.mem_map.mp hcm
    obtain ⟨k, p, e, rfl⟩ := zqs_mem hq
    exact Nat.le_add_right _ _
  exact I2.fpOk hle (I2.hok.fresh hle)
end SF

/-! SL68: for x in zip(*xs): the rule over data. -/
namespace SF
open PySem PySem.Spec PyProof.Rows L2
def rowsD : List D → Option (List (List D))
  | [] => some []
  | d :: ds => match seqD d, rowsD ds with
    | some x, some r => some (x :: r)
    | _, _ => none
def colsD (n : Nat) (rs : List (List D)) : List D := (List.range n).map fun i => .tuple (rs.map fun r => r.getD i .none)
theorem colsD_len {n : Nat} {rs : List (List D)} : (colsD n rs).length = n := by unfold colsD; simp
theorem colsD_get {n i : Nat} {rs : List (List D)} (h : i < n) : (colsD n rs)[i]? = some (.tuple (rs.map fun r => r.getD i .none)) := by
  unfold colsD
  rw [List.getElem?_map, List.getElem?_range h]
  rfl
def dZipS (te : DTE) : DTI := fun ds Q => te ds fun x ds1 => match frz ds1 x with
  | some (d, ds2) => match seqD d with
    | some xs => match rowsD xs with
      | some (r :: rs) => (rs.length < 24 ∧ r.length ≤ 16777216 ∧ ∀ q ∈ rs, q.length = r.length) ∧ Q (colsD r.length (r :: rs)) ds2
      | _ => False
    | none => False
  | none => False
theorem rows_of {K : Fg} {H : Hp} {O : List Addr} : ∀ {vs : List V} {xs : List D} {rs : List (List D)}, RpL K H O vs xs → rowsD xs = some rs → ∃ ps : List (Bool × Addr), vs = ps.map (fun p => V.ref p.2) ∧ ps.length = rs.length ∧
    ∀ (k : Nat) (p : Bool × Addr), ps[k]? = some p → ∃ r ws, rs[k]? = some r ∧ RpL K H O ws r ∧ SqV K p.1 H p.2 ws ∧ ∀ H2 O2, HS O H O2 H2 → LO O H → SqV K p.1 H2 p.2 ws
  | _, _, _, .nil, e => by
    cases e
    exact ⟨[], rfl, rfl, fun k p h => by simp at h⟩
  | _, _, rs, .cons (v := v) (vs := vs) (d := d) (ds := ds) h r, e => by
    simp only [rowsD] at e
    cases e1 : seqD d with
    | none => rw [e1] at e; simp at e
    | some x =>
      cases e2 : rowsD ds with
      | none => rw [e1, e2] at e; simp at e
      | some rr =>
        rw [e1, e2] at e
        simp only [Option.some.injEq] at e
        subst e
        obtain ⟨ps, q1, q2, q3⟩ := rows_of r e2
        obtain ⟨a, us, t, ev, hs, hl, st⟩ := seq_of h e1
        subst ev q1
        refine ⟨(t, a) :: ps, rfl, by rw [List.length_cons, q2, List.length_cons], fun k p hk => ?_⟩
        cases k with
        | zero => cases hk; exact ⟨x, us, rfl, hl, hs, st⟩
        | succ k => exact q3 k p hk
theorem rpl_of_get {K : Fg} {H : Hp} {O : List Addr} : ∀ {vs : List V} {ds : List D}, vs.length = ds.length → (∀ (k : Nat) d, ds[k]? = some d → ∃ v, vs[k]? = some v ∧ Rp K H O v d) → RpL K H O vs ds
  | [], [], _, _ => .nil
  | [], _ :: _, h, _ => by simp at h
  | _ :: _, [], h, _ => by simp at h
  | v :: vs, d :: ds, h, f => by
    obtain ⟨w, e, r⟩ := f 0 d rfl
    cases e
    exact .cons r (rpl_of_get (by simpa using h) fun k d hk => f (k + 1) d hk)
theorem itok_zipA {K : Fg} {H : Hp} {O : List Addr} {ps : List (Bool × Addr)} {n : Nat} {rs : List (List D)} (lo : LO O H) (hl : ps.length = rs.length) (h0 : 0 < ps.length) (hn : n ≤ 16777216) (he : ∀ q ∈ rs, q.length = n)
    (h : ∀ (k : Nat) (p : Bool × Addr), ps[k]? = some p → ∃ r ws, rs[k]? = some r ∧ RpL K H O ws r ∧ SqV K p.1 H p.2 ws ∧ ∀ H2 O2, HS O H O2 H2 → LO O H → SqV K p.1 H2 p.2 ws) : ItOk true K (ItzA K ps) (colsD n rs) O H where
  len := by rw [colsD_len, sizeLine_eq]; exact hn
  go := fun H2 O2 lo2 hs i hi => by
    rw [colsD_len] at hi
    refine ⟨fun k p hk => ?_, fun x H3 hy => ?_⟩
    · obtain ⟨r, ws, e1, e2, e3, e4⟩ := h k p hk
      have hr := he r (List.mem_of_getElem? e1)
      obtain ⟨v, ev, _⟩ := e2.get (List.getElem?_eq_getElem (show i < r.length by omega))
      exact ⟨ws, v, e4 H2 O2 hs lo, ev⟩
    · obtain ⟨T, o, vs, e1, hT, od, e2, l1, f⟩ := hy
      subst e1 e2
      have sm := same_new (o := .frz o (.tup vs)) hT
      refine ⟨_, colsD_get hi, sm, ?_⟩
      refine .tup (.inl ⟨o, upd_same, od⟩) (rpl_of_get (by rw [l1, hl, List.length_map]) fun k d hk => ?_)
      rw [List.getElem?_map] at hk
      cases e : rs[k]? with
      | none => rw [e] at hk; cases hk
      | some r =>
        rw [e] at hk
        cases hk
        have kl : k < ps.length := by rw [hl]; exact (List.getElem?_eq_some_iff.mp e).1
        obtain ⟨r', ws, e1, e2, e3, e4⟩ := h k _ (List.getElem?_eq_getElem kl)
        rw [e] at e1; cases e1
        have hr := he r (List.mem_of_getElem? e)
        obtain ⟨v, ev, rv⟩ := (hs_rpl lo hs e2).get (List.getElem?_eq_getElem (show i < r.length by omega))
        refine ⟨v, ?_, ?_⟩
        · rw [f k _ (List.getElem?_eq_getElem kl) ws (e4 H2 O2 hs lo), ev]
        · have : r.getD i .none = r[i]'(by omega) := by rw [List.getD_eq_getElem?_getD, List.getElem?_eq_getElem (by omega)]; rfl
          show Rp K _ O2 v (r.getD i .none)
          rw [this]
          exact Rp.mv lo2 (same_keep sm) grow_refl rv
  stop := fun H2 O2 lo2 hs => by
    cases ps with
    | nil => simp at h0
    | cons p ps' =>
      obtain ⟨r, ws, e1, e2, e3, e4⟩ := h 0 p rfl
      have hr := he r (List.mem_of_getElem? e1)
      exact ⟨p, ps', rfl, ws, e4 H2 O2 hs lo, by rw [colsD_len, e2.length]; omega⟩
section
variable {X : Cx} {F : Fx} {tg e : Expr} {te : DTE} {p pos sp tpos : Pos}
theorem di_zipS {nm : Str} (hg : Gl X "zip") (hm : X.mg "zip" = none) (ha : DE X F e te) :
    DI true X F (.Name nm tpos) (.Call (.Name "zip" p) [.Starred e sp] [] pos) (dZipS te) :=
  PI_imp (pi_zipS hg hm ha) fun σ H Q ⟨O, ds, Qa, R, ht, hq⟩ => ⟨O, ds, _, R, ht, fun x ds1 v H1 O1 s1 R1 rx hx => by
    split at hx
    · rename_i d ds2 e
      split at hx
      · rename_i xs ex
        split at hx
        · rename_i r rs er
          obtain ⟨O2, s2, R2, rd, _, _⟩ := frz_ok R s1 R1 rx e
          obtain ⟨a, vs, t, ev, h1, l1, _⟩ := seq_of rd ex
          obtain ⟨ps, q1, q2, q3⟩ := rows_of l1 er
          subst ev q1
          rw [List.length_cons] at q2
          exact ⟨a, t, ps, rfl, h1, fun p hp => by
            obtain ⟨k, hk⟩ := List.mem_iff_getElem?.mp hp
            obtain ⟨_, ws, _, _, h3, _⟩ := q3 k p hk
            exact ⟨ws, h3⟩, by omega, by omega, hq _ ds2 H1 O2 _ s2 R2 (itok_zipA R2.lo (by rw [q2, List.length_cons]) (by omega) hx.1.2.1 (fun q hqm => by
              rcases List.mem_cons.mp hqm with e | e
              · rw [e]
              · exact hx.1.2.2 q e) q3) hx.2⟩
        · exact hx.elim
      · exact hx.elim
    · exact hx.elim⟩
end
end SF

/-! printed by gen.py: what the defs do, over data -/
namespace SF
open PySem PySem.Spec PyProof.Rows L2
def t_pick (sp_take : DSp) : DTS :=
  (dRet (dOp2 fIx (dVar 1) (dCall sp_take (fun as => as) (dCons (dVar 0) (dCons (dCB fLen (dCons (dVar 1) dNil)) dNil)))))

def t_same_0 (sp_same : DSp) : DTS :=
  (dIfS (dTr (dOp1 (fIsi2 "list" "tuple") (dVar 1))) (dSeq (dIfS (dOr (dTst (dOp2 fNe (dOp1 (fIsi "list") (dVar 0)) (dOp1 (fIsi "list") (dVar 1)))) (dTst (dOp2 fNe (dOp1 (fIsi "tuple") (dVar 0)) (dOp1 (fIsi "tuple") (dVar 1))))) (dRet (dC (.bool false))) dNext)
    (dRet (dAndV (dOp2 fEq (dCB fLen (dCons (dVar 0) dNil)) (dCB fLen (dCons (dVar 1) dNil))) (dCB fAll (dCons (dLc (dZip (dCons (dVar 0) (dCons (dVar 1) dNil))) (gdTup 2 (gdCons (gdName 2) (gdCons (gdName 3) gdNil))) dYes (dCall sp_same (fun as => as) (dCons (dVar 2) (dCons (dVar 3) dNil))) [2, 3]) dNil))))) dNext)
def t_same_1 : DTS :=
  (dIfS (dOr (dTst (dOp2 fIs (dVar 1) (dC .none))) (dTr (dOp1 (fIsi "str") (dVar 1)))) (dRet (dAndV (dOp2 fEq (dVar 0) (dVar 1)) (dOp2 fEq (dOp1 (fIsi "str") (dVar 0)) (dOp1 (fIsi "str") (dVar 1))))) dNext)
def t_same_2 : DTS :=
  (dRet (dAndV (dOp1 (fIsi "int") (dVar 0)) (dAndV (dOp2 fEq (dOp1 (fIsi "bool") (dVar 0)) (dOp1 (fIsi "bool") (dVar 1))) (dOp2 fEq (dVar 0) (dVar 1)))))
def t_same (sp_same : DSp) : DTS := (dSeq (t_same_0 sp_same) (dSeq (t_same_1) (t_same_2)))

def t_lists (sp_lists : DSp) : DTS :=
  (dRet (dIf (dTr (dOp1 (fIsi2 "list" "tuple") (dVar 0))) (dLc (dSq (dVar 0)) (gdName 1) dYes (dCall sp_lists (fun as => as) (dCons (dVar 1) dNil)) [1]) (dVar 0)))

def t_shuffled_0 : DTS :=
  (dPar 2 3 (dCons (dCB fList (dCons (dVar 1) dNil)) (dCons (dLst dNil) dNil)))
def t_shuffled_1 (sp_take : DSp) : DTS :=
  (dWhile (dTst (dOp2 fNe (dVar 2) (dLst dNil))) (dDrop (dMut 3 gAppend (dCons (dMut 2 gPopAt (dCons (dCall sp_take (fun as => as) (dCons (dVar 0) (dCons (dCB fLen (dCons (dVar 2) dNil)) dNil))) dNil)) dNil))))
def t_shuffled_2 : DTS :=
  (dRet (dVar 3))
def t_shuffled (sp_take : DSp) : DTS := (dSeq (t_shuffled_0) (dSeq (t_shuffled_1 sp_take) (t_shuffled_2)))

def t_gauges_0 (sp_take : DSp) (sp_pick : DSp) : DTS :=
  (dPar3 2 3 4 (dCons (dCall sp_pick (fun as => as) (dCons (dVar 0) (dCons (dLst (dCons (dC (.int 1)) (dCons (dC (.int 1)) (dCons (dC (.int 3)) (dCons (dOp2 fPow (dC (.int 10)) (dC (.int 7))) dNil))))) dNil))) (dCons (dCall sp_take (fun as => as) (dCons (dVar 0) (dCons (dC (.int 3)) dNil))) (dCons (dLst dNil) dNil))))
def t_gauges_1 (sp_take : DSp) : DTS :=
  (dFor (dRng1 (dCons (dVar 1) dNil)) (gdName 5) (dSeq (dSet 3 (dOp2 fAdd (dOp2 fAdd (dVar 3) (dC (.int 1))) (dCall sp_take (fun as => as) (dCons (dVar 0) (dCons (dVar 2) dNil)))))
    (dDrop (dMut 4 gAppend (dCons (dVar 3) dNil)))))
def t_gauges_2 : DTS :=
  (dRet (dCB fTuple (dCons (dVar 4) dNil)))
def t_gauges (sp_take : DSp) (sp_pick : DSp) : DTS := (dSeq (t_gauges_0 sp_take sp_pick) (dSeq (t_gauges_1 sp_take) (t_gauges_2)))

def t_span_0 (sp_take : DSp) : DTS :=
  (dPar 3 4 (dCons (dIdx (dVar 1) (dVar 2)) (dCons (dCall sp_take (fun as => as) (dCons (dVar 0) (dCons (dC (.int 5)) dNil))) dNil)))
def t_span_1 (sp_take : DSp) : DTS :=
  (dPar 5 6 (dCons (dOp2 fSub (dVar 3) (dCB fMin (dCons (dVar 3) (dCons (dVar 4) dNil)))) (dCons (dCB fMin (dCons (dOp2 fSub (dCB fLen (dCons (dVar 1) dNil)) (dC (.int 1))) (dCons (dOp2 fAdd (dVar 3) (dCall sp_take (fun as => as) (dCons (dVar 0) (dCons (dOp2 fAdd (dVar 4) (dC (.int 1))) dNil)))) dNil))) dNil)))
def t_span_2 (sp_take : DSp) : DTS :=
  (dPar 7 8 (dCons (dOp2 fIx (dVar 1) (dOp2 fAdd (dCall sp_take (fun as => as) (dCons (dVar 0) (dCons (dOp2 fAdd (dOp2 fSub (dVar 3) (dVar 5)) (dC (.int 1))) dNil))) (dVar 5))) (dCons (dOp2 fIx (dVar 1) (dVar 6)) dNil)))
def t_span_3 (sp_take : DSp) : DTS :=
  (dRet (dTup (dCons (dOp2 fSub (dVar 7) (dCB fMin (dCons (dOp2 fSub (dVar 7) (dC (.int 1))) (dCons (dCall sp_take (fun as => as) (dCons (dVar 0) (dCons (dC (.int 2)) dNil))) dNil)))) (dCons (dOp2 fAdd (dVar 8) (dCall sp_take (fun as => as) (dCons (dVar 0) (dCons (dC (.int 2)) dNil)))) dNil))))
def t_span (sp_take : DSp) : DTS := (dSeq (t_span_0 sp_take) (dSeq (t_span_1 sp_take) (dSeq (t_span_2 sp_take) (t_span_3 sp_take))))

def t_plant_0 (sp_take : DSp) : DTS :=
  (dSet 3 (dOp2 fAdd (dC (.int 1)) (dCall sp_take (fun as => as) (dCons (dVar 0) (dCons (dVar 1) dNil)))))
def t_plant_1 (sp_gauges : DSp) (sp_take : DSp) : DTS :=
  (dSet 4 (dCall sp_gauges (fun as => as) (dCons (dVar 0) (dCons (dCB fMin (dCons (dVar 2) (dCons (dOp2 fAdd (dVar 3) (dCall sp_take (fun as => as) (dCons (dVar 0) (dCons (dOp2 fAdd (dOp2 fSub (dVar 2) (dVar 3)) (dC (.int 1))) dNil)))) dNil))) dNil))))
def t_plant_2 (sp_shuffled : DSp) : DTS :=
  (dSet 5 (dCB fTuple (dCons (dSl (dCall sp_shuffled (fun as => as) (dCons (dVar 0) (dCons (dVar 4) dNil))) dNoP (dP (dVar 3))) dNil)))
def t_plant_3 (sp_span : DSp) : DTS :=
  (dRet (dTup (dCons (dTup (dCons (dVar 4) (dCons (dCB fTuple (dCons (dLc (dSq (dVar 5)) (gdName 6) dYes (dCall sp_span (fun as => as) (dCons (dVar 0) (dCons (dVar 4) (dCons (dVar 6) dNil)))) [6]) dNil)) dNil))) (dCons (dVar 5) dNil))))
def t_plant (sp_take : DSp) (sp_gauges : DSp) (sp_shuffled : DSp) (sp_span : DSp) : DTS := (dSeq (t_plant_0 sp_take) (dSeq (t_plant_1 sp_gauges sp_take) (dSeq (t_plant_2 sp_shuffled) (t_plant_3 sp_span))))

def t_integer : DTS :=
  (dRet (dAndV (dOp1 (fIsi "int") (dVar 0)) (dOp1 fNot (dOp1 (fIsi "bool") (dVar 0)))))

def t_tight_0 : DTS :=
  (dSet 2 (dCB fList (dCons (dOp2 fIx (dVar 1) (dC (.int 1))) dNil)))
def t_tight_1 (sp_take : DSp) (sp_pick : DSp) : DTS :=
  (dFor (dRng1 (dCons (dCall sp_take (fun as => as) (dCons (dVar 0) (dCons (dC (.int 6)) dNil))) dNil)) (gdName 3) (dSeq (dPar 4 5 (dCons (dCall sp_take (fun as => as) (dCons (dVar 0) (dCons (dCB fLen (dCons (dVar 2) dNil)) dNil))) (dCons (dCall sp_pick (fun as => as) (dCons (dVar 0) (dCons (dOp2 fIx (dVar 1) (dC (.int 0))) dNil))) dNil)))
    (dSetIx 2 (dVar 4) (dCall sp_pick (fun as => as) (dCons (dVar 0) (dCons (dLst (dCons (dOp2 fIx (dVar 2) (dC (.int 0))) (dCons (dTup (dCons (dVar 5) (dCons (dVar 5) dNil))) (dCons (dTup (dCons (dVar 5) (dCons (dOp2 fAdd (dVar 5) (dC (.int 1))) dNil))) (dCons (dOp2 fIx (dVar 2) (dOp1 fNeg (dC (.int 1)))) dNil))))) dNil))))))
def t_tight_2 : DTS :=
  (dRet (dTup (dCons (dOp2 fIx (dVar 1) (dC (.int 0))) (dCons (dCB fTuple (dCons (dVar 2) dNil)) dNil))))
def t_tight (sp_take : DSp) (sp_pick : DSp) : DTS := (dSeq (t_tight_0) (dSeq (t_tight_1 sp_take sp_pick) (t_tight_2)))

end SF

/-! printed by gen.py: what the defs do, over data -/
namespace SF
open PySem PySem.Spec PyProof.Rows L2
def t_odd_0 : DTS :=
  (dSet 2 (dLst (dCons (dC .none) (dCons (dC (.bool true)) (dCons (dC (.bool false)) (dCons (dC (.int 0)) (dCons (dC (.int 1)) (dCons (dOp1 fNeg (dC (.int 1))) (dCons (dC (.str "")) (dCons (dC (.str "swap")) (dCons (dC (.str "take")) (dCons (dTup dNil) (dCons (dLst dNil) (dCons (dTup (dCons (dC (.int 0)) dNil)) (dCons (dLst (dCons (dC (.int 1)) dNil)) (dCons (dTup (dCons (dTup dNil) dNil)) (dCons (dTup (dCons (dC (.int 0)) (dCons (dC (.int 1)) dNil))) dNil)))))))))))))))))
def t_odd_1 : DTS :=
  (dSet 2 (dOp2 fAdd (dVar 2) (dLst (dCons (dTup (dCons (dC (.int 1)) (dCons (dC (.int 1)) dNil))) (dCons (dTup (dCons (dC (.str "swap")) (dCons (dC (.int 0)) (dCons (dC (.int 1)) dNil)))) dNil)))))
def t_odd_2 : DTS :=
  (dIfS (dTr (dOp1 (fIsi "int") (dVar 1))) (dSet 2 (dOp2 fAdd (dVar 2) (dOp2 fMul (dLst (dCons (dOp2 fAdd (dVar 1) (dC (.int 1))) (dCons (dOp2 fSub (dVar 1) (dC (.int 1))) (dCons (dOp2 fSub (dC (.int 0)) (dVar 1)) (dCons (dCB fStr (dCons (dVar 1) dNil)) (dCons (dOp2 fEq (dVar 1) (dC (.int 1))) dNil)))))) (dC (.int 2))))) dNext)
def t_odd_3 : DTS :=
  (dIfS (dTr (dOp1 (fIsi2 "list" "tuple") (dVar 1))) (dSet 2 (dOp2 fAdd (dVar 2) (dOp2 fMul (dLst (dCons (dCB fList (dCons (dVar 1) dNil)) (dCons (dCB fTuple (dCons (dVar 1) dNil)) (dCons (dOp1 fRev (dVar 1)) (dCons (dSl (dVar 1) (dP (dC (.int 1))) dNoP) (dCons (dSl (dVar 1) dNoP (dP (dOp1 fNeg (dC (.int 1))))) dNil)))))) (dC (.int 2))))) dNext)
def t_odd_4 : DTS :=
  (dRet (dPick 0 (dVar 2)))
def t_odd : DTS := (dSeq (t_odd_0) (dSeq (t_odd_1) (dSeq (t_odd_2) (dSeq (t_odd_3) (t_odd_4)))))

def t_bent_0 (sp_take : DSp) (sp_odd : DSp) : DTS :=
  (dIfS (dOr (dNot (dTr (dOp1 (fIsi2 "list" "tuple") (dVar 1)))) (dOr (dTst (dOp2 fEq (dCB fLen (dCons (dVar 1) dNil)) (dC (.int 0)))) (dTst (dOp2 fEq (dCall sp_take (fun as => as) (dCons (dVar 0) (dCons (dC (.int 6)) dNil))) (dC (.int 0)))))) (dRet (dCall sp_odd (fun as => as) (dCons (dVar 0) (dCons (dVar 1) dNil)))) dNext)
def t_bent_1 (sp_take : DSp) : DTS :=
  (dPar3 2 3 4 (dCons (dCall sp_take (fun as => as) (dCons (dVar 0) (dCons (dCB fLen (dCons (dVar 1) dNil)) dNil))) (dCons (dCB fList (dCons (dVar 1) dNil)) (dCons (dCall sp_take (fun as => as) (dCons (dVar 0) (dCons (dC (.int 8)) dNil))) dNil))))
def t_bent_2 (sp_bent : DSp) : DTS :=
  (dIfS (dTst (dOp2 fEq (dVar 4) (dC (.int 0)))) (dDrop (dMut 3 gPopAt (dCons (dVar 2) dNil))) (dIfS (dTst (dOp2 fEq (dVar 4) (dC (.int 1)))) (dDrop (dMut 3 gInsert (dCons (dVar 2) (dCons (dOp2 fIx (dVar 3) (dVar 2)) dNil)))) (dIfS (dTst (dOp2 fEq (dVar 4) (dC (.int 2)))) (dSetSl 3 (dVar 2) (dOp2 fAdd (dVar 2) (dC (.int 2))) (dOp1 fRev (dSl (dVar 3) (dP (dVar 2)) (dP (dOp2 fAdd (dVar 2) (dC (.int 2))))))) (dSetIx 3 (dVar 2) (dCall sp_bent (fun as => as) (dCons (dVar 0) (dCons (dOp2 fIx (dVar 3) (dVar 2)) dNil)))))))
def t_bent_3 : DTS :=
  (dRet (dIf (dTr (dOp1 (fIsi "list") (dVar 1))) (dVar 3) (dCB fTuple (dCons (dVar 3) dNil))))
def t_bent (sp_take : DSp) (sp_odd : DSp) (sp_bent : DSp) : DTS := (dSeq (t_bent_0 sp_take sp_odd) (dSeq (t_bent_1 sp_take) (dSeq (t_bent_2 sp_bent) (t_bent_3))))

def t_is_number : DTS :=
  (dRet (dAndV (dOp1 (fIsi "int") (dVar 0)) (dOp1 fNot (dOp1 (fIsi "bool") (dVar 0)))))

end SF

/-! printed by gen.py: what the defs do, over data -/
namespace SF
open PySem PySem.Spec PyProof.Rows L2
def t_takes : DTS :=
  (dRet (dChain fLe fLe (dOp2 gIx (dVar 0) (dC (.int 0))) (dVar 1) (dOp2 gIx (dVar 0) (dC (.int 1)))))

def t_look_machine (Ea : EA) : DTS :=
  (dIfS (dNot (dTst (dChain fLe fLt (dC (.int 0)) (dVar 1) (dCB gLen (dCons (dOp2 gIx (dVar 0) (dC (.int 1))) dNil))))) (dRaise Ea "NoMachine" "machine" (dVar 1)) dNext)

def t_rack : DTS :=
  (dRet (dCB fTuple (dCons (dLc (dSq (dOp2 gIx (dVar 0) (dC (.int 0)))) (gdName 2) (dTst (dOp2 gNotIn (dVar 2) (dVar 1))) (dVar 2) [2]) dNil)))

def t_after_0 : DTS :=
  (dPar 2 3 (dCons (dCB fList (dCons (dVar 0) dNil)) (dCons (dOp2 gIx (dVar 1) (dC (.int 1))) dNil)))
def t_after_1 : DTS :=
  (dIfS (dTst (dOp2 fEq (dOp2 gIx (dVar 1) (dC (.int 0))) (dC (.str "swap")))) (dSwap 2 (dVar 3) (dOp2 gIx (dVar 1) (dC (.int 2))) (dCons (dOp2 gIx (dVar 2) (dOp2 gIx (dVar 1) (dC (.int 2)))) (dCons (dOp2 gIx (dVar 2) (dVar 3)) dNil))) (dSetIx 2 (dVar 3) (dOp2 gIx (dVar 1) (dC (.int 2)))))
def t_after_2 : DTS :=
  (dRet (dCB fTuple (dCons (dVar 2) dNil)))
def t_after : DTS := (dSeq (t_after_0) (dSeq (t_after_1) (t_after_2)))

def t_machines_of : DTS :=
  (dRet (dIf (dTst (dOp2 fEq (dOp2 gIx (dVar 0) (dC (.int 0))) (dC (.str "swap")))) (dLst (dCons (dOp2 gIx (dVar 0) (dC (.int 1))) (dCons (dOp2 gIx (dVar 0) (dC (.int 2))) dNil))) (dLst (dCons (dOp2 gIx (dVar 0) (dC (.int 1))) dNil))))

def t_first_unfit_0 (sp_after : DSp) : DTS :=
  (dSet 3 (dCall sp_after (fun as => as) (dCons (dVar 1) (dCons (dVar 2) dNil))))
def t_first_unfit_1 (sp_machines_of : DSp) (sp_takes : DSp) : DTS :=
  (dSet 4 (dLc (dSq (dCall sp_machines_of (fun as => as) (dCons (dVar 2) dNil))) (gdName 5) (dNot (dTr (dCall sp_takes (fun as => as) (dCons (dOp2 gIx (dOp2 gIx (dVar 0) (dC (.int 1))) (dVar 5)) (dCons (dOp2 gIx (dVar 3) (dVar 5)) dNil))))) (dVar 5) [5]))
def t_first_unfit_2 : DTS :=
  (dRet (dIf (dTst (dOp2 fGt (dCB gLen (dCons (dVar 4) dNil)) (dC (.int 0)))) (dOp2 gIx (dVar 4) (dC (.int 0))) (dC .none)))
def t_first_unfit (sp_after : DSp) (sp_machines_of : DSp) (sp_takes : DSp) : DTS := (dSeq (t_first_unfit_0 sp_after) (dSeq (t_first_unfit_1 sp_machines_of sp_takes) (t_first_unfit_2)))

def t_exchanged_0 (Ea : EA) (sp_machines_of : DSp) (sp_look_machine : DSp) : DTS :=
  (dFor (dSq (dCall sp_machines_of (fun as => as) (dCons (dVar 2) dNil))) (gdName 3) (dDrop (dCallX Ea sp_look_machine (fun as => as) (dCons (dVar 0) (dCons (dVar 3) dNil)))))
def t_exchanged_1 (Ea : EA) (sp_rack : DSp) : DTS :=
  (dIfS (dAnd (dTst (dOp2 fEq (dOp2 gIx (dVar 2) (dC (.int 0))) (dC (.str "take")))) (dTst (dOp2 gNotIn (dOp2 gIx (dVar 2) (dC (.int 2))) (dCall sp_rack (fun as => as) (dCons (dVar 0) (dCons (dVar 1) dNil)))))) (dRaise Ea "NotInRack" "size" (dOp2 gIx (dVar 2) (dC (.int 2)))) dNext)
def t_exchanged_2 (sp_first_unfit : DSp) : DTS :=
  (dSet 4 (dCall sp_first_unfit (fun as => as) (dCons (dVar 0) (dCons (dVar 1) (dCons (dVar 2) dNil)))))
def t_exchanged_3 (Ea : EA) : DTS :=
  (dIfS (dTst (dOp2 fIsNot (dVar 4) (dC .none))) (dRaise Ea "Unfit" "machine" (dVar 4)) dNext)
def t_exchanged_4 (sp_after : DSp) : DTS :=
  (dRet (dCall sp_after (fun as => as) (dCons (dVar 1) (dCons (dVar 2) dNil))))
def t_exchanged (Ea : EA) (sp_machines_of : DSp) (sp_look_machine : DSp) (sp_rack : DSp) (sp_first_unfit : DSp) (sp_after : DSp) : DTS := (dSeq (t_exchanged_0 Ea sp_machines_of sp_look_machine) (dSeq (t_exchanged_1 Ea sp_rack) (dSeq (t_exchanged_2 sp_first_unfit) (dSeq (t_exchanged_3 Ea) (t_exchanged_4 sp_after)))))

def t_exchanged_all_0 : DTS :=
  (dSet 3 (dCB fTuple (dCons (dVar 1) dNil)))
def t_exchanged_all_1 (Ea : EA) (sp_exchanged : DSp) : DTS :=
  (dFor (dSq (dVar 2)) (gdName 4) (dSet 3 (dCallX Ea sp_exchanged (fun as => as) (dCons (dVar 0) (dCons (dVar 3) (dCons (dVar 4) dNil))))))
def t_exchanged_all_2 : DTS :=
  (dRet (dVar 3))
def t_exchanged_all (Ea : EA) (sp_exchanged : DSp) : DTS := (dSeq (t_exchanged_all_0) (dSeq (t_exchanged_all_1 Ea sp_exchanged) (t_exchanged_all_2)))

def t_back_0 : DTS :=
  (dPar 3 4 (dCons (dCB fTuple (dCons (dVar 1) dNil)) (dCons (dLst dNil) dNil)))
def t_back_1 (Ea : EA) (sp_exchanged : DSp) : DTS :=
  (dFor (dSq (dVar 2)) (gdName 5) (dSeq (dSet 6 (dCallX Ea sp_exchanged (fun as => as) (dCons (dVar 0) (dCons (dVar 3) (dCons (dVar 5) dNil)))))
    (dSeq (dDrop (dMut 4 gAppend (dCons (dTup (dCons (dC (.str "swap")) (dCons (dOp2 gIx (dVar 5) (dC (.int 1))) (dCons (dOp2 gIx (dVar 5) (dC (.int 2))) dNil)))) dNil)))
    (dSeq (dIfS (dTst (dOp2 fEq (dOp2 gIx (dVar 5) (dC (.int 0))) (dC (.str "take")))) (dSetIx 4 (dOp1 fNeg (dC (.int 1))) (dTup (dCons (dC (.str "take")) (dCons (dOp2 gIx (dVar 5) (dC (.int 1))) (dCons (dOp2 gIx (dVar 3) (dOp2 gIx (dVar 5) (dC (.int 1)))) dNil))))) dNext)
    (dSet 3 (dVar 6))))))
def t_back_2 : DTS :=
  (dRet (dOp1 fRev (dVar 4)))
def t_back (Ea : EA) (sp_exchanged : DSp) : DTS := (dSeq (t_back_0) (dSeq (t_back_1 Ea sp_exchanged) (t_back_2)))

def t_l_fits : DTS :=
  (dRet (dChain fLe fLe (dOp2 gIx (dOp2 gIx (dOp2 gIx (dVar 0) (dC (.int 1))) (dVar 1)) (dC (.int 0))) (dVar 2) (dOp2 gIx (dOp2 gIx (dOp2 gIx (dVar 0) (dC (.int 1))) (dVar 1)) (dC (.int 1)))))

def t_store : DTS :=
  (dRet (dLc (dSq (dOp2 gIx (dVar 0) (dC (.int 0)))) (gdName 2) (dTst (dOp2 gNotIn (dVar 2) (dVar 1))) (dVar 2) [2]))

def t_l_after_0 : DTS :=
  (dSet 2 (dCB fList (dCons (dVar 0) dNil)))
def t_l_after_1 : DTS :=
  (dIfS (dTst (dOp2 fEq (dOp2 gIx (dVar 1) (dC (.int 0))) (dC (.str "take")))) (dSetIx 2 (dOp2 gIx (dVar 1) (dC (.int 1))) (dOp2 gIx (dVar 1) (dC (.int 2)))) (dSwap 2 (dOp2 gIx (dVar 1) (dC (.int 1))) (dOp2 gIx (dVar 1) (dC (.int 2))) (dCons (dOp2 gIx (dVar 0) (dOp2 gIx (dVar 1) (dC (.int 2)))) (dCons (dOp2 gIx (dVar 0) (dOp2 gIx (dVar 1) (dC (.int 1)))) dNil))))
def t_l_after_2 : DTS :=
  (dRet (dCB fTuple (dCons (dVar 2) dNil)))
def t_l_after : DTS := (dSeq (t_l_after_0) (dSeq (t_l_after_1) (t_l_after_2)))

def t_deals_0 : DTS :=
  (dPar 2 3 (dCons (dLst dNil) (dCons (dCB gLen (dCons (dVar 1) dNil)) dNil)))
def t_deals_1 (sp_l_fits : DSp) : DTS :=
  (dFor (dRng1 (dCons (dVar 3) dNil)) (gdName 4) (dFor (dRng2 (dCons (dOp2 fAdd (dVar 4) (dC (.int 1))) (dCons (dVar 3) dNil))) (gdName 5) (dIfS (dAnd (dTr (dCall sp_l_fits (fun as => as) (dCons (dVar 0) (dCons (dVar 4) (dCons (dOp2 gIx (dVar 1) (dVar 5)) dNil))))) (dTr (dCall sp_l_fits (fun as => as) (dCons (dVar 0) (dCons (dVar 5) (dCons (dOp2 gIx (dVar 1) (dVar 4)) dNil)))))) (dDrop (dMut 2 gAppend (dCons (dTup (dCons (dC (.str "swap")) (dCons (dVar 4) (dCons (dVar 5) dNil)))) dNil))) dNext)))
def t_deals_2 (sp_store : DSp) (sp_l_fits : DSp) : DTS :=
  (dFor (dRng1 (dCons (dVar 3) dNil)) (gdName 4) (dDrop (dMut 2 gExtend (dCons (dLc (dSq (dCall sp_store (fun as => as) (dCons (dVar 0) (dCons (dVar 1) dNil)))) (gdName 6) (dTr (dCall sp_l_fits (fun as => as) (dCons (dVar 0) (dCons (dVar 4) (dCons (dVar 6) dNil))))) (dTup (dCons (dC (.str "take")) (dCons (dVar 4) (dCons (dVar 6) dNil)))) [6]) dNil))))
def t_deals_3 : DTS :=
  (dRet (dVar 2))
def t_deals (sp_l_fits : DSp) (sp_store : DSp) : DTS := (dSeq (t_deals_0) (dSeq (t_deals_1 sp_l_fits) (dSeq (t_deals_2 sp_store sp_l_fits) (t_deals_3))))

def t_part : DTS :=
  (dRet (dIf (dTst (dOp2 fEq (dOp2 gIx (dVar 0) (dC (.int 0))) (dC (.str "swap")))) (dLst (dCons (dOp2 gIx (dVar 0) (dC (.int 1))) (dCons (dOp2 gIx (dVar 0) (dC (.int 2))) dNil))) (dLst (dCons (dOp2 gIx (dVar 0) (dC (.int 1))) dNil))))

def t_wandered_0 : DTS :=
  (dSet 4 (dLst dNil))
def t_wandered_1 (sp_deals : DSp) (sp_l_after : DSp) : DTS :=
  (dFor (dRng1 (dCons (dVar 3) dNil)) (gdName 5) (dSeq (dSet 6 (dCall sp_deals (fun as => as) (dCons (dVar 1) (dCons (dVar 2) dNil))))
    (dIfS (dTst (dOp2 fNe (dVar 6) (dLst dNil))) (dSeq (dDrop (dMut 4 gAppend (dCons (dPick 0 (dVar 6)) dNil)))
    (dSet 2 (dCall sp_l_after (fun as => as) (dCons (dVar 2) (dCons (dOp2 gIx (dVar 4) (dOp1 fNeg (dC (.int 1)))) dNil))))) dNext)))
def t_wandered_2 : DTS :=
  (dRet (dTup (dCons (dVar 4) (dCons (dVar 2) dNil))))
def t_wandered (sp_deals : DSp) (sp_l_after : DSp) : DTS := (dSeq (t_wandered_0) (dSeq (t_wandered_1 sp_deals sp_l_after) (t_wandered_2)))

end SF

/-! printed by gen.py: what the defs do, over data -/
namespace SF
open PySem PySem.Spec PyProof.Rows L2
def t_hulls : DTS :=
  (dRet (dCB fTuple (dCons (dLc (dZipS (dVar 0)) (gdName 1) dYes (dTup (dCons (dCB gMinT (dCons (dVar 1) dNil)) (dCons (dCB gMaxT (dCons (dVar 1) dNil)) dNil))) [1]) dNil)))

end SF

/-! printed by gen.py: what the defs do, over data -/
namespace SF
open PySem PySem.Spec PyProof.Rows L2
def t_right_0 (sp_plant : DSp) : DTS :=
  (dTgt (gdTup 2 (gdCons (gdName 1) (gdCons (gdName 2) gdNil))) (dCall sp_plant (fun as => as) (dCons (dVar 0) (dCons (dC (.int 8)) (dCons (dC (.int 12)) dNil)))))
def t_right_1 : DTS :=
  (dSet 3 (dLst (dCons (dVar 2) dNil)))
def t_right_2 (sp_take : DSp) (sp_wandered : DSp) : DTS :=
  (dFor (dRng1 (dCons (dCall sp_take (fun as => as) (dCons (dVar 0) (dCons (dC (.int 20)) dNil))) dNil)) (gdName 4) (dDrop (dMut 3 gAppend (dCons (dOp2 gIx (dCall sp_wandered (fun as => as) (dCons (dVar 0) (dCons (dVar 1) (dCons (dOp2 gIx (dVar 3) (dOp1 fNeg (dC (.int 1)))) (dCons (dOp2 fAdd (dC (.int 1)) (dCall sp_take (fun as => as) (dCons (dVar 0) (dCons (dC (.int 3)) dNil)))) dNil))))) (dC (.int 1))) dNil))))
def t_right_3 : DTS :=
  (dPar 5 6 (dCons (dCB fRepr (dCons (dVar 3) dNil)) (dCons (dLst dNil) dNil)))
def t_right_4 : DTS :=
  (dFor (dRng1 (dCons (dCB gLen (dCons (dVar 2) dNil)) dNil)) (gdName 7) (dSeq (dSet 8 (dCB fSorted (dCons (dLc (dSq (dVar 3)) (gdName 11) dYes (dOp2 gIx (dVar 11) (dVar 7)) [11]) dNil)))
    (dDrop (dMut 6 gAppend (dCons (dTup (dCons (dOp2 gIx (dVar 8) (dC (.int 0))) (dCons (dOp2 gIx (dVar 8) (dOp1 fNeg (dC (.int 1)))) dNil))) dNil)))))
def t_right_5 (sp_hulls : DSp) (sp_lists : DSp) : DTS :=
  (dSet 9 (dLst (dCons (dCall sp_hulls (fun as => as) (dCons (dVar 3) dNil)) (dCons (dCall sp_hulls (pick 1 [0]) (dCons (dCB fTuple (dCons (dCall sp_lists (fun as => as) (dCons (dVar 3) dNil)) dNil)) dNil)) dNil))))
def t_right_6 (sp_same : DSp) : DTS :=
  (dIfS (dOr (dNot (dTr (dCall sp_same (fun as => as) (dCons (dVar 9) (dCons (dOp2 fMul (dLst (dCons (dCB fTuple (dCons (dVar 6) dNil)) dNil)) (dC (.int 2))) dNil))))) (dTst (dOp2 fNe (dCB fRepr (dCons (dVar 3) dNil)) (dVar 5)))) (dRet (dC (.bool false))) dNext)
def t_right_7 (sp_hulls : DSp) : DTS :=
  (dSet 10 (dCall sp_hulls (fun as => as) (dCons (dOp2 fAdd (dSl (dVar 3) dNoP (dP (dOp1 fNeg (dC (.int 1))))) (dSl (dVar 3) dNoP (dP (dC (.int 1))))) dNil)))
def t_right_8 : DTS :=
  (dIfS (dNot (dTr (dCB fAll (dCons (dLc (dZip2 (dCons (dVar 6) (dCons (dVar 10) dNil))) (gdTup 2 (gdCons (gdName 12) (gdCons (gdName 13) gdNil))) dYes (dAndV (dOp2 fLe (dOp2 gIx (dVar 12) (dC (.int 0))) (dOp2 gIx (dVar 13) (dC (.int 0)))) (dOp2 fLe (dOp2 gIx (dVar 13) (dC (.int 1))) (dOp2 gIx (dVar 12) (dC (.int 1))))) [12, 13]) dNil)))) (dRet (dC (.bool false))) dNext)
def t_right_9 (sp_hulls : DSp) : DTS :=
  (dRet (dOp2 fEq (dCall sp_hulls (fun as => as) (dCons (dLst (dCons (dVar 2) dNil)) dNil)) (dCB fTuple (dCons (dLc (dSq (dVar 2)) (gdName 14) dYes (dTup (dCons (dVar 14) (dCons (dVar 14) dNil))) [14]) dNil))))
def t_right (sp_plant : DSp) (sp_take : DSp) (sp_wandered : DSp) (sp_hulls : DSp) (sp_lists : DSp) (sp_same : DSp) : DTS := (dSeq (t_right_0 sp_plant) (dSeq (t_right_1) (dSeq (t_right_2 sp_take sp_wandered) (dSeq (t_right_3) (dSeq (t_right_4) (dSeq (t_right_5 sp_hulls sp_lists) (dSeq (t_right_6 sp_same) (dSeq (t_right_7 sp_hulls) (dSeq (t_right_8) (t_right_9 sp_hulls))))))))))

end SF

/-! R0: data that can be compared and shown. -/
namespace SF
open PySem PySem.Spec PyProof.Rows L2
mutual
/-- an upper bound of the text's length -/
def siz : D → Nat
  | .none => 5
  | .bool _ => 5
  | .int _ => 60
  | .str x => 10 * x.length + 2
  | .list xs => sizL xs + 4
  | .tuple xs => sizL xs + 4
  | .dict _ => 0
def sizL : List D → Nat
  | [] => 0
  | x :: xs => siz x + 2 + sizL xs
end
mutual
/-- numbers up to b, texts of characters, no dicts -/
def wfB (b : Nat) : D → Bool
  | .none => true
  | .bool _ => true
  | .int i => decide (i.natAbs ≤ b)
  | .str x => x.cps.all (· < 1114112)
  | .list xs => wfLB b xs
  | .tuple xs => wfLB b xs
  | .dict _ => false
def wfLB (b : Nat) : List D → Bool
  | [] => true
  | x :: xs => wfB b x && wfLB b xs
end
def big : Nat := 100000000000000000000000000000000000000000000000000
abbrev wf : D → Bool := wfB big
abbrev wfL : List D → Bool := wfLB big
theorem wfL_iff {b : Nat} : ∀ {xs : List D}, wfLB b xs = true ↔ ∀ x ∈ xs, wfB b x = true
  | [] => by simp [wfLB]
  | x :: xs => by simp [wfLB, wfL_iff (xs := xs)]
mutual
theorem wf_mono {b b' : Nat} (h : b ≤ b') : ∀ d : D, wfB b d = true → wfB b' d = true
  | .none, _ => by simp [wfB]
  | .bool _, _ => by simp [wfB]
  | .int i, e => by simp only [wfB, decide_eq_true_eq] at e ⊢; omega
  | .str x, e => by simpa only [wfB] using e
  | .list xs, e => by simp only [wfB] at e ⊢; exact wfL_mono h xs e
  | .tuple xs, e => by simp only [wfB] at e ⊢; exact wfL_mono h xs e
  | .dict _, e => by simp [wfB] at e
theorem wfL_mono {b b' : Nat} (h : b ≤ b') : ∀ xs : List D, wfLB b xs = true → wfLB b' xs = true
  | [], _ => by simp [wfLB]
  | x :: xs, e => by
    simp only [wfLB, Bool.and_eq_true] at e ⊢
    exact ⟨wf_mono h x e.1, wfL_mono h xs e.2⟩
end
theorem big_log {i : Int} (h : i.natAbs ≤ big) : i.natAbs.log2 < 1900 := by
  by_cases z : i.natAbs = 0
  · rw [z]; decide
  · have : i.natAbs.log2 < 200 := (Nat.log2_lt z).mpr (Nat.lt_of_le_of_lt h (by decide))
    omega
theorem big_text {i : Int} (h : i.natAbs ≤ big) : (Str.ofString (toString i)).length ≤ 60 := by
  have := int_text_length_le10 (a := i) (k := 51) (by decide) (Nat.lt_of_le_of_lt h (by decide))
  rw [PySem.ofString_length]; omega
theorem depthAll_le : ∀ {xs : List D} {k : Nat}, PyData.depthAll xs ≤ k ↔ ∀ x ∈ xs, x.depth ≤ k
  | [], k => by simp [PyData.depthAll]
  | x :: xs, k => by
    simp only [PyData.depthAll, List.forall_mem_cons, ← depthAll_le (xs := xs)]
    omega
mutual
theorem wf_lay : ∀ d : D, wf d = true → d.canLay0 = true
  | .none, _ => by simp [PyData.canLay0]
  | .bool _, _ => by simp [PyData.canLay0]
  | .int _, _ => by simp [PyData.canLay0]
  | .str x, h => by
    simp only [PyData.canLay0, PyData.strOk]
    exact h
  | .list xs, h => by simp only [PyData.canLay0]; exact wfL_lay xs (by simpa [wf, wfB] using h)
  | .tuple xs, h => by simp only [PyData.canLay0]; exact wfL_lay xs (by simpa [wf, wfB] using h)
  | .dict _, h => by simp [wf, wfB] at h
theorem wfL_lay : ∀ xs : List D, wfL xs = true → PyData.canLayAll0 xs = true
  | [], _ => by simp [PyData.canLayAll0]
  | x :: xs, h => by
    simp only [wfL, wfLB, Bool.and_eq_true] at h
    simp only [PyData.canLayAll0, wf_lay x h.1, wfL_lay xs h.2, Bool.and_self]
end
mutual
theorem wf_show : ∀ d : D, wf d = true → d.showable = true
  | .none, _ => by simp [PyData.showable]
  | .bool _, _ => by simp [PyData.showable]
  | .int i, h => by
    simp only [wf, wfB, decide_eq_true_eq] at h
    simp only [PyData.showable, decide_eq_true_eq]
    have := big_log h
    omega
  | .str x, h => by simp [PyData.showable]
  | .list xs, h => by simp only [PyData.showable]; exact wfL_show xs (by simpa [wf, wfB] using h)
  | .tuple xs, h => by simp only [PyData.showable]; exact wfL_show xs (by simpa [wf, wfB] using h)
  | .dict _, h => by simp [wf, wfB] at h
theorem wfL_show : ∀ xs : List D, wfL xs = true → PyData.showableAll xs = true
  | [], _ => by simp [PyData.showableAll]
  | x :: xs, h => by
    simp only [wfL, wfLB, Bool.and_eq_true] at h
    simp only [PyData.showableAll, wf_show x h.1, wfL_show xs h.2, Bool.and_self]
end
theorem listText_le (ts : List Str) : (listText ts).length ≤ piled ts + 4 := by
  unfold listText
  rw [strLen_append]
  have e1 : (("]" : String) : Str).length = 1 := rfl
  cases ts with
  | nil => show (("[" : String) : Str).length + _ ≤ _; have : (("[" : String) : Str).length = 1 := rfl; omega
  | cons t r =>
    show (textFrom 1 ((("[" : String) : Str) ++ (((if (0 : Nat) > 0 then ", " else "") : String) : Str) ++ t) r).length + _ ≤ _
    rw [textFrom_length_pos r 1 _ (by decide), strLen_append, strLen_append, piled_cons]
    have e2 : (("[" : String) : Str).length = 1 := rfl
    have e3 : ((((if (0 : Nat) > 0 then ", " else "") : String)) : Str).length = 0 := rfl
    omega
theorem tupleText_le (ts : List Str) : (tupleText ts).length ≤ piled ts + 4 := by
  unfold tupleText
  rw [strLen_append, strLen_append]
  have e1 : ((("(" : String) : Str)).length = 1 := rfl
  have e2 : (((if ts.length == 1 then ",)" else ")") : String) : Str).length ≤ 2 := by split <;> decide
  by_cases h : ts = []
  · subst h
    have e3 : (Str.join ", " []).length = 0 := rfl
    omega
  · have := join_length_add ts h
    omega
mutual
theorem shown_le : ∀ d : D, wf d = true → d.shown.length ≤ siz d
  | .none, _ => by simp only [PyData.shown, siz]; decide
  | .bool b, _ => by simp only [PyData.shown, siz]; cases b <;> decide
  | .int i, h => by
    simp only [wf, wfB, decide_eq_true_eq] at h
    simp only [PyData.shown, siz]
    exact big_text h
  | .str x, h => by
    simp only [PyData.shown, siz]
    refine StrLaws.reprText_len x fun c hc => ?_
    have h' : x.cps.all (· < 1114112) = true := by simpa [wf, wfB] using h
    have := (Array.all_eq_true'.mp h') c (by simpa using hc)
    simp only [decide_eq_true_eq] at this
    have e : (16 : Nat) ^ 8 = 4294967296 := by decide
    omega
  | .list xs, h => by
    simp only [PyData.shown, siz]
    have := shownL_le xs (by simpa [wf, wfB] using h)
    have := listText_le (PyData.shownAll xs)
    omega
  | .tuple xs, h => by
    simp only [PyData.shown, siz]
    have := shownL_le xs (by simpa [wf, wfB] using h)
    have := tupleText_le (PyData.shownAll xs)
    omega
  | .dict _, h => by simp [wf, wfB] at h
theorem shownL_le : ∀ xs : List D, wfL xs = true → piled (PyData.shownAll xs) ≤ sizL xs
  | [], _ => by simp [PyData.shownAll, piled_nil]
  | x :: xs, h => by
    simp only [wfL, wfLB, Bool.and_eq_true] at h
    have h1 := shown_le x h.1
    have h2 := shownL_le xs h.2
    simp only [PyData.shownAll, piled_cons, sizL]
    omega
end
/-- data of numbers up to b, of a depth of at most k, whose text has at most m characters -/
structure NiceB (b k m : Nat) (d : D) : Prop where
  okB : wfB b d = true
  bb : b ≤ big
  dp : d.depth ≤ k
  sz : siz d ≤ m
abbrev Nice (k m : Nat) (d : D) : Prop := NiceB big k m d
section
variable {b b' k m k' m' : Nat} {d : D} {xs : List D}
theorem NiceB.ok (h : NiceB b k m d) : wf d = true := wf_mono h.bb d h.okB
theorem NiceB.shaped (h : NiceB b k m d) (hk : k ≤ 60) : SeqAt.shaped d = true := by
  unfold SeqAt.shaped
  rw [wf_lay d h.ok, Bool.true_and, decide_eq_true_eq]
  exact Nat.le_trans h.dp (by omega)
theorem NiceB.shows (h : NiceB b k m d) (hk : k ≤ 60) (hm : m ≤ 16777216) : Shows d :=
  ⟨wf_show d h.ok, PyData.hasDict_of_canLay d (wf_lay d h.ok), Nat.le_trans (shown_le d h.ok) (Nat.le_trans h.sz hm), Nat.le_trans h.dp hk⟩
theorem NiceB.mono (h : NiceB b k m d) (hk : k ≤ k') (hm : m ≤ m') : NiceB b k' m' d := ⟨h.okB, h.bb, Nat.le_trans h.dp hk, Nat.le_trans h.sz hm⟩
theorem NiceB.up (h : NiceB b k m d) (hb : b ≤ b') (h' : b' ≤ big) : NiceB b' k m d := ⟨wf_mono hb d h.okB, h', h.dp, h.sz⟩
theorem NiceB.nice (h : NiceB b k m d) : Nice k m d := h.up h.bb (Nat.le_refl _)
theorem sizL_le {m : Nat} : ∀ {xs : List D}, (∀ x ∈ xs, siz x ≤ m) → sizL xs ≤ xs.length * (m + 2)
  | [], _ => by simp [sizL]
  | x :: xs, h => by
    have h1 := h x (by simp)
    have h2 := sizL_le (xs := xs) fun y hy => h y (by simp [hy])
    simp only [sizL, List.length_cons, Nat.add_mul]
    omega
theorem nice_list (hb : b ≤ big) (h : ∀ x ∈ xs, NiceB b k m x) : NiceB b (k + 1) (xs.length * (m + 2) + 4) (.list xs) :=
  ⟨by simp only [wfB]; exact wfL_iff.mpr fun x hx => (h x hx).okB, hb, by simp only [PyData.depth]; have := depthAll_le.mpr fun x hx => (h x hx).dp; omega, by simp only [siz]; have := sizL_le fun x hx => (h x hx).sz; omega⟩
theorem nice_tuple (hb : b ≤ big) (h : ∀ x ∈ xs, NiceB b k m x) : NiceB b (k + 1) (xs.length * (m + 2) + 4) (.tuple xs) :=
  ⟨by simp only [wfB]; exact wfL_iff.mpr fun x hx => (h x hx).okB, hb, by simp only [PyData.depth]; have := depthAll_le.mpr fun x hx => (h x hx).dp; omega, by simp only [siz]; have := sizL_le fun x hx => (h x hx).sz; omega⟩
theorem nice_int {i : Int} (hb : b ≤ big) (h : i.natAbs ≤ b) : NiceB b 0 60 (.int i) := ⟨by simpa [wfB] using h, hb, by simp [PyData.depth], by simp [siz]⟩
theorem nice_bool {c : Bool} (hb : b ≤ big) : NiceB b 0 60 (.bool c) := ⟨by simp [wfB], hb, by simp [PyData.depth], by simp [siz]⟩
theorem nice_none (hb : b ≤ big) : NiceB b 0 60 .none := ⟨by simp [wfB], hb, by simp [PyData.depth], by simp [siz]⟩
theorem nice_small {i : Int} (h0 : -1267650600228229401496703205376 < i) (h1 : i < 1267650600228229401496703205376) : Nice 0 60 (.int i) := by
  have e : big = 100000000000000000000000000000000000000000000000000 := rfl
  exact nice_int (Nat.le_refl _) (by omega)
end
theorem shp_in {d : D} {P : Prop} (h : SeqAt.shaped d = true) (p : P) : shp d P := by
  unfold shp
  rw [h]
  exact p
theorem feq_in {d e : D} {Q : DV → Prop} (h : SeqAt.shaped d = true) (h' : SeqAt.shaped e = true) (q : Q (.d (.bool (PyData.eqv d e)))) : fEq d e Q := by
  unfold fEq
  exact .inl (shp_in h (shp_in h' q))
theorem fne_in {d e : D} {Q : DV → Prop} (h : SeqAt.shaped d = true) (h' : SeqAt.shaped e = true) (q : Q (.d (.bool (!PyData.eqv d e)))) : fNe d e Q := by
  unfold fNe
  exact .inl (shp_in h (shp_in h' q))
theorem fne_str {x y : Str} {Q : DV → Prop} (q : Q (.d (.bool (!decide (x = y))))) : fNe (.str x) (.str y) Q := by
  unfold fNe
  exact .inr ⟨x, y, rfl, rfl, q⟩
theorem feq_str {x y : Str} {Q : DV → Prop} (q : Q (.d (.bool (decide (x = y))))) : fEq (.str x) (.str y) Q := by
  unfold fEq
  exact .inr ⟨x, y, rfl, rfl, q⟩
theorem few_in {n : Nat} {P : Prop} (h : n ≤ 1000) (p : P) : few n P := by
  unfold few
  rw [Nat.ble_eq_true_of_le h]
  exact p
end SF

/-! R1: promises and readings of the laws' common helpers (draws). -/
namespace SF
open PySem PySem.Spec PyProof.Rows L2
/-- the ends of a def's body -/
abbrev fin (Qa : DV → Nat → Prop) : DEn := ⟨fun ds => Qa (.d .none) ds.n, fun r ds => Qa r ds.n, fun _ => False, fun _ => False⟩
/-- the items of a list or tuple -/
def itsD : D → Option (List D)
  | .list xs => some xs
  | .tuple xs => some xs
  | _ => none
theorem atI_in {α : Type} {xs : List α} {k : Int} (h0 : 0 ≤ k) (h : k < (xs.length : Int)) : ∃ v, atI xs k = some v ∧ xs[k.toNat]? = some v := by
  have hk : k.toNat < xs.length := by omega
  have ek : k = ((k.toNat : Nat) : Int) := by omega
  have q : atI xs ((k.toNat : Nat) : Int) = some xs[k.toNat] := atI_nat (List.getElem?_eq_getElem hk)
  rw [← ek] at q
  exact ⟨_, q, List.getElem?_eq_getElem hk⟩
def sp_pick : DSp := fun args n Q _ => ∃ d xs, args = [.box, .d d] ∧ itsD d = some xs ∧ 0 < xs.length ∧ xs.length ≤ 100000 ∧ 3 ≤ n ∧ ∀ x ∈ xs, Q (.d x) (n - 3)
theorem r_pick : ∀ args n Qa Ea, sp_pick args n Qa Ea → t_pick sp_take (fin Qa) (startD 2 args n) := by
  rintro args n Qa Ea ⟨d, xs, rfl, hd, h0, h1, hn, hq⟩
  have main : ∀ r : Int, 0 ≤ r → r < (xs.length : Int) → someD (atI xs r) fun x => Qa (.d x) (n - 3) := fun r r0 r1 => by
    obtain ⟨v, e1, e2⟩ := atI_in r0 r1
    rw [e1]
    exact hq v (List.mem_of_getElem? e2)
  cases d with
  | list ys => cases hd; exact ⟨_, rfl, by omega, by omega, hn, main⟩
  | tuple ys => cases hd; exact ⟨_, rfl, by omega, by omega, hn, main⟩
  | _ => cases hd
def sp_shuffled : DSp := fun args n Q _ => ∃ d xs, args = [.box, .d d] ∧ itsD d = some xs ∧ xs.length ≤ 1000 ∧ (∀ x ∈ xs, Nice 50 100000 x) ∧ 3 * xs.length ≤ n ∧ ∀ ys, ys.Perm xs → Q (.own ys) (n - 3 * xs.length)
theorem eqvNil {l : List D} : PyData.eqv (.list l) (.list []) = l.isEmpty := by cases l <;> simp [PyData.eqv, PyData.eqvAll]
theorem ixN_in {n : Nat} {r : Int} (h0 : 0 ≤ r) (h : r < (n : Int)) : ixN n r = some r.toNat := by
  unfold ixN
  first
    | (split <;> first | rfl | omega | (split <;> first | rfl | omega))
    | simp [h0, h]
theorem perm_erase {α : Type} : ∀ {l : List α} {j : Nat} {y : α}, l[j]? = some y → (y :: l.eraseIdx j).Perm l
  | [], j, y, h => by simp at h
  | a :: l, 0, y, h => by simp at h; subst h; exact .refl _
  | a :: l, j + 1, y, h => by
    rw [List.eraseIdx_cons_succ]
    exact (List.Perm.swap a y _).trans (.cons a (perm_erase (by simpa using h)))
theorem perm_pop {f l xs : List D} {j : Nat} {y : D} (h : (f ++ l).Perm xs) (hy : l[j]? = some y) : ((f ++ [y]) ++ l.eraseIdx j).Perm xs := by
  have hj : j < l.length := (List.getElem?_eq_some_iff.mp hy).1
  have e : l[j] = y := (List.getElem?_eq_some_iff.mp hy).2
  have p : (y :: l.eraseIdx j).Perm l := perm_erase hy
  rw [List.append_assoc]
  exact (List.Perm.append_left f p).trans h
theorem r_shuffled : ∀ args n Qa Ea, sp_shuffled args n Qa Ea → t_shuffled sp_take (fin Qa) (startD 4 args n) := by
  rintro args n Qa Ea ⟨d, xs, rfl, hd, h1, hs, hn, hq⟩
  have main : (dSeq (dWhile (dTst (dOp2 fNe (dVar 2) (dLst dNil))) (dDrop (dMut 3 gAppend (dCons (dMut 2 gPopAt (dCons (dCall sp_take (fun as => as) (dCons (dVar 0) (dCons (dCB fLen (dCons (dVar 2) dNil)) dNil))) dNil)) dNil))))
    (dRet (dVar 3))) (fin Qa) ⟨[some .box, some (.d d), some (.own xs), some (.own [])], n⟩ := by
    refine ⟨fun m ds => ∃ l f, ds = ⟨[some .box, some (.d d), some (.own l), some (.own f)], n - 3 * f.length⟩ ∧ m = l.length ∧ (f ++ l).Perm xs, ⟨xs.length, xs, [], rfl, rfl, .refl _⟩, ?_⟩
    rintro m ds ⟨l, f, rfl, rfl, hp⟩
    have hl : l.length + f.length = xs.length := by have := hp.length_eq; rw [List.length_append] at this; omega
    refine fne_in ((nice_list (k := 50) (m := 100000) (Nat.le_refl _) fun x hx => hs x (hp.subset (List.mem_append.mpr (.inr hx)))).shaped (by omega)) (by decide) ?_
    rw [eqvNil]
    cases l with
    | nil =>
      have e : f.length = xs.length := by simpa using hl
      show Qa (.own f) (n - 3 * f.length)
      rw [e]
      exact hq f (by simpa using hp)
    | cons a l =>
      have hl' : l.length + 1 + f.length = xs.length := by simpa using hl
      refine ⟨_, rfl, by simp only [List.length_cons]; omega, by simp only [List.length_cons]; omega, by show 3 ≤ n - 3 * f.length; omega, fun r r0 r1 => ?_⟩
      show someD (ixN (a :: l).length r) _
      rw [ixN_in r0 r1]
      obtain ⟨v, e1, e2⟩ := atI_in r0 r1
      show someD ((a :: l)[r.toNat]?) _
      rw [e2]
      refine ⟨by simp only [List.length_cons]; omega, ?_, ?_⟩
      · show f.length < 16777216
        omega
      · refine ⟨l.length, by simp, (a :: l).eraseIdx r.toNat, f ++ [v], ?_, ?_, perm_pop hp e2⟩
        · show (⟨_, n - 3 * f.length - 3⟩ : DS) = ⟨_, n - 3 * (f ++ [v]).length⟩
          rw [List.length_append, List.length_singleton, show n - 3 * f.length - 3 = n - 3 * (f.length + 1) by omega]
          rfl
        · rw [List.length_eraseIdx]
          have : r.toNat < (a :: l).length := by simp only [List.length_cons] at r1 ⊢; omega
          rw [if_pos this, List.length_cons]; omega
  cases d with
  | list ys => cases hd; exact main
  | tuple ys => cases hd; exact main
  | _ => cases hd

def intsV (gs : List Int) : List D := gs.map .int
/-- ascending numbers from 1 to m -/
structure Asc (m : Int) (gs : List Int) : Prop where
  lt : gs.Pairwise (· < ·)
  lo : ∀ g ∈ gs, 1 ≤ g
  hi : ∀ g ∈ gs, g ≤ m
def sp_gauges : DSp := fun args n Q _ => ∃ t : Int, args = [.box, .d (.int t)] ∧ 0 ≤ t ∧ t ≤ 100 ∧ 6 + 3 * t.toNat ≤ n ∧ ∀ gs n', Asc 2000000000 gs → gs.length = t.toNat → n ≤ n' + 6 + 3 * t.toNat → Q (.d (.tuple (gs.map .int))) n'
theorem r_gauges : ∀ args n Qa Ea, sp_gauges args n Qa Ea → t_gauges sp_take sp_pick (fin Qa) (startD 6 args n) := by
  rintro args n Qa Ea ⟨t, rfl, t0, t1, hn, hq⟩
  refine ⟨⟨by decide, by decide, by decide⟩, _, [.int 1, .int 1, .int 3, .int 10000000], rfl, rfl, by decide, by decide, by show 3 ≤ n; omega, fun x hx => ?_⟩
  have hg : ∃ g : Int, x = .int g ∧ 1 ≤ g ∧ g ≤ 10000000 := by
    simp only [List.mem_cons, List.not_mem_nil, or_false] at hx
    rcases hx with h | h | h | h <;> subst h <;> exact ⟨_, rfl, by decide, by decide⟩
  obtain ⟨g, rfl, g0, g1⟩ := hg
  refine ⟨3, rfl, by decide, by decide, by show 3 ≤ n - 3; omega, fun r r0 r1 => ?_⟩
  refine ⟨by omega, by omega, ?_⟩
  refine ⟨fun i ds => ∃ (top : Int) (gs : List Int) (k : Option DV) (n' : Nat), ds = ⟨[some .box, some (.d (.int t)), some (.d (.int g)), some (.d (.int top)), some (.own (gs.map .int)), k], n'⟩ ∧ gs.length = i ∧ gs.Pairwise (· < ·) ∧ (∀ z ∈ gs, 1 ≤ z ∧ z ≤ top) ∧ 0 ≤ top ∧ top ≤ 2 + 10000000 * i ∧ n ≤ n' + 6 + 3 * i, ⟨r, [], none, _, rfl, rfl, .nil, by simp, r0, by omega, by show n ≤ n - 3 - 3 + 6 + 3 * 0; omega⟩, ?_, ?_⟩
  · rintro i d ds hi ⟨top, gs, k, n', rfl, hl, hp, hb, h0, h1, hn'⟩
    have hi' : i < t.toNat := by
      obtain ⟨q, _⟩ := List.getElem?_eq_some_iff.mp hi
      rw [rangeD_len] at q
      exact q
    refine ⟨g, rfl, by omega, by omega, by show 3 ≤ n'; omega, fun s s0 s1 => ?_⟩
    refine ⟨by rw [List.length_map, hl]; omega, ?_⟩
    refine ⟨top + 1 + s, gs ++ [top + 1 + s], _, n' - 3, by rw [List.map_append]; rfl, by rw [List.length_append, hl]; rfl, ?_, ?_, by omega, by omega, by omega⟩
    · rw [List.pairwise_append]
      exact ⟨hp, List.pairwise_singleton _ _, fun a ha b hb' => by have := hb a ha; simp at hb'; omega⟩
    · intro z hz
      rw [List.mem_append] at hz
      rcases hz with hz | hz
      · have := hb z hz; omega
      · simp at hz; omega
  · rintro ds ⟨top, gs, k, n', rfl, hl, hp, hb, h0, h1, hn'⟩
    rw [rangeD_len] at hl h1 hn'
    exact hq gs n' ⟨hp, fun z hz => (hb z hz).1, fun z hz => by have := hb z hz; omega⟩ hl hn'

theorem idx_int {gs : List Int} {h : Int} (hm : h ∈ gs) : ∃ j, idxD (gs.map .int) (.int h) = some j ∧ gs[j]? = some h := by
  have hs : (scD (.int h) && (gs.map PyData.int).all scD) = true := by
    rw [Bool.and_eq_true]
    exact ⟨rfl, List.all_eq_true.mpr fun x hx => by obtain ⟨g, _, e⟩ := List.mem_map.mp hx; subst e; rfl⟩
  unfold idxD
  rw [hs]
  show ∃ j, List.findIdx? _ _ = some j ∧ _
  cases e : List.findIdx? (fun y => PyData.eqv y (.int h)) (gs.map PyData.int) with
  | none =>
    rw [List.findIdx?_eq_none_iff] at e
    have := e (.int h) (List.mem_map.mpr ⟨h, hm, rfl⟩)
    simp [PyData.eqv] at this
  | some j =>
    refine ⟨j, rfl, ?_⟩
    rw [List.findIdx?_eq_some_iff_getElem] at e
    obtain ⟨hj, he, _⟩ := e
    rw [List.getElem_map] at he
    have : gs[j]'(by simpa using hj) = h := by simpa [PyData.eqv] using he
    exact List.getElem?_eq_some_iff.mpr ⟨by simpa using hj, this⟩
theorem asc_get {gs : List Int} (hp : gs.Pairwise (· < ·)) {i j : Nat} {a b : Int} (hi : gs[i]? = some a) (hj : gs[j]? = some b) (h : i ≤ j) : a ≤ b := by
  obtain ⟨h1, e1⟩ := List.getElem?_eq_some_iff.mp hi
  obtain ⟨h2, e2⟩ := List.getElem?_eq_some_iff.mp hj
  rcases Nat.lt_or_eq_of_le h with h | h
  · have := List.pairwise_iff_getElem.mp hp i j h1 h2 h
    omega
  · subst h; rw [← e1, ← e2]; exact Int.le_refl _
theorem at_map {gs : List Int} {k : Int} (h0 : 0 ≤ k) (h : k < (gs.length : Int)) : ∃ v, atI (gs.map PyData.int) k = some (.int v) ∧ gs[k.toNat]? = some v := by
  obtain ⟨v, e1, e2⟩ := atI_in (xs := gs.map PyData.int) h0 (by rw [List.length_map]; exact h)
  rw [List.getElem?_map] at e2
  cases q : gs[k.toNat]? with
  | none => rw [q] at e2; cases e2
  | some g => rw [q] at e2; cases e2; exact ⟨g, e1, rfl⟩
theorem someI {α : Type} {o : Option α} {x : α} {P : α → Prop} (e : o = some x) (h : P x) : someD o P := by subst e; exact h
def prD (p : Int × Int) : D := .tuple [.int p.1, .int p.2]
def sp_span : DSp := fun args n Q _ => ∃ (gs : List Int) (h : Int), args = [.box, .d (.tuple (gs.map .int)), .d (.int h)] ∧ Asc 2000000000 gs ∧ gs.length ≤ 1000 ∧ h ∈ gs ∧ 15 ≤ n ∧
  ∀ p : Int × Int, 1 ≤ p.1 → p.1 ≤ h → h ≤ p.2 → p.2 ≤ 2000000001 → Q (.d (prD p)) (n - 15)
theorem r_span : ∀ args n Qa Ea, sp_span args n Qa Ea → t_span sp_take (fin Qa) (startD 9 args n) := by
  rintro args n Qa Ea ⟨gs, h, rfl, ha, hl, hm, hn, hq⟩
  obtain ⟨j, ej, gj⟩ := idx_int hm
  have jl : j < gs.length := (List.getElem?_eq_some_iff.mp gj).1
  refine someI (intsD_map gs) (someI ej ?_)
  refine ⟨5, rfl, by decide, by decide, by show 3 ≤ n; omega, fun r r0 r1 => ?_⟩
  refine ⟨_, rfl, by omega, by omega, by show 3 ≤ n - 3; omega, fun r2 r20 r21 => ?_⟩
  have hlen : ((gs.map PyData.int).length : Int) = gs.length := by rw [List.length_map]
  generalize ef : ((j : Nat) : Int) - (if r < ((j : Nat) : Int) then r else ((j : Nat) : Int)) = first
  generalize el : (if ((j : Nat) : Int) + r2 < ((gs.map PyData.int).length : Int) - 1 then ((j : Nat) : Int) + r2 else ((gs.map PyData.int).length : Int) - 1) = last
  have f0 : 0 ≤ first ∧ first ≤ j := by
    subst ef
    split <;> constructor <;> omega
  have l0 : (j : Int) ≤ last ∧ last < gs.length := by
    subst el
    rw [hlen]
    split <;> constructor <;> omega
  subst ef el
  refine ⟨_, rfl, ?_, ?_, by show 3 ≤ n - 3 - 3; omega, fun r3 r30 r31 => ?_⟩
  · omega
  · omega
  have hr3 : 0 ≤ r3 + ((j : Nat) - (if r < (j : Nat) then r else (j : Nat)) : Int) ∧ r3 + ((j : Nat) - (if r < (j : Nat) then r else (j : Nat)) : Int) ≤ j := ⟨by omega, by omega⟩
  obtain ⟨b, eb, gb⟩ := at_map (gs := gs) hr3.1 (by omega)
  refine someI eb ?_
  obtain ⟨t, et, gt⟩ := at_map (gs := gs) (Int.le_trans (Int.natCast_nonneg j) l0.1) l0.2
  refine someI et ?_
  refine ⟨2, rfl, by decide, by decide, by show 3 ≤ n - 3 - 3 - 3; omega, fun r4 r40 r41 => ?_⟩
  refine ⟨2, rfl, by decide, by decide, by show 3 ≤ n - 3 - 3 - 3 - 3; omega, fun r5 r50 r51 => ?_⟩
  have b1 : 1 ≤ b := ha.lo b (List.mem_of_getElem? gb)
  have bh : b ≤ h := asc_get ha.lt gb gj (by omega)
  have ht : h ≤ t := asc_get ha.lt gj gt (by omega)
  have tM : t ≤ 2000000000 := ha.hi t (List.mem_of_getElem? gt)
  have key := hq (b - (if r4 < b - 1 then r4 else b - 1), t + r5) (by dsimp only; split <;> omega) (by dsimp only; split <;> omega) (by dsimp only; omega) (by dsimp only; omega)
  show Qa _ (n - 3 - 3 - 3 - 3 - 3)
  rw [show n - 3 - 3 - 3 - 3 - 3 = n - 15 by omega]
  exact key
def toI : D → Int
  | .int i => i
  | _ => 0
theorem perm_ints {ys : List D} {gs : List Int} (h : ys.Perm (gs.map .int)) : ∃ zs : List Int, zs.Perm gs ∧ ys = zs.map .int := by
  refine ⟨ys.map toI, ?_, ?_⟩
  · have := h.map toI
    rw [List.map_map] at this
    have e : gs.map (toI ∘ PyData.int) = gs := by
      induction gs with
      | nil => rfl
      | cons g gs ih => simp [toI, Function.comp_def]
    rw [e] at this
    exact this
  · rw [List.map_map]
    have : ∀ y ∈ ys, (PyData.int ∘ toI) y = y := fun y hy => by
      obtain ⟨g, _, e⟩ := List.mem_map.mp (h.subset hy)
      subst e; rfl
    calc ys = ys.map id := by simp
      _ = ys.map (PyData.int ∘ toI) := List.map_congr_left fun y hy => (this y hy).symm
theorem cut_head {xs : List D} {k : Int} (h0 : 0 ≤ k) (h : k ≤ (xs.length : Int)) : cutD xs none (some k) = xs.take k.toNat := by
  unfold cutD
  rw [HT.sIx_none, List.drop_zero, Nat.sub_zero]
  have ek : k = ((k.toNat : Nat) : Int) := by omega
  rw [ek, HT.sIx_nat, Int.toNat_natCast, Nat.min_eq_left (by omega)]
/-- a shop as the laws draw it: ascending sizes, a range for each machine, and a setting -/
structure Shop (gs : List Int) (ps : List (Int × Int)) (st : List Int) : Prop where
  asc : Asc 2000000000 gs
  len : gs.length ≤ 100
  one : 0 < st.length
  eqv : st.length = ps.length
  nd : st.Nodup
  sub : ∀ g ∈ st, g ∈ gs
  rng : ∀ p ∈ ps, 1 ≤ p.1 ∧ p.1 ≤ p.2 ∧ p.2 ≤ 2000000001
  fit : ∀ (i : Nat) p g, ps[i]? = some p → st[i]? = some g → p.1 ≤ g ∧ g ≤ p.2
def shopD (gs : List Int) (ps : List (Int × Int)) : D := .tuple [.tuple (gs.map .int), .tuple (ps.map prD)]
def sp_plant : DSp := fun args n Q _ => ∃ a b : Int, args = [.box, .d (.int a), .d (.int b)] ∧ 1 ≤ a ∧ a ≤ b ∧ b ≤ 100 ∧ 100000 ≤ n ∧
  ∀ gs ps st n', Shop gs ps st → (st.length : Int) ≤ a → (gs.length : Int) ≤ b → n ≤ n' + 100000 → Q (.d (.tuple [shopD gs ps, .tuple (st.map .int)])) n'
theorem r_plant : ∀ args n Qa Ea, sp_plant args n Qa Ea → t_plant sp_take sp_gauges sp_shuffled sp_span (fin Qa) (startD 7 args n) := by
  rintro args n Qa Ea ⟨a, b, rfl, a1, ab, b1, hn, hq⟩
  refine ⟨a, rfl, by omega, by omega, by show 3 ≤ n; omega, fun r r0 r1 => ?_⟩
  refine ⟨b - (1 + r) + 1, rfl, by omega, by omega, by show 3 ≤ n - 3; omega, fun r2 r20 r21 => ?_⟩
  generalize et : (if 1 + r + r2 < b then 1 + r + r2 else b) = t
  have ht : 1 + r ≤ t ∧ t ≤ b := by subst et; split <;> constructor <;> omega
  refine ⟨t, by rw [← et], by omega, by omega, by show _ ≤ n - 3 - 3; omega, fun gs n2 ha hl hn2 => ?_⟩
  have hn2' : n - 3 - 3 ≤ n2 + 6 + 3 * t.toNat := hn2
  refine ⟨_, gs.map .int, rfl, rfl, by rw [List.length_map]; omega, fun x hx => ?_, by rw [List.length_map]; show _ ≤ n2; omega, fun ys hy => ?_⟩
  · obtain ⟨g, hg, e⟩ := List.mem_map.mp hx
    subst e
    exact (nice_small (by have := ha.lo g hg; omega) (by have := ha.hi g hg; omega)).mono (by omega) (by omega)
  rw [List.length_map]
  obtain ⟨zs, hz, rfl⟩ := perm_ints hy
  have hzl : zs.length = t.toNat := hz.length_eq.trans hl
  have e : cutD (zs.map PyData.int) none (some (1 + r)) = (zs.take (1 + r).toNat).map .int := by
    rw [cut_head (by omega) (by rw [List.length_map]; omega), List.map_take]
  have rest : ∀ (st : List Int) (n3 : Nat), st.Nodup → (∀ g ∈ st, g ∈ gs) → 0 < st.length → (st.length : Int) ≤ a → n2 ≤ n3 + 3 * t.toNat → t_plant_3 sp_span (fin Qa) ⟨[some .box, some (.d (.int a)), some (.d (.int b)), some (.d (.int (1 + r))), some (.d (.tuple (gs.map .int))), some (.d (.tuple (st.map .int))), none], n3⟩ := by
    intro st n3 s1 s2 s3 s4 hn3
    refine lc_in (fun K hK => hK) rfl (fun i acc ds => ∃ (ps : List (Int × Int)) (n4 : Nat), acc = ps.map prD ∧ ps.length = i ∧ ds = ⟨[some .box, some (.d (.int a)), some (.d (.int b)), some (.d (.int (1 + r))), some (.d (.tuple (gs.map .int))), some (.d (.tuple (st.map .int))), none], n4⟩ ∧ n3 ≤ n4 + 15 * i ∧ (∀ p ∈ ps, 1 ≤ p.1 ∧ p.1 ≤ p.2 ∧ p.2 ≤ 2000000001) ∧ ∀ (j : Nat) p g, ps[j]? = some p → st[j]? = some g → p.1 ≤ g ∧ g ≤ p.2) ⟨[], n3, rfl, rfl, rfl, by omega, by simp, by simp⟩ ?_ ?_
    · rintro i d acc ds hi ⟨ps, n4, rfl, hl', rfl, hn4, hb, hf⟩
      rw [List.getElem?_map] at hi
      cases q : st[i]? with
      | none => rw [q] at hi; cases hi
      | some g =>
        rw [q] at hi; cases hi
        have il : i < st.length := (List.getElem?_eq_some_iff.mp q).1
        refine ⟨gs, g, rfl, ha, by omega, s2 g (List.mem_of_getElem? q), by show 15 ≤ n4; omega, fun p p1 p2 p3 p4 => ?_⟩
        refine ⟨ps ++ [p], n4 - 15, by rw [List.map_append]; rfl, by rw [List.length_append, hl']; rfl, rfl, by omega, fun x hx => ?_, fun j x y hx hy => ?_⟩
        · rw [List.mem_append] at hx
          rcases hx with hx | hx
          · exact hb x hx
          · simp at hx; subst hx; exact ⟨p1, by omega, p4⟩
        · by_cases hj : j < ps.length
          · rw [List.getElem?_append_left hj] at hx
            exact hf j x y hx hy
          · rw [List.getElem?_append_right (by omega)] at hx
            have hj2 : j - ps.length < 1 := by simpa using (List.getElem?_eq_some_iff.mp hx).1
            have ej : j = i := by omega
            subst ej
            rw [show j - ps.length = 0 by omega] at hx
            simp at hx; subst hx
            rw [q] at hy; cases hy
            exact ⟨p2, p3⟩
    · rintro acc ds ⟨ps, n4, rfl, hl', rfl, hn4, hb, hf⟩
      rw [List.length_map] at hl' hn4
      exact hq gs ps st n4 ⟨ha, by omega, s3, hl'.symm, s1, s2, hb, hf⟩ s4 (by omega) (by omega)
  have nz : zs.Nodup := hz.nodup_iff.mpr (ha.lt.imp fun h => Int.ne_of_lt h)
  have key := rest (zs.take (1 + r).toNat) (n2 - 3 * gs.length) (nz.sublist (List.take_sublist _ _)) (fun g hg => hz.subset (List.mem_of_mem_take hg)) (by rw [List.length_take]; omega) (by rw [List.length_take]; omega) (by omega)
  rw [← e] at key
  exact key
end SF

/-! R2: same, lists. -/
namespace SF
open PySem PySem.Spec PyProof.Rows L2
mutual
theorem eqv_refl : ∀ d : D, wf d = true → PyData.eqv d d = true
  | .none, _ => by simp [PyData.eqv]
  | .bool _, _ => by simp [PyData.eqv]
  | .int _, _ => by simp [PyData.eqv]
  | .str _, _ => by simp [PyData.eqv]
  | .list xs, h => by simp only [PyData.eqv]; exact eqvL_refl xs (by simpa [wf, wfB] using h)
  | .tuple xs, h => by simp only [PyData.eqv]; exact eqvL_refl xs (by simpa [wf, wfB] using h)
  | .dict _, h => by simp [wf, wfB] at h
theorem eqvL_refl : ∀ xs : List D, wfL xs = true → PyData.eqvAll xs xs = true
  | [], _ => by simp [PyData.eqvAll]
  | x :: xs, h => by
    simp only [wfL, wfLB, Bool.and_eq_true] at h
    simp only [PyData.eqvAll, eqv_refl x h.1, eqvL_refl xs h.2, Bool.and_self]
end
theorem shaped_int (i : Int) : SeqAt.shaped (.int i) = true := by simp [SeqAt.shaped, PyData.canLay0, PyData.depth]
theorem shaped_bool (b : Bool) : SeqAt.shaped (.bool b) = true := by simp [SeqAt.shaped, PyData.canLay0, PyData.depth]
theorem shaped_none : SeqAt.shaped .none = true := by simp [SeqAt.shaped, PyData.canLay0, PyData.depth]
/-- a == a -/
theorem feq_self {d : D} {Q : DV → Prop} {k m : Nat} (h : Nice k m d) (hk : k ≤ 60) (q : Q (.d (.bool true))) : fEq d d Q := feq_in (h.shaped hk) (h.shaped hk) (by rw [eqv_refl d h.ok]; exact q)
theorem feq_bool {a b : Bool} {Q : DV → Prop} (q : Q (.d (.bool (a == b)))) : fEq (.bool a) (.bool b) Q := feq_in (shaped_bool a) (shaped_bool b) (by simpa [PyData.eqv] using q)
theorem feq_int {a b : Int} {Q : DV → Prop} (q : Q (.d (.bool (a == b)))) : fEq (.int a) (.int b) Q := feq_in (shaped_int a) (shaped_int b) (by simpa [PyData.eqv] using q)
theorem fne_bool {a b : Bool} {Q : DV → Prop} (q : Q (.d (.bool (!(a == b))))) : fNe (.bool a) (.bool b) Q := fne_in (shaped_bool a) (shaped_bool b) (by simpa [PyData.eqv] using q)
theorem fne_int {a b : Int} {Q : DV → Prop} (q : Q (.d (.bool (!(a == b))))) : fNe (.int a) (.int b) Q := fne_in (shaped_int a) (shaped_int b) (by simpa [PyData.eqv] using q)
def sp_none : DSp := fun _ _ _ _ => False
/-- same(a, a) for data of less than k levels -/
def sp_same (k : Nat) : DSp := fun args n Q _ => ∃ a, args = [.d a, .d a] ∧ Nice 50 16000000 a ∧ a.depth < k ∧ Q (.d (.bool true)) n
theorem zip_self : ∀ {xs : List D} {i : Nat} {d : D}, (zipD xs xs)[i]? = some d → ∃ x, xs[i]? = some x ∧ d = .tuple [x, x]
  | [], i, d, h => by simp [zipD] at h
  | x :: xs, 0, d, h => by simp [zipD] at h; exact ⟨x, rfl, h.symm⟩
  | x :: xs, i + 1, d, h => by
    simp only [zipD, List.getElem?_cons_succ] at h
    exact zip_self (xs := xs) (i := i) (d := d) h
theorem sizL_mem : ∀ {xs : List D} {x : D}, x ∈ xs → siz x ≤ sizL xs
  | y :: xs, x, h => by
    simp only [sizL]
    rcases List.mem_cons.mp h with h | h
    · subst h; omega
    · have := sizL_mem h; omega
theorem sizL_len : ∀ {xs : List D}, 2 * xs.length ≤ sizL xs
  | [] => by simp [sizL]
  | x :: xs => by have := sizL_len (xs := xs); simp only [sizL, List.length_cons]; omega
theorem NiceB.items {b k m : Nat} {d : D} {xs : List D} (h : NiceB b k m d) (hx : itsD d = some xs) : (∀ x ∈ xs, NiceB b k m x ∧ x.depth < d.depth) ∧ 2 * xs.length ≤ m := by
  have go : ∀ ys : List D, wfLB b ys = true → PyData.depthAll ys + 1 ≤ k → sizL ys + 4 ≤ m → (∀ x ∈ ys, NiceB b k m x ∧ x.depth < PyData.depthAll ys + 1) ∧ 2 * ys.length ≤ m := fun ys h1 h2 h3 =>
    ⟨fun x hx => ⟨⟨wfL_iff.mp h1 x hx, h.bb, by have := (depthAll_le (k := PyData.depthAll ys)).mp (Nat.le_refl _) x hx; omega, by have := sizL_mem hx; omega⟩, by have := (depthAll_le (k := PyData.depthAll ys)).mp (Nat.le_refl _) x hx; omega⟩, by have := sizL_len (xs := ys); omega⟩
  cases d with
  | list ys => cases hx; exact go xs (by simpa [wfB] using h.okB) (by simpa [PyData.depth] using h.dp) (by simpa [siz] using h.sz)
  | tuple ys => cases hx; exact go xs (by simpa [wfB] using h.okB) (by simpa [PyData.depth] using h.dp) (by simpa [siz] using h.sz)
  | _ => cases hx
theorem same_lc {k : Nat} {a : D} {xs : List D} {n : Nat} {Qa : DV → DS → Prop} (h : Nice 50 16000000 a) (hx : itsD a = some xs) (hk : a.depth < k + 1) (q : Qa (.d (.bool true)) ⟨[some (.d a), some (.d a), none, none], n⟩) :
    (dCB fAll (dCons (dLc (dZip (dCons (dVar 0) (dCons (dVar 1) dNil))) (gdTup 2 (gdCons (gdName 2) (gdCons (gdName 3) gdNil))) dYes (dCall (sp_same k) (fun as => as) (dCons (dVar 2) (dCons (dVar 3) dNil))) [2, 3]) dNil)) ⟨[some (.d a), some (.d a), none, none], n⟩ Qa := by
  obtain ⟨hi, hm⟩ := h.items hx
  have main : ∀ (hw : ∀ K : List D → DS → Prop, K (zipD xs xs) ⟨[some (.d a), some (.d a), none, none], n⟩ → dZip (dCons (dVar 0) (dCons (dVar 1) dNil)) ⟨[some (.d a), some (.d a), none, none], n⟩ K), (dCB fAll (dCons (dLc (dZip (dCons (dVar 0) (dCons (dVar 1) dNil))) (gdTup 2 (gdCons (gdName 2) (gdCons (gdName 3) gdNil))) dYes (dCall (sp_same k) (fun as => as) (dCons (dVar 2) (dCons (dVar 3) dNil))) [2, 3]) dNil)) ⟨[some (.d a), some (.d a), none, none], n⟩ Qa := fun hw => by
    refine lc_in hw rfl (fun i acc ds => acc = List.replicate i (.bool true) ∧ ds = ⟨[some (.d a), some (.d a), none, none], n⟩) ⟨rfl, rfl⟩ ?_ ?_
    · rintro i d acc ds hi' ⟨rfl, rfl⟩
      obtain ⟨x, ex, rfl⟩ := zip_self hi'
      obtain ⟨nx, dx⟩ := hi x (List.mem_of_getElem? ex)
      exact ⟨x, rfl, nx, by omega, by rw [List.replicate_succ'], rfl⟩
    · rintro acc ds ⟨rfl, rfl⟩
      show someD (boolsD _) _
      rw [bools_true]
      show Qa (.d (.bool ((List.replicate _ true).all id))) _
      rw [all_true]
      exact q
  cases a with
  | list ys => cases hx; exact main fun K hK => ⟨by omega, hK⟩
  | tuple ys => cases hx; exact main fun K hK => ⟨by omega, hK⟩
  | _ => cases hx
theorem r_same (k : Nat) : ∀ args n Qa Ea, sp_same (k + 1) args n Qa Ea → t_same (sp_same k) (fin Qa) (startD 4 args n) := by
  rintro args n Qa Ea ⟨a, rfl, hn, hk, hq⟩
  cases a with
  | none =>
    refine feq_self hn (by omega) ?_
    refine feq_bool ?_
    exact hq
  | bool b =>
    refine feq_bool ?_
    rw [beq_self_eq_true]
    refine feq_self hn (by omega) ?_
    exact hq
  | int i =>
    refine feq_bool ?_
    refine feq_self hn (by omega) ?_
    exact hq
  | str x =>
    refine feq_self hn (by omega) ?_
    refine feq_bool ?_
    exact hq
  | list xs =>
    refine fne_bool ?_
    refine fne_bool ?_
    refine feq_int ?_
    rw [beq_self_eq_true]
    refine same_lc hn rfl hk ?_
    exact hq
  | tuple xs =>
    refine fne_bool ?_
    refine fne_bool ?_
    refine feq_int ?_
    rw [beq_self_eq_true]
    refine same_lc hn rfl hk ?_
    exact hq
  | dict k => exact absurd hn.ok (by simp [wf, wfB])
mutual
def listsD : D → D
  | .list xs => .list (listsL xs)
  | .tuple xs => .list (listsL xs)
  | d => d
def listsL : List D → List D
  | [] => []
  | x :: xs => listsD x :: listsL xs
end
theorem listsL_map : ∀ xs : List D, listsL xs = xs.map listsD
  | [] => by simp [listsL]
  | x :: xs => by simp [listsL, listsL_map xs]
def rvL (a : D) : DV := match itsD a with
  | some xs => .own (listsL xs)
  | none => .d a
def sp_lists (k : Nat) : DSp := fun args n Q _ => ∃ a, args = [.d a] ∧ Nice 50 16000000 a ∧ a.depth < k ∧ Q (rvL a) n
theorem take_snoc {α : Type} {xs : List α} {i : Nat} {x : α} (h : xs[i]? = some x) : xs.take (i + 1) = xs.take i ++ [x] := by
  rw [List.take_add_one, h]; rfl
theorem r_lists (k : Nat) : ∀ args n Qa Ea, sp_lists (k + 1) args n Qa Ea → t_lists (sp_lists k) (fin Qa) (startD 2 args n) := by
  rintro args n Qa Ea ⟨a, rfl, hn, hk, hq⟩
  have main : ∀ xs, itsD a = some xs → (dLc (dSq (dVar 0)) (gdName 1) dYes (dCall (sp_lists k) (fun as => as) (dCons (dVar 1) dNil)) [1]) ⟨[some (.d a), none], n⟩ (fun r ds => match retV ds r with | some r => Qa r ds.n | none => False) := fun xs hx => by
    obtain ⟨hi, hm⟩ := hn.items hx
    have e : rvL a = .own (listsL xs) := by unfold rvL; rw [hx]
    rw [e] at hq
    have inner : ∀ (hw : ∀ K : List D → DS → Prop, K xs ⟨[some (.d a), none], n⟩ → dSq (dVar 0) ⟨[some (.d a), none], n⟩ K), (dLc (dSq (dVar 0)) (gdName 1) dYes (dCall (sp_lists k) (fun as => as) (dCons (dVar 1) dNil)) [1]) ⟨[some (.d a), none], n⟩ (fun r ds => match retV ds r with | some r => Qa r ds.n | none => False) := fun hw => by
      refine lc_in hw rfl (fun i acc ds => acc = (xs.take i).map listsD ∧ ds = ⟨[some (.d a), none], n⟩) ⟨rfl, rfl⟩ ?_ ?_
      · rintro i d acc ds hi' ⟨rfl, rfl⟩
        obtain ⟨nx, dx⟩ := hi d (List.mem_of_getElem? hi')
        refine ⟨d, rfl, nx, by omega, ?_⟩
        have fr : ∀ m : DS, frz m (rvL d) = some (listsD d, m) := fun m => by
          cases d <;> rfl
        show (match frz _ (rvL d) with | some (z, ds6) => _ | none => False)
        rw [fr]
        exact ⟨by rw [take_snoc hi', List.map_append]; rfl, rfl⟩
      · rintro acc ds ⟨rfl, rfl⟩
        rw [List.take_length, ← listsL_map]
        exact hq
    cases a with
    | list ys => cases hx; exact inner fun K hK => hK
    | tuple ys => cases hx; exact inner fun K hK => hK
    | _ => cases hx
  cases a with
  | none => exact hq
  | bool b => exact hq
  | int i => exact hq
  | str x => exact hq
  | list xs => exact main xs rfl
  | tuple xs => exact main xs rfl
  | dict k => exact absurd hn.ok (by simp [wf, wfB])
end SF

/-! R5: what k06's own defs compute. -/
namespace SF
open PySem PySem.Spec PyProof.Rows L2
/-- a comprehension whose parts draw nothing -/
theorem lc_pure {w : DTI} {g : DTG} {tt : DTT} {te : DTE} {vs : List Nat} {ds ds1 : DS} {its : List D} {Q : DV → DS → Prop} (fn : D → Option D) (hw : ∀ K : List D → DS → Prop, K its ds1 → w ds K) (hb : noBox ds1.sl vs = true)
    (hst : ∀ d ∈ its, ∀ (acc : List D) (P : List D → DS → Prop), P (acc ++ (fn d).toList) ⟨wipeD ds1.sl vs, ds1.n⟩ → g d ⟨wipeD ds1.sl vs, ds1.n⟩ fun ds3 => tt ds3 fun b ds4 => match b with
      | true => te ds4 fun y ds5 => match frz ds5 y with
        | some (z, ds6) => P (acc ++ [z]) ⟨wipeD ds6.sl vs, ds6.n⟩
        | none => False
      | false => P acc ⟨wipeD ds4.sl vs, ds4.n⟩)
    (hQ : Q (.own (its.filterMap fn)) ⟨restD (wipeD ds1.sl vs) ds1.sl vs, ds1.n⟩) : dLc w g tt te vs ds Q := by
  refine lc_in hw hb (fun i acc ds => acc = (its.take i).filterMap fn ∧ ds = ⟨wipeD ds1.sl vs, ds1.n⟩) ⟨by simp, rfl⟩ ?_ ?_
  · rintro i d acc ds2 hi ⟨rfl, rfl⟩
    refine hst d (List.mem_of_getElem? hi) _ (fun acc ds => acc = (its.take (i + 1)).filterMap fn ∧ ds = ⟨wipeD ds1.sl vs, ds1.n⟩) ⟨?_, rfl⟩
    rw [take_snoc hi, List.filterMap_append]
    refine congrArg _ ?_
    simp only [List.filterMap_cons, List.filterMap_nil]
    cases fn d <;> rfl
  · rintro acc ds2 ⟨rfl, rfl⟩
    rw [List.take_length]
    exact hQ
def isNum : D → Bool
  | .int _ => true
  | _ => false
def sp_isnum : DSp := fun args n Q _ => ∃ a, args = [.d a] ∧ Q (.d (.bool (isNum a))) n
theorem r_integer : ∀ args n Qa Ea, sp_isnum args n Qa Ea → t_integer (fin Qa) (startD 1 args n) := by
  rintro args n Qa Ea ⟨a, rfl, hq⟩
  cases a <;> exact hq
theorem r_is_number : ∀ args n Qa Ea, sp_isnum args n Qa Ea → t_is_number (fin Qa) (startD 1 args n) := by
  rintro args n Qa Ea ⟨a, rfl, hq⟩
  cases a <;> exact hq
theorem bools_map {f : D → Bool} : ∀ xs : List D, boolsD (xs.filterMap fun d => some (.bool (f d))) = some (xs.map f)
  | [] => rfl
  | x :: xs => by simp only [List.filterMap_cons, boolsD, bools_map xs, Option.map_some, List.map_cons]
theorem all_map {f : D → Bool} : ∀ xs : List D, (xs.map f).all id = xs.all f
  | [] => rfl
  | x :: xs => by simp only [List.map_cons, List.all_cons, all_map xs]; rfl
/-- two numbers -/
def two : D → Option (Int × Int)
  | .tuple [.int a, .int c] => some (a, c)
  | _ => none
theorem two_of {x y : D} (h : ([x, y] : List D).all isNum = true) : ∃ a c, x = .int a ∧ y = .int c := by
  simp only [List.all_cons, List.all_nil, Bool.and_true, Bool.and_eq_true] at h
  cases x <;> simp [isNum] at h
  cases y <;> simp [isNum] at h
  exact ⟨_, _, rfl, rfl⟩
theorem two_no {xs : List D} (h : xs.length = 2 → xs.all isNum = false) : two (.tuple xs) = none := by
  match xs, h with
  | [], _ => rfl
  | [_], _ => simp [two]
  | [x, y], h =>
    have := h rfl
    cases x <;> cases y <;> simp [two, isNum] at this ⊢
  | _ :: _ :: _ :: _, _ => simp [two]
end SF

/-! R30: exchanges: what they are, and the program's defs for them. -/
namespace SF
open PySem PySem.Spec PyProof.Rows L2
/-! walking a list item by item -/
def forR (g : DTG) (tb : DTS) (E : DEn) : List D → DS → Prop
  | [] => E.nx
  | d :: its => fun ds => g d ds fun ds3 => tb { E with nx := forR g tb E its, ct := forR g tb E its, bk := E.nx } ds3
theorem for_run {g : DTG} {tb : DTS} {E : DEn} {its : List D} {ds : DS} (h : forR g tb E its ds) : ∃ W : Nat → DS → Prop, W 0 ds ∧
    (∀ (i : Nat) d ds2, its[i]? = some d → W i ds2 → g d ds2 fun ds3 => tb { E with nx := W (i + 1), ct := W (i + 1), bk := E.nx } ds3) ∧ ∀ ds2, W its.length ds2 → E.nx ds2 := by
  refine ⟨fun i ds => forR g tb E (its.drop i) ds, by simpa using h, ?_, ?_⟩
  · intro i d ds2 hi hw
    have hl := (List.getElem?_eq_some_iff.mp hi)
    obtain ⟨h1, h2⟩ := hl
    rw [List.drop_eq_getElem_cons h1, h2] at hw
    exact hw
  · intro ds2 hw
    rw [List.drop_length] at hw
    exact hw
/-- a comprehension over coded items, with no state -/
theorem lc_map {α : Type} (enc : α → D) (xs : List α) (fn : α → Option D) {w : DTI} {g : DTG} {tt : DTT} {te : DTE} {vs : List Nat} {ds ds1 : DS} {Q : DV → DS → Prop} (hw : ∀ K : List D → DS → Prop, K (xs.map enc) ds1 → w ds K) (hb : noBox ds1.sl vs = true)
    (hst : ∀ a ∈ xs, ∀ (acc : List D) (P : List D → DS → Prop), P (acc ++ (fn a).toList) ⟨wipeD ds1.sl vs, ds1.n⟩ → g (enc a) ⟨wipeD ds1.sl vs, ds1.n⟩ fun ds3 => tt ds3 fun b ds4 => match b with
      | true => te ds4 fun y ds5 => match frz ds5 y with
        | some (z, ds6) => P (acc ++ [z]) ⟨wipeD ds6.sl vs, ds6.n⟩
        | none => False
      | false => P acc ⟨wipeD ds4.sl vs, ds4.n⟩)
    (hQ : Q (.own (xs.filterMap fn)) ⟨restD (wipeD ds1.sl vs) ds1.sl vs, ds1.n⟩) : dLc w g tt te vs ds Q := by
  refine lc_in hw hb (fun i acc ds => acc = (xs.take i).filterMap fn ∧ ds = ⟨wipeD ds1.sl vs, ds1.n⟩) ⟨by simp, rfl⟩ ?_ ?_
  · rintro i d acc ds2 hi ⟨rfl, rfl⟩
    rw [List.getElem?_map] at hi
    cases ex : xs[i]? with
    | none => rw [ex] at hi; cases hi
    | some a =>
      rw [ex] at hi
      cases hi
      refine hst a (List.mem_of_getElem? ex) _ (fun acc ds => acc = (xs.take (i + 1)).filterMap fn ∧ ds = ⟨wipeD ds1.sl vs, ds1.n⟩) ⟨?_, rfl⟩
      rw [take_snoc ex, List.filterMap_append]
      refine congrArg _ ?_
      simp only [List.filterMap_cons, List.filterMap_nil]
      cases fn a <;> rfl
  · rintro acc ds2 ⟨rfl, rfl⟩
    rw [List.length_map, List.take_length]
    exact hQ
/-! shops of lists or of tuples -/
def mkQ (t : Bool) (xs : List D) : D := if t then .tuple xs else .list xs
def prQ (t : Bool) (p : Int × Int) : D := mkQ t [.int p.1, .int p.2]
def shQ (t : Bool) (gs : List Int) (ps : List (Int × Int)) : D := mkQ t [mkQ t (gs.map .int), mkQ t (ps.map (prQ t))]
theorem shQ_true {gs : List Int} {ps : List (Int × Int)} : shQ true gs ps = shopD gs ps := rfl
def stD (t : Bool) (st : List Int) : D := mkQ t (st.map .int)
abbrev Ex := Bool × Int × Int
def exW (b : Bool) : Str := if b then "swap" else "take"
def exD (t : Bool) (e : Ex) : D := mkQ t [.str (exW e.1), .int e.2.1, .int e.2.2]
theorem w1 : decide (exW true = ("swap" : Str)) = true := by decide +kernel
theorem w2 : decide (exW false = ("swap" : Str)) = false := by decide +kernel
theorem w3 : decide (exW true = ("take" : Str)) = false := by decide +kernel
theorem w4 : decide (exW false = ("take" : Str)) = true := by decide +kernel
theorem w_swap (b : Bool) : decide (exW b = ("swap" : Str)) = b := by cases b; exact w2; exact w1
theorem w_take (b : Bool) : decide (exW b = ("take" : Str)) = !b := by cases b; exact w4; exact w3
/-! numbers in lists -/
theorem sc_ints : ∀ gs : List Int, (gs.map PyData.int).all scD = true
  | [] => rfl
  | g :: gs => by simp only [List.map_cons, List.all_cons, sc_ints gs]; rfl
theorem any_ints {f : Int} : ∀ gs : List Int, ((gs.map PyData.int).any fun y => PyData.eqv y (.int f)) = gs.contains f
  | [] => rfl
  | g :: gs => by
    simp only [List.map_cons, List.any_cons, any_ints gs, PyData.eqv, List.contains_cons]
    rw [show (g == f) = (f == g) from BEq.comm]
theorem insc_ints {gs : List Int} {f : Int} {P : Prop} (h : P) : inSc (.int f) (gs.map .int) P := by
  unfold inSc
  rw [show (scD (.int f) && (gs.map PyData.int).all scD) = true by rw [sc_ints]; rfl]
  exact h
theorem notIn_ints {t : Bool} {gs : List Int} {f : Int} {Q : DV → Prop} (h : Q (.d (.bool (!gs.contains f)))) : gNotIn (.int f) (mkQ t (gs.map .int)) Q := by
  refine gNotIn_i ?_
  cases t <;> (refine insc_ints ?_; rw [any_ints, if_pos rfl]; exact h)
theorem in_ints {t : Bool} {gs : List Int} {f : Int} {Q : DV → Prop} (h : Q (.d (.bool (gs.contains f)))) : gIn (.int f) (mkQ t (gs.map .int)) Q := by
  refine gIn_i ?_
  cases t <;> (refine insc_ints ?_; rw [any_ints, if_neg Bool.false_ne_true]; exact h)
/-- the number at a place -/
def nth (xs : List Int) (i : Int) : Int := xs.getD i.toNat 0
theorem at_ints {xs : List Int} {i : Int} (h0 : 0 ≤ i) (h : i < (xs.length : Int)) : atI (xs.map PyData.int) i = some (.int (nth xs i)) := by
  obtain ⟨v, e1, e2⟩ := at_map h0 h
  rw [e1, nth, List.getD_eq_getElem?_getD, e2]; rfl
theorem ix_ints {t : Bool} {xs : List Int} {i : Int} {Q : DV → Prop} (h0 : 0 ≤ i) (h : i < (xs.length : Int)) (q : Q (.d (.int (nth xs i)))) : gIx (mkQ t (xs.map .int)) (.int i) Q := by
  refine gIx_i ?_
  cases t <;> exact someI (at_ints h0 h) q
def prAt (ps : List (Int × Int)) (i : Int) : Int × Int := ps.getD i.toNat (0, 0)
theorem at_prs {t : Bool} {ps : List (Int × Int)} {i : Int} (h0 : 0 ≤ i) (h : i < (ps.length : Int)) : atI (ps.map (prQ t)) i = some (prQ t (prAt ps i)) := by
  obtain ⟨v, e1, e2⟩ := atI_in (xs := ps.map (prQ t)) h0 (by rw [List.length_map]; exact h)
  rw [List.getElem?_map] at e2
  rw [e1, prAt, List.getD_eq_getElem?_getD]
  cases q : ps[i.toNat]? with
  | none => rw [q] at e2; cases e2
  | some p => rw [q] at e2; cases e2; rfl
theorem ix_prs {t : Bool} {ps : List (Int × Int)} {i : Int} {Q : DV → Prop} (h0 : 0 ≤ i) (h : i < (ps.length : Int)) (q : Q (.d (prQ t (prAt ps i)))) : gIx (mkQ t (ps.map (prQ t))) (.int i) Q := by
  refine gIx_i ?_
  cases t <;> exact someI (at_prs h0 h) q
theorem ixl0 {t : Bool} {a : D} {xs : List D} {Q : DV → Prop} (q : Q (.d a)) : gIx (mkQ t (a :: xs)) (.int 0) Q := by refine gIx_i ?_; cases t <;> exact someI (x := a) (atI_nat (j := 0) rfl) q
theorem ixl1 {t : Bool} {a b : D} {xs : List D} {Q : DV → Prop} (q : Q (.d b)) : gIx (mkQ t (a :: b :: xs)) (.int 1) Q := by refine gIx_i ?_; cases t <;> exact someI (x := b) (atI_nat (j := 1) rfl) q
theorem ixl2 {t : Bool} {a b c : D} {xs : List D} {Q : DV → Prop} (q : Q (.d c)) : gIx (mkQ t (a :: b :: c :: xs)) (.int 2) Q := by refine gIx_i ?_; cases t <;> exact someI (x := c) (atI_nat (j := 2) rfl) q
theorem ixL {xs : List Int} {i : Int} {Q : DV → Prop} (h0 : 0 ≤ i) (h : i < (xs.length : Int)) (q : Q (.d (.int (nth xs i)))) : gIx (.list (xs.map .int)) (.int i) Q := gIx_i (someI (at_ints h0 h) q)
theorem ixT {xs : List Int} {i : Int} {Q : DV → Prop} (h0 : 0 ≤ i) (h : i < (xs.length : Int)) (q : Q (.d (.int (nth xs i)))) : gIx (.tuple (xs.map .int)) (.int i) Q := gIx_i (someI (at_ints h0 h) q)
theorem lenQ {t : Bool} {xs : List D} {Q : DV → Prop} (q : Q (.d (.int ((xs.length : Nat) : Int)))) : gLen [mkQ t xs] Q := by refine gLen_i ?_; cases t <;> exact q
theorem lenL {xs : List D} {Q : DV → Prop} (q : Q (.d (.int ((xs.length : Nat) : Int)))) : gLen [.list xs] Q := gLen_i q
theorem lenT {xs : List D} {Q : DV → Prop} (q : Q (.d (.int ((xs.length : Nat) : Int)))) : gLen [.tuple xs] Q := gLen_i q
def inR (p : Int × Int) (g : Int) : Bool := decide (p.1 ≤ g) && decide (g ≤ p.2)
def fitZ (ps : List (Int × Int)) (m g : Int) : Bool := inR (prAt ps m) g
/-! takes -/
def sp_takes : DSp := fun args n Q _ => ∃ t p, ∃ g : Int, args = [.d (prQ t p), .d (.int g)] ∧ Q (.d (.bool (inR p g))) n
theorem r_takes : ∀ args n Qa Ea, sp_takes args n Qa Ea → t_takes (fin Qa) (startD 2 args n) := by
  rintro args n Qa Ea ⟨t, p, g, rfl, hq⟩
  unfold inR at hq
  refine ixl0 ?_
  show (match DV.d (.bool (decide (p.1 ≤ g))) with | .d (.bool true) => _ | .d (.bool false) => Qa (.d (.bool false)) n | _ => False)
  cases h1 : decide (p.1 ≤ g)
  · rw [h1] at hq; exact hq
  · rw [h1] at hq
    exact ixl1 hq
/-! look_machine -/
def okM (L : Nat) (m : Int) : Bool := decide (0 ≤ m) && decide (m < (L : Int))
theorem okM_iff {L : Nat} {m : Int} : okM L m = true ↔ 0 ≤ m ∧ m < (L : Int) := by simp [okM]
def sp_look_machine : DSp := fun args n Q E => ∃ t gs ps, ∃ m : Int, args = [.d (shQ t gs ps), .d (.int m)] ∧ match okM ps.length m with
  | true => Q (.d .none) n
  | false => E "NoMachine" (some ("machine", .int m)) n
theorem r_look_machine : ∀ args n Qa Ea, sp_look_machine args n Qa Ea → t_look_machine (fun nm fo ds => Ea nm fo ds.n) (fin Qa) (startD 2 args n) := by
  rintro args n Qa Ea ⟨t, gs, ps, m, rfl, hq⟩
  unfold okM at hq
  show (match DV.d (.bool (decide (0 ≤ m))) with | .d (.bool true) => _ | .d (.bool false) => _ | _ => False)
  cases h1 : decide (0 ≤ m)
  · rw [h1] at hq; exact hq
  · rw [h1] at hq
    refine ixl1 ?_
    refine lenQ ?_
    rw [List.length_map]
    show (match !(decide (m < (ps.length : Int))) with | true => _ | false => _)
    cases h2 : decide (m < (ps.length : Int))
    · rw [h2] at hq; exact hq
    · rw [h2] at hq; exact hq
/-! rack -/
def rackZ (gs st : List Int) : List Int := gs.filter fun g => !st.contains g
def keepI (p : Int → Bool) (g : Int) : Option D := if p g = true then some (.int g) else none
theorem fm_keep (p : Int → Bool) : ∀ gs : List Int, gs.filterMap (keepI p) = (gs.filter p).map .int
  | [] => rfl
  | g :: gs => by
    simp only [List.filterMap_cons, List.filter_cons, keepI]
    cases h : p g with
    | true => simp only [if_true, List.map_cons, ← fm_keep p gs]
    | false => simp only [Bool.false_eq_true, if_false, ← fm_keep p gs]
theorem keep_step {p : Int → Bool} {g : Int} {acc : List D} {P : List D → DS → Prop} {ds : DS} (h : P (acc ++ (keepI p g).toList) ds) : (match p g with
    | true => P (acc ++ [.int g]) ds
    | false => P acc ds) := by
  unfold keepI at h
  cases e : p g with
  | true => rw [e, if_pos rfl] at h; exact h
  | false =>
    rw [e, if_neg Bool.false_ne_true] at h
    have h' : P (acc ++ []) ds := h
    rw [List.append_nil] at h'
    exact h'
def sp_rack : DSp := fun args n Q _ => ∃ t u gs ps st, args = [.d (shQ t gs ps), .d (stD u st)] ∧ Q (.d (.tuple ((rackZ gs st).map .int))) n
theorem r_rack : ∀ args n Qa Ea, sp_rack args n Qa Ea → t_rack (fin Qa) (startD 3 args n) := by
  rintro args n Qa Ea ⟨t, u, gs, ps, st, rfl, hq⟩
  refine lc_map .int gs (keepI fun g => !st.contains g) (ds1 := ⟨[some (.d (shQ t gs ps)), some (.d (stD u st)), none], n⟩) (fun K hK => ixl0 (by cases t <;> exact hK)) rfl (fun g hg acc P hP => ?_) ?_
  · refine notIn_ints ?_
    have := keep_step hP
    revert this
    cases (!st.contains g) <;> exact id
  · rw [fm_keep]
    exact hq
/-! after -/
def afterZ (st : List Int) (e : Ex) : List Int := match e with
  | (true, a, b) => (st.set a.toNat (nth st b)).set b.toNat (nth st a)
  | (false, a, g) => st.set a.toNat g
theorem after_len {st : List Int} {e : Ex} : (afterZ st e).length = st.length := by
  obtain ⟨b, x, y⟩ := e
  cases b <;> simp [afterZ]
/-- its machines are there -/
def machs (e : Ex) : List Int := match e with
  | (true, a, b) => [a, b]
  | (false, a, _) => [a]
def OkE (L : Nat) (e : Ex) : Prop := ∀ m ∈ machs e, 0 ≤ m ∧ m < (L : Int)
theorem set_ints {xs : List Int} {j : Nat} {g : Int} : (xs.map PyData.int).set j (.int g) = (xs.set j g).map .int := by
  rw [List.map_set]
theorem ixN_map {xs : List Int} {i : Int} (h0 : 0 ≤ i) (h : i < (xs.length : Int)) : ixN (xs.map PyData.int).length i = some i.toNat := ixN_in h0 (by rw [List.length_map]; exact h)
def sp_after : DSp := fun args n Q _ => ∃ u w st e, args = [.d (stD u st), .d (exD w e)] ∧ OkE st.length e ∧ Q (.d (.tuple ((afterZ st e).map .int))) n
theorem r_after : ∀ args n Qa Ea, sp_after args n Qa Ea → t_after (fin Qa) (startD 4 args n) := by
  rintro args n Qa Ea ⟨u, w, st, ⟨b, x, y⟩, rfl, ok, hq⟩
  have main : (dSeq t_after_1 t_after_2) (fin Qa) ⟨[some (.d (stD u st)), some (.d (exD w (b, x, y))), some (.own (st.map .int)), some (.d (.int x))], n⟩ := by
    have hx : 0 ≤ x ∧ x < (st.length : Int) := ok x (by cases b <;> simp [machs])
    refine ixl0 (feq_str ?_)
    rw [w_swap]
    cases b with
    | true =>
      have hy : 0 ≤ y ∧ y < (st.length : Int) := ok y (by simp [machs])
      refine ixl2 (ixL hy.1 hy.2 (ixL hx.1 hx.2 ?_))
      show someD (ixN (st.map PyData.int).length x) _
      rw [ixN_map hx.1 hx.2]
      refine ixl2 ?_
      show someD (ixN ((st.map PyData.int).set x.toNat (.int (nth st y))).length y) _
      rw [List.length_set, ixN_map hy.1 hy.2]
      show Qa (.d (.tuple (((st.map PyData.int).set x.toNat (.int (nth st y))).set y.toNat (.int (nth st x))))) n
      rw [set_ints, set_ints]
      exact hq
    | false =>
      refine ixl2 ?_
      show someD (ixN (st.map PyData.int).length x) _
      rw [ixN_map hx.1 hx.2]
      show Qa (.d (.tuple ((st.map PyData.int).set x.toNat (.int y)))) n
      rw [set_ints]
      exact hq
  cases u <;> exact ixl1 main
/-! machines_of -/
def sp_machines_of : DSp := fun args n Q _ => ∃ w e, args = [.d (exD w e)] ∧ Q (.own ((machs e).map .int)) n
theorem r_machines_of : ∀ args n Qa Ea, sp_machines_of args n Qa Ea → t_machines_of (fin Qa) (startD 1 args n) := by
  rintro args n Qa Ea ⟨w, ⟨b, x, y⟩, rfl, hq⟩
  refine ixl0 (feq_str ?_)
  rw [w_swap]
  cases b
  · exact ixl1 hq
  · exact ixl1 (ixl2 hq)
end SF

/-! R31: exchanges done, rows done and back: the program's defs. -/
namespace SF
open PySem PySem.Spec PyProof.Rows L2
/-! first_unfit -/
def unfL (ps : List (Int × Int)) (st : List Int) (e : Ex) : List Int := (machs e).filter fun m => !fitZ ps m (nth (afterZ st e) m)
def hdD (xs : List Int) : D := match xs with
  | m :: _ => .int m
  | [] => .none
def sp_first_unfit : DSp := fun args n Q _ => ∃ t u w gs ps st e, args = [.d (shQ t gs ps), .d (stD u st), .d (exD w e)] ∧ st.length = ps.length ∧ OkE ps.length e ∧ Q (.d (hdD (unfL ps st e))) n
theorem r_first_unfit : ∀ args n Qa Ea, sp_first_unfit args n Qa Ea → t_first_unfit sp_after sp_machines_of sp_takes (fin Qa) (startD 6 args n) := by
  rintro args n Qa Ea ⟨t, u, w, gs, ps, st, e, rfl, hl, ok, hq⟩
  refine ⟨u, w, st, e, rfl, by rw [hl]; exact ok, ?_⟩
  refine lc_map .int (machs e) (keepI fun m => !fitZ ps m (nth (afterZ st e) m)) (ds1 := ⟨[some (.d (shQ t gs ps)), some (.d (stD u st)), some (.d (exD w e)), some (.d (.tuple ((afterZ st e).map .int))), none, none], n⟩) (fun K hK => ⟨w, e, rfl, hK⟩) rfl (fun m hm acc P hP => ?_) ?_
  · obtain ⟨h0, h1⟩ := ok m hm
    have hP' := keep_step hP
    refine ixl1 (ix_prs h0 h1 (ixT h0 (by rw [after_len, hl]; exact h1) ?_))
    refine ⟨t, prAt ps m, nth (afterZ st e) m, rfl, ?_⟩
    have e2 : inR (prAt ps m) (nth (afterZ st e) m) = fitZ ps m (nth (afterZ st e) m) := rfl
    rw [e2]
    revert hP'
    show (match !fitZ ps m (nth (afterZ st e) m) with | true => _ | false => _) → (match (Bool.not (fitZ ps m (nth (afterZ st e) m))) with | true => _ | false => _)
    cases fitZ ps m (nth (afterZ st e) m) <;> exact id
  · rw [fm_keep, show ((machs e).filter fun m => !fitZ ps m (nth (afterZ st e) m)) = unfL ps st e from rfl]
    refine lenL ?_
    show (match decide ((0 : Int) < ((((unfL ps st e).map PyData.int).length : Nat) : Int)) with | true => _ | false => _)
    cases hu : unfL ps st e with
    | nil => rw [hu] at hq; exact hq
    | cons m ms =>
      rw [hu] at hq
      rw [show decide ((0 : Int) < ((((m :: ms).map PyData.int).length : Nat) : Int)) = true by simp]
      refine ixL (i := 0) (xs := m :: ms) (by omega) (by simp) ?_
      exact hq
/-! exchanged -/
inductive Rs where
  | ok (st : List Int)
  | er (nm fl : Str) (x : Int)
def Rs.K (r : Rs) (Q : List Int → Prop) (E : Str → Option (Str × D) → Prop) : Prop := match r with
  | .ok st => Q st
  | .er nm fl x => E nm (some (fl, .int x))
def badM (L : Nat) (e : Ex) : List Int := (machs e).filter fun m => !okM L m
def exZ (gs : List Int) (ps : List (Int × Int)) (st : List Int) (e : Ex) : Rs := match badM ps.length e with
  | m :: _ => .er "NoMachine" "machine" m
  | [] => match !e.1 && !(rackZ gs st).contains e.2.2 with
    | true => .er "NotInRack" "size" e.2.2
    | false => match unfL ps st e with
      | m :: _ => .er "Unfit" "machine" m
      | [] => .ok (afterZ st e)
theorem okE_of {L : Nat} {e : Ex} (h : badM L e = []) : OkE L e := fun m hm => by
  have := (List.filter_eq_nil_iff.mp h) m hm
  simp only [Bool.not_eq_true, Bool.not_eq_false', Bool.not_not] at this
  exact okM_iff.mp (by simpa using this)
def sp_exchanged : DSp := fun args n Q E => ∃ t u w gs ps st e, args = [.d (shQ t gs ps), .d (stD u st), .d (exD w e)] ∧ st.length = ps.length ∧ (exZ gs ps st e).K (fun st' => Q (.d (.tuple (st'.map .int))) n) (fun nm fo => E nm fo n)
theorem r_exchanged : ∀ args n Qa Ea, sp_exchanged args n Qa Ea → t_exchanged (fun nm fo ds => Ea nm fo ds.n) sp_machines_of sp_look_machine sp_rack sp_first_unfit sp_after (fin Qa) (startD 5 args n) := by
  rintro args n Qa Ea ⟨t, u, w, gs, ps, st, e, rfl, hl, hq⟩
  refine ⟨w, e, rfl, for_run ?_⟩
  -- behind the loop
  have rest : ∀ m3, badM ps.length e = [] → (dSeq (t_exchanged_1 (fun nm fo ds => Ea nm fo ds.n) sp_rack) (dSeq (t_exchanged_2 sp_first_unfit) (dSeq (t_exchanged_3 (fun nm fo ds => Ea nm fo ds.n)) (t_exchanged_4 sp_after)))) (fin Qa) ⟨[some (.d (shQ t gs ps)), some (.d (stD u st)), some (.d (exD w e)), m3, none], n⟩ := by
    intro m3 hb
    unfold exZ at hq
    rw [hb] at hq
    have ok := okE_of hb
    have last : (!e.1 && !(rackZ gs st).contains e.2.2) = false → (dSeq (t_exchanged_2 sp_first_unfit) (dSeq (t_exchanged_3 (fun nm fo ds => Ea nm fo ds.n)) (t_exchanged_4 sp_after))) (fin Qa) ⟨[some (.d (shQ t gs ps)), some (.d (stD u st)), some (.d (exD w e)), m3, none], n⟩ := by
      intro hc
      rw [hc] at hq
      refine ⟨t, u, w, gs, ps, st, e, rfl, hl, ok, ?_⟩
      cases hu : unfL ps st e with
      | nil =>
        rw [hu] at hq
        exact ⟨u, w, st, e, rfl, by rw [hl]; exact ok, hq⟩
      | cons m ms =>
        rw [hu] at hq
        exact hq
    refine ixl0 (feq_str ?_)
    rw [w_take]
    obtain ⟨b, x, y⟩ := e
    cases b with
    | true => exact last rfl
    | false =>
      refine ixl2 ?_
      refine ⟨t, u, gs, ps, st, rfl, ?_⟩
      refine notIn_ints (t := true) ?_
      cases hc : (rackZ gs st).contains y with
      | true => exact last (by show (!false && !(rackZ gs st).contains y) = false; rw [hc]; rfl)
      | false =>
        have hc' : (!(false, x, y).1 && !(rackZ gs st).contains (false, x, y).2.2) = true := by show (!false && !(rackZ gs st).contains y) = true; rw [hc]; rfl
        rw [hc'] at hq
        exact ixl2 hq
  -- the loop
  have loop : ∀ (ms : List Int) (m3 : Option DV), (badM ps.length e = ms.filter fun m => !okM ps.length m) → forR (gdName 3) (dDrop (dCallX (fun nm fo ds => Ea nm fo ds.n) sp_look_machine (fun as => as) (dCons (dVar 0) (dCons (dVar 3) dNil)))) { fin Qa with nx := (dSeq (t_exchanged_1 (fun nm fo ds => Ea nm fo ds.n) sp_rack) (dSeq (t_exchanged_2 sp_first_unfit) (dSeq (t_exchanged_3 (fun nm fo ds => Ea nm fo ds.n)) (t_exchanged_4 sp_after)))) (fin Qa) } (ms.map .int) ⟨[some (.d (shQ t gs ps)), some (.d (stD u st)), some (.d (exD w e)), m3, none], n⟩ := by
    intro ms
    induction ms with
    | nil => intro m3 hb; exact rest m3 hb
    | cons m ms ih =>
      intro m3 hb
      refine ⟨t, gs, ps, m, rfl, ?_⟩
      cases hm : okM ps.length m with
      | true =>
        refine ih _ ?_
        rw [hb, List.filter_cons, hm]; rfl
      | false =>
        unfold exZ at hq
        rw [hb, List.filter_cons, hm] at hq
        exact hq
  exact loop (machs e) none rfl
/-! rows -/
def rowZ (gs : List Int) (ps : List (Int × Int)) : List Int → List Ex → Rs
  | st, [] => .ok st
  | st, e :: es => match exZ gs ps st e with
    | .ok st' => rowZ gs ps st' es
    | .er nm fl x => .er nm fl x
theorem ex_len {gs : List Int} {ps : List (Int × Int)} {st st' : List Int} {e : Ex} (h : exZ gs ps st e = .ok st') : st' = afterZ st e := by
  unfold exZ at h
  split at h
  · cases h
  · split at h
    · cases h
    · split at h
      · cases h
      · cases h; rfl
def sp_exchanged_all : DSp := fun args n Q E => ∃ t u v w gs ps st es, args = [.d (shQ t gs ps), .d (stD u st), .d (mkQ v (es.map (exD w)))] ∧ st.length = ps.length ∧ (rowZ gs ps st es).K (fun st' => Q (.d (.tuple (st'.map .int))) n) (fun nm fo => E nm fo n)
theorem r_exchanged_all : ∀ args n Qa Ea, sp_exchanged_all args n Qa Ea → t_exchanged_all (fun nm fo ds => Ea nm fo ds.n) sp_exchanged (fin Qa) (startD 5 args n) := by
  rintro args n Qa Ea ⟨t, u, v, w, gs, ps, st, es, rfl, hl, hq⟩
  have loop : ∀ (fs : List Ex) (here : List Int) (m4 : Option DV), here.length = ps.length → ((rowZ gs ps here fs).K (fun st' => Qa (.d (.tuple (st'.map .int))) n) (fun nm fo => Ea nm fo n)) → forR (gdName 4) (dSet 3 (dCallX (fun nm fo ds => Ea nm fo ds.n) sp_exchanged (fun as => as) (dCons (dVar 0) (dCons (dVar 3) (dCons (dVar 4) dNil))))) { fin Qa with nx := t_exchanged_all_2 (fin Qa) } (fs.map (exD w)) ⟨[some (.d (shQ t gs ps)), some (.d (stD u st)), some (.d (mkQ v (es.map (exD w)))), some (.d (stD true here)), m4], n⟩ := by
    intro fs
    induction fs with
    | nil => intro here m4 _ hq; exact hq
    | cons e fs ih =>
      intro here m4 hh hq
      refine ⟨t, true, w, gs, ps, here, e, rfl, hh, ?_⟩
      unfold rowZ at hq
      cases hx : exZ gs ps here e with
      | ok st' =>
        rw [hx] at hq
        exact ih st' _ (by rw [ex_len hx, after_len]; exact hh) hq
      | er nm fl x => rw [hx] at hq; exact hq
  cases u <;> cases v <;> exact for_run (loop es st none hl hq)
def bkE (st : List Int) (e : Ex) : Ex := match e with
  | (true, a, b) => (true, a, b)
  | (false, a, _) => (false, a, nth st a)
def homeZ (st : List Int) : List Ex → List Ex
  | [] => []
  | e :: es => bkE st e :: homeZ (afterZ st e) es
def sp_back : DSp := fun args n Q E => ∃ t u v w gs ps st es, args = [.d (shQ t gs ps), .d (stD u st), .d (mkQ v (es.map (exD w)))] ∧ st.length = ps.length ∧ es.length ≤ 1000 ∧ (rowZ gs ps st es).K (fun _ => Q (.own (((homeZ st es).map (exD true)).reverse)) n) (fun nm fo => E nm fo n)
theorem atI_last {α : Type} {xs : List α} {x : α} : ixN (xs ++ [x]).length (-1) = some xs.length := by
  unfold ixN
  rw [if_neg (by omega), if_pos (by simp; omega)]
  simp
  omega
theorem r_back : ∀ args n Qa Ea, sp_back args n Qa Ea → t_back (fun nm fo ds => Ea nm fo ds.n) sp_exchanged (fin Qa) (startD 7 args n) := by
  rintro args n Qa Ea ⟨t, u, v, w, gs, ps, st, es, rfl, hl, hlen, hq⟩
  have loop : ∀ (fs : List Ex) (here : List Int) (fd : List D) (m5 m6 : Option DV), here.length = ps.length → fd.length + fs.length ≤ 1000 → ((rowZ gs ps here fs).K (fun _ => Qa (.own ((fd ++ (homeZ here fs).map (exD true)).reverse)) n) (fun nm fo => Ea nm fo n)) → forR (gdName 5) (dSeq (dSet 6 (dCallX (fun nm fo ds => Ea nm fo ds.n) sp_exchanged (fun as => as) (dCons (dVar 0) (dCons (dVar 3) (dCons (dVar 5) dNil)))))
    (dSeq (dDrop (dMut 4 gAppend (dCons (dTup (dCons (dC (.str "swap")) (dCons (dOp2 gIx (dVar 5) (dC (.int 1))) (dCons (dOp2 gIx (dVar 5) (dC (.int 2))) dNil)))) dNil)))
    (dSeq (dIfS (dTst (dOp2 fEq (dOp2 gIx (dVar 5) (dC (.int 0))) (dC (.str "take")))) (dSetIx 4 (dOp1 fNeg (dC (.int 1))) (dTup (dCons (dC (.str "take")) (dCons (dOp2 gIx (dVar 5) (dC (.int 1))) (dCons (dOp2 gIx (dVar 3) (dOp2 gIx (dVar 5) (dC (.int 1)))) dNil))))) dNext)
    (dSet 3 (dVar 6))))) { fin Qa with nx := t_back_2 (fin Qa) } (fs.map (exD w)) ⟨[some (.d (shQ t gs ps)), some (.d (stD u st)), some (.d (mkQ v (es.map (exD w)))), some (.d (stD true here)), some (.own fd), m5, m6], n⟩ := by
    intro fs
    induction fs with
    | nil =>
      intro here fd m5 m6 _ _ hq
      rw [show (homeZ here []).map (exD true) = [] from rfl, List.append_nil] at hq
      exact hq
    | cons e fs ih =>
      intro here fd m5 m6 hh hf hq
      refine ⟨t, true, w, gs, ps, here, e, rfl, hh, ?_⟩
      unfold rowZ at hq
      cases hx : exZ gs ps here e with
      | er nm fl x => rw [hx] at hq; exact hq
      | ok st' =>
        rw [hx] at hq
        have es' := ex_len hx
        subst es'
        refine ixl1 (ixl2 ?_)
        refine ⟨by simp only [List.length_cons] at hf; omega, ?_⟩
        refine ixl0 (feq_str ?_)
        rw [w_take]
        have hq' : (rowZ gs ps (afterZ here e) fs).K (fun _ => Qa (.own (((fd ++ [exD true (bkE here e)]) ++ (homeZ (afterZ here e) fs).map (exD true)).reverse)) n) (fun nm fo => Ea nm fo n) := by
          rw [List.append_assoc]; exact hq
        have hl' : (afterZ here e).length = ps.length := by rw [after_len]; exact hh
        have go := fun m5 m6 => ih (afterZ here e) (fd ++ [exD true (bkE here e)]) m5 m6 hl' (by simp only [List.length_append, List.length_cons, List.length_nil] at hf ⊢; omega) hq'
        obtain ⟨b, x, y⟩ := e
        cases b with
        | true => exact go _ _
        | false =>
          have hm : 0 ≤ x ∧ x < (here.length : Int) := by
            unfold exZ at hx
            split at hx
            · cases hx
            · rename_i hb
              rw [hh]
              exact okE_of hb x (by simp [machs])
          refine ixl1 (ixl1 (ixT hm.1 hm.2 ?_))
          show someD (ixN (fd ++ [_]).length (-1)) _
          rw [atI_last]
          have go' := go (some (.d (exD w (false, x, y)))) (some (.d (stD true (afterZ here (false, x, y)))))
          have es2 : (fd ++ [PyData.tuple [.str "swap", .int x, .int y]]).set fd.length (.tuple [.str "take", .int x, .int (nth here x)]) = fd ++ [exD true (bkE here (false, x, y))] := by
            rw [List.set_append_right _ _ (Nat.le_refl _), Nat.sub_self]; rfl
          show forR _ _ _ _ ⟨[_, _, _, _, some (.own ((fd ++ [PyData.tuple [.str "swap", .int x, .int y]]).set fd.length (.tuple [.str "take", .int x, .int (nth here x)]))), _, _], n⟩
          rw [es2]
          exact go'
  cases u <;> cases v <;> exact for_run (loop es st [] none none hl (by simpa using hlen) (by simpa using hq))
end SF

/-! R32: possible exchanges, walks: the laws' own helpers. -/
namespace SF
open PySem PySem.Spec PyProof.Rows L2
/-! ranges of numbers -/
def rngZ (lo : Int) (n : Nat) : List Int := (List.range n).map fun i => lo + (i : Nat)
theorem rangeD_eq {lo : Int} {n : Nat} : rangeD lo n = (rngZ lo n).map .int := by
  unfold rangeD rngZ
  rw [List.map_map]
  rfl
theorem rngZ_len {lo : Int} {n : Nat} : (rngZ lo n).length = n := by simp [rngZ]
theorem rngZ_mem {lo i : Int} {n : Nat} : i ∈ rngZ lo n ↔ lo ≤ i ∧ i < lo + n := by
  unfold rngZ
  rw [List.mem_map]
  constructor
  · rintro ⟨k, hk, rfl⟩
    have := List.mem_range.mp hk
    omega
  · rintro ⟨h1, h2⟩
    exact ⟨(i - lo).toNat, List.mem_range.mpr (by omega), by omega⟩
/-! lists of numbers by place -/
theorem getD_set {xs : List Int} {a i : Nat} {x : Int} : (xs.set a x).getD i 0 = if a = i ∧ i < xs.length then x else xs.getD i 0 := by
  rw [List.getD_eq_getElem?_getD, List.getD_eq_getElem?_getD, List.getElem?_set]
  by_cases h : a = i
  · by_cases h2 : i < xs.length
    · subst h; simp [h2]
    · subst h; simp [h2, List.getElem?_eq_none (Nat.le_of_not_lt h2)]
  · simp [h]
theorem nodup_at {xs : List Int} : xs.Nodup ↔ ∀ i j : Nat, i < xs.length → j < xs.length → i ≠ j → xs.getD i 0 ≠ xs.getD j 0 := by
  constructor
  · intro h i j hi hj hn e
    rw [List.getD_eq_getElem?_getD, List.getD_eq_getElem?_getD, List.getElem?_eq_getElem hi, List.getElem?_eq_getElem hj] at e
    have e' : xs[i] = xs[j] := e
    rcases Nat.lt_or_gt_of_ne hn with hlt | hlt
    · exact List.pairwise_iff_getElem.mp h i j hi hj hlt e'
    · exact List.pairwise_iff_getElem.mp h j i hj hi hlt e'.symm
  · intro h
    refine List.pairwise_iff_getElem.mpr fun i j hi hj hij e => h i j hi hj (by omega) ?_
    rw [List.getD_eq_getElem?_getD, List.getD_eq_getElem?_getD, List.getElem?_eq_getElem hi, List.getElem?_eq_getElem hj]
    exact e
theorem mem_at {xs : List Int} {x : Int} : x ∈ xs ↔ ∃ i : Nat, i < xs.length ∧ xs.getD i 0 = x := by
  constructor
  · intro h
    obtain ⟨i, hi, e⟩ := List.mem_iff_getElem.mp h
    exact ⟨i, hi, by rw [List.getD_eq_getElem?_getD, List.getElem?_eq_getElem hi]; exact e⟩
  · rintro ⟨i, hi, e⟩
    rw [List.getD_eq_getElem?_getD, List.getElem?_eq_getElem hi] at e
    exact List.mem_iff_getElem.mpr ⟨i, hi, e⟩
theorem ext_at {xs ys : List Int} (hl : xs.length = ys.length) (h : ∀ i : Nat, i < xs.length → xs.getD i 0 = ys.getD i 0) : xs = ys := by
  refine List.ext_getElem hl fun i h1 h2 => ?_
  have := h i h1
  rw [List.getD_eq_getElem?_getD, List.getD_eq_getElem?_getD, List.getElem?_eq_getElem h1, List.getElem?_eq_getElem h2] at this
  exact this
theorem after_at {st : List Int} {e : Ex} {i : Nat} (hi : i < st.length) (ok : OkE st.length e) : (afterZ st e).getD i 0 = match e with
    | (true, a, b) => if b.toNat = i then nth st a else if a.toNat = i then nth st b else st.getD i 0
    | (false, a, g) => if a.toNat = i then g else st.getD i 0 := by
  obtain ⟨b, x, y⟩ := e
  cases b with
  | true =>
    show ((st.set x.toNat (nth st y)).set y.toNat (nth st x)).getD i 0 = _
    rw [getD_set, getD_set, List.length_set]
    by_cases h1 : y.toNat = i <;> by_cases h2 : x.toNat = i <;> simp [h1, h2, hi]
  | false =>
    show (st.set x.toNat y).getD i 0 = _
    rw [getD_set]
    by_cases h2 : x.toNat = i <;> simp [h2, hi]
/-! settings -/
structure Good (gs : List Int) (ps : List (Int × Int)) (st : List Int) : Prop where
  nd : st.Nodup
  len : st.length = ps.length
  sub : ∀ g ∈ st, g ∈ gs
  fit : ∀ i : Int, 0 ≤ i → i < (ps.length : Int) → fitZ ps i (nth st i) = true
theorem Shop.good {gs : List Int} {ps : List (Int × Int)} {st : List Int} (h : Shop gs ps st) : Good gs ps st where
  nd := h.nd
  len := h.eqv
  sub := h.sub
  fit := fun i h0 h1 => by
    have hi : i.toNat < ps.length := by omega
    have hi' : i.toNat < st.length := by rw [h.eqv]; exact hi
    have := h.fit i.toNat ps[i.toNat] st[i.toNat] (List.getElem?_eq_getElem hi) (List.getElem?_eq_getElem hi')
    unfold fitZ inR prAt nth
    rw [List.getD_eq_getElem?_getD, List.getD_eq_getElem?_getD, List.getElem?_eq_getElem hi, List.getElem?_eq_getElem hi']
    simp [this.1, this.2]
/-- an exchange that is possible -/
structure Poss (gs : List Int) (ps : List (Int × Int)) (st : List Int) (e : Ex) : Prop where
  ok : OkE ps.length e
  rk : e.1 = false → e.2.2 ∈ rackZ gs st
  fit : ∀ m ∈ machs e, fitZ ps m (nth (afterZ st e) m) = true
theorem exZ_ok {gs : List Int} {ps : List (Int × Int)} {st : List Int} {e : Ex} : exZ gs ps st e = .ok (afterZ st e) ↔ Poss gs ps st e := by
  constructor
  · intro h
    unfold exZ at h
    split at h
    · cases h
    · rename_i hb
      split at h
      · cases h
      · rename_i hc
        split at h
        · cases h
        · rename_i hu
          refine ⟨okE_of hb, fun he => ?_, fun m hm => ?_⟩
          · rw [he] at hc
            simpa using hc
          · have := (List.filter_eq_nil_iff.mp hu) m hm
            simpa using this
  · rintro ⟨h1, h2, h3⟩
    unfold exZ
    have hb : badM ps.length e = [] := List.filter_eq_nil_iff.mpr fun m hm => by
      have := okM_iff.mpr (h1 m hm)
      simp [this]
    have hc : (!e.1 && !(rackZ gs st).contains e.2.2) = false := by
      cases he : e.1 with
      | true => rfl
      | false =>
        have := h2 he
        simp [this]
    have hu : unfL ps st e = [] := List.filter_eq_nil_iff.mpr fun m hm => by
      have := h3 m hm
      simp [this]
    rw [hb, hc, hu]
theorem exZ_poss {gs : List Int} {ps : List (Int × Int)} {st st' : List Int} {e : Ex} (h : exZ gs ps st e = .ok st') : Poss gs ps st e ∧ st' = afterZ st e := by
  have := ex_len h
  subst this
  exact ⟨exZ_ok.mp h, rfl⟩
theorem toNat_inj {a b : Int} (ha : 0 ≤ a) (hb : 0 ≤ b) (h : a.toNat = b.toNat) : a = b := by omega
theorem Good.after {gs : List Int} {ps : List (Int × Int)} {st : List Int} {e : Ex} (h : Good gs ps st) (p : Poss gs ps st e) : Good gs ps (afterZ st e) := by
  have ok : OkE st.length e := by rw [h.len]; exact p.ok
  have hnd := nodup_at.mp h.nd
  refine ⟨nodup_at.mpr fun i j hi hj hij => ?_, by rw [after_len]; exact h.len, fun g hg => ?_, fun i h0 h1 => ?_⟩
  · rw [after_len] at hi hj
    rw [after_at hi ok, after_at hj ok]
    obtain ⟨b, x, y⟩ := e
    cases b with
    | true =>
      have hx := ok x (by simp [machs])
      have hy := ok y (by simp [machs])
      have xl : x.toNat < st.length := by omega
      have yl : y.toNat < st.length := by omega
      show (if y.toNat = i then nth st x else if x.toNat = i then nth st y else st.getD i 0) ≠ (if y.toNat = j then nth st x else if x.toNat = j then nth st y else st.getD j 0)
      unfold nth
      by_cases a1 : y.toNat = i <;> by_cases a2 : x.toNat = i <;> by_cases a3 : y.toNat = j <;> by_cases a4 : x.toNat = j <;> simp only [a1, a2, a3, a4, hij, Ne.symm hij, if_true, if_false] <;> first
        | (exfalso; omega)
        | (refine hnd _ _ ?_ ?_ ?_ <;> omega)
    | false =>
      have hx := ok x (by simp [machs])
      have xl : x.toNat < st.length := by omega
      have hr := p.rk rfl
      have hn : ∀ k : Nat, k < st.length → st.getD k 0 ≠ y := fun k hk e => by
        have hm : y ∈ st := mem_at.mpr ⟨k, hk, e⟩
        have := (List.mem_filter.mp hr).2
        simp [hm] at this
      show (if x.toNat = i then y else st.getD i 0) ≠ (if x.toNat = j then y else st.getD j 0)
      by_cases a2 : x.toNat = i <;> by_cases a4 : x.toNat = j <;> simp only [a2, a4, hij, Ne.symm hij, if_true, if_false]
      · exfalso; omega
      · exact Ne.symm (hn j hj)
      · exact hn i hi
      · exact hnd i j hi hj hij
  · obtain ⟨i, hi, e1⟩ := mem_at.mp hg
    rw [after_len] at hi
    rw [after_at hi ok] at e1
    obtain ⟨b, x, y⟩ := e
    cases b with
    | true =>
      have hx := ok x (by simp [machs])
      have hy := ok y (by simp [machs])
      have e1' : (if y.toNat = i then nth st x else if x.toNat = i then nth st y else st.getD i 0) = g := e1
      unfold nth at e1'
      split at e1'
      · exact h.sub g (mem_at.mpr ⟨x.toNat, by omega, e1'⟩)
      · split at e1'
        · exact h.sub g (mem_at.mpr ⟨y.toNat, by omega, e1'⟩)
        · exact h.sub g (mem_at.mpr ⟨i, hi, e1'⟩)
    | false =>
      have e1' : (if x.toNat = i then y else st.getD i 0) = g := e1
      split at e1'
      · subst e1'; exact (List.mem_filter.mp (p.rk rfl)).1
      · exact h.sub g (mem_at.mpr ⟨i, hi, e1'⟩)
  · by_cases hm : i ∈ machs e
    · exact p.fit i hm
    · have hi : i.toNat < st.length := by rw [h.len]; omega
      have e2 : nth (afterZ st e) i = nth st i := by
        unfold nth
        rw [after_at hi ok]
        obtain ⟨b, x, y⟩ := e
        cases b with
        | true =>
          have hx := ok x (by simp [machs])
          have hy := ok y (by simp [machs])
          have n1 : ¬ y.toNat = i.toNat := fun z => hm (by simp [machs]; exact .inr (by omega))
          have n2 : ¬ x.toNat = i.toNat := fun z => hm (by simp [machs]; exact .inl (by omega))
          show (if y.toNat = i.toNat then nth st x else if x.toNat = i.toNat then nth st y else st.getD i.toNat 0) = _
          rw [if_neg n1, if_neg n2]
        | false =>
          have hx := ok x (by simp [machs])
          have n2 : ¬ x.toNat = i.toNat := fun z => hm (by simp [machs]; omega)
          show (if x.toNat = i.toNat then y else st.getD i.toNat 0) = _
          rw [if_neg n2]
      rw [e2]
      exact h.fit i h0 h1
/-! the laws' helpers -/
section
def sp_l_fits : DSp := fun args n Q _ => ∃ t gs ps, ∃ m g : Int, args = [.d (shQ t gs ps), .d (.int m), .d (.int g)] ∧ (0 ≤ m ∧ m < (ps.length : Int)) ∧ Q (.d (.bool (fitZ ps m g))) n
theorem r_l_fits : ∀ args n Qa Ea, sp_l_fits args n Qa Ea → t_l_fits (fin Qa) (startD 3 args n) := by
  rintro args n Qa Ea ⟨t, gs, ps, m, g, rfl, ⟨h0, h1⟩, hq⟩
  unfold fitZ inR at hq
  refine ixl1 (ix_prs h0 h1 (ixl0 ?_))
  show (match DV.d (.bool (decide ((prAt ps m).1 ≤ g))) with | .d (.bool true) => _ | .d (.bool false) => Qa (.d (.bool false)) n | _ => False)
  cases h1' : decide ((prAt ps m).1 ≤ g)
  · rw [h1'] at hq; exact hq
  · rw [h1'] at hq
    exact ixl1 (ix_prs h0 h1 (ixl1 hq))
def sp_store : DSp := fun args n Q _ => ∃ t u gs ps st, args = [.d (shQ t gs ps), .d (stD u st)] ∧ Q (.own ((rackZ gs st).map .int)) n
theorem r_store : ∀ args n Qa Ea, sp_store args n Qa Ea → t_store (fin Qa) (startD 3 args n) := by
  rintro args n Qa Ea ⟨t, u, gs, ps, st, rfl, hq⟩
  refine lc_map .int gs (keepI fun g => !st.contains g) (ds1 := ⟨[some (.d (shQ t gs ps)), some (.d (stD u st)), none], n⟩) (fun K hK => ixl0 (by cases t <;> exact hK)) rfl (fun g hg acc P hP => ?_) ?_
  · refine notIn_ints ?_
    have := keep_step hP
    revert this
    cases (!st.contains g) <;> exact id
  · rw [fm_keep]
    exact hq
theorem r_l_after : ∀ args n Qa Ea, sp_after args n Qa Ea → t_l_after (fin Qa) (startD 3 args n) := by
  rintro args n Qa Ea ⟨u, w, st, ⟨b, x, y⟩, rfl, ok, hq⟩
  have main : (dSeq t_l_after_1 t_l_after_2) (fin Qa) ⟨[some (.d (stD u st)), some (.d (exD w (b, x, y))), some (.own (st.map .int))], n⟩ := by
    have hx : 0 ≤ x ∧ x < (st.length : Int) := ok x (by cases b <;> simp [machs])
    refine ixl0 (feq_str ?_)
    rw [w_take]
    cases b with
    | true =>
      have hy : 0 ≤ y ∧ y < (st.length : Int) := ok y (by simp [machs])
      refine ixl2 (ix_ints hy.1 hy.2 (ixl1 (ix_ints hx.1 hx.2 ?_)))
      refine ixl1 ?_
      show someD (ixN (st.map PyData.int).length x) _
      rw [ixN_map hx.1 hx.2]
      refine ixl2 ?_
      show someD (ixN ((st.map PyData.int).set x.toNat (.int (nth st y))).length y) _
      rw [List.length_set, ixN_map hy.1 hy.2]
      show Qa (.d (.tuple (((st.map PyData.int).set x.toNat (.int (nth st y))).set y.toNat (.int (nth st x))))) n
      rw [set_ints, set_ints]
      exact hq
    | false =>
      refine ixl2 (ixl1 ?_)
      show someD (ixN (st.map PyData.int).length x) _
      rw [ixN_map hx.1 hx.2]
      show Qa (.d (.tuple ((st.map PyData.int).set x.toNat (.int y)))) n
      rw [set_ints]
      exact hq
  cases u <;> exact main
theorem r_part : ∀ args n Qa Ea, sp_machines_of args n Qa Ea → t_part (fin Qa) (startD 1 args n) := r_machines_of
/-! deals -/
def swapsZ (ps : List (Int × Int)) (st : List Int) (i : Int) : List Ex := ((rngZ (i + 1) ((st.length : Int) - (i + 1)).toNat).filter fun j => fitZ ps i (nth st j) && fitZ ps j (nth st i)).map fun j => (true, i, j)
def takesZ (gs : List Int) (ps : List (Int × Int)) (st : List Int) (i : Int) : List Ex := ((rackZ gs st).filter (fitZ ps i)).map fun g => (false, i, g)
def dealsZ (gs : List Int) (ps : List (Int × Int)) (st : List Int) : List Ex := (rngZ 0 st.length).flatMap (swapsZ ps st) ++ (rngZ 0 st.length).flatMap (takesZ gs ps st)
def sp_deals : DSp := fun args n Q _ => ∃ t gs ps st, args = [.d (shQ t gs ps), .d (stD true st)] ∧ st.length = ps.length ∧ st.length ≤ 100 ∧ gs.length ≤ 100 ∧ Q (.own ((dealsZ gs ps st).map (exD true))) n
theorem r_deals : ∀ args n Qa Ea, sp_deals args n Qa Ea → t_deals sp_l_fits sp_store (fin Qa) (startD 7 args n) := by
  rintro args n Qa Ea ⟨t, gs, ps, st, rfl, hl, hs, hg, hq⟩
  refine lenQ (t := true) ?_
  rw [List.length_map]
  have takes : ∀ (is : List Int) (fd : List Ex) (m4 m5 : Option DV), (∀ i ∈ is, 0 ≤ i ∧ i < (st.length : Int)) → fd.length + 100 * is.length ≤ 1000000 → Qa (.own ((fd ++ is.flatMap (takesZ gs ps st)).map (exD true))) n →
      forR (gdName 4) (dDrop (dMut 2 gExtend (dCons (dLc (dSq (dCall sp_store (fun as => as) (dCons (dVar 0) (dCons (dVar 1) dNil)))) (gdName 6) (dTr (dCall sp_l_fits (fun as => as) (dCons (dVar 0) (dCons (dVar 4) (dCons (dVar 6) dNil))))) (dTup (dCons (dC (.str "take")) (dCons (dVar 4) (dCons (dVar 6) dNil)))) [6]) dNil))) { fin Qa with nx := t_deals_3 (fin Qa) } (is.map .int) ⟨[some (.d (shQ t gs ps)), some (.d (stD true st)), some (.own (fd.map (exD true))), some (.d (.int (st.length : Nat))), m4, m5, none], n⟩ := by
    intro is
    induction is with
    | nil =>
      intro fd m4 m5 _ _ hq
      rw [List.flatMap_nil, List.append_nil] at hq
      exact hq
    | cons i is ih =>
      intro fd m4 m5 hi hf hq
      have hi0 := hi i (by simp)
      refine lc_map .int (rackZ gs st) (fun g => if fitZ ps i g = true then some (exD true (false, i, g)) else none) (ds1 := ⟨[some (.d (shQ t gs ps)), some (.d (stD true st)), some (.own (fd.map (exD true))), some (.d (.int (st.length : Nat))), some (.d (.int i)), m5, none], n⟩) (fun K hK => ⟨t, true, gs, ps, st, rfl, hK⟩) rfl (fun g _ acc P hP => ?_) ?_
      · refine ⟨t, gs, ps, i, g, rfl, by rw [← hl]; exact hi0, ?_⟩
        cases hfit : fitZ ps i g with
        | true => rw [if_pos hfit] at hP; exact hP
        | false =>
          rw [if_neg (by rw [hfit]; exact Bool.false_ne_true)] at hP
          have hP' : P (acc ++ []) _ := hP
          rw [List.append_nil] at hP'
          exact hP'
      · have e : ((rackZ gs st).filterMap fun g => if fitZ ps i g = true then some (exD true (false, i, g)) else none) = (takesZ gs ps st i).map (exD true) := by
          unfold takesZ
          rw [List.map_map]
          generalize rackZ gs st = rs
          induction rs with
          | nil => rfl
          | cons g rs ih2 =>
            simp only [List.filterMap_cons, List.filter_cons]
            cases fitZ ps i g with
            | true => simp only [if_true, List.map_cons, ih2]; rfl
            | false => simp only [Bool.false_eq_true, if_false, ih2]
        rw [e]
        have tl : (takesZ gs ps st i).length ≤ 100 := by
          unfold takesZ rackZ
          rw [List.length_map]
          refine Nat.le_trans (List.length_filter_le _ _) (Nat.le_trans (List.length_filter_le _ _) hg)
        refine ⟨by rw [List.length_map, List.length_map]; simp only [List.length_cons] at hf; omega, ?_⟩
        have := ih (fd ++ takesZ gs ps st i) (some (.d (.int i))) m5 (fun j hj => hi j (List.mem_cons_of_mem _ hj)) (by rw [List.length_append]; simp only [List.length_cons] at hf; omega) (by rw [List.append_assoc]; exact hq)
        rw [List.map_append] at this
        exact this
  have inner : ∀ (i : Int) (js : List Int) (fd : List Ex) (E : DEn) (m5 : Option DV), 0 ≤ i ∧ i < (st.length : Int) → (∀ j ∈ js, 0 ≤ j ∧ j < (st.length : Int)) → fd.length + js.length ≤ 1000000 →
      (∀ m5', E.nx ⟨[some (.d (shQ t gs ps)), some (.d (stD true st)), some (.own ((fd ++ ((js.filter fun j => fitZ ps i (nth st j) && fitZ ps j (nth st i)).map fun j => (true, i, j))).map (exD true))), some (.d (.int (st.length : Nat))), some (.d (.int i)), m5', none], n⟩) →
      forR (gdName 5) (dIfS (dAnd (dTr (dCall sp_l_fits (fun as => as) (dCons (dVar 0) (dCons (dVar 4) (dCons (dOp2 gIx (dVar 1) (dVar 5)) dNil))))) (dTr (dCall sp_l_fits (fun as => as) (dCons (dVar 0) (dCons (dVar 5) (dCons (dOp2 gIx (dVar 1) (dVar 4)) dNil)))))) (dDrop (dMut 2 gAppend (dCons (dTup (dCons (dC (.str "swap")) (dCons (dVar 4) (dCons (dVar 5) dNil)))) dNil))) dNext) E (js.map .int) ⟨[some (.d (shQ t gs ps)), some (.d (stD true st)), some (.own (fd.map (exD true))), some (.d (.int (st.length : Nat))), some (.d (.int i)), m5, none], n⟩ := by
    intro i js
    induction js with
    | nil =>
      intro fd E m5 _ _ _ hN
      have := hN m5
      rw [List.filter_nil, List.map_nil, List.append_nil] at this
      exact this
    | cons j js ih =>
      intro fd E m5 hi hj hf hN
      have hj0 := hj j (by simp)
      have step : ∀ b, (fitZ ps i (nth st j) && fitZ ps j (nth st i)) = b → (match b with
          | true => (dDrop (dMut 2 gAppend (dCons (dTup (dCons (dC (.str "swap")) (dCons (dVar 4) (dCons (dVar 5) dNil)))) dNil))) { E with nx := forR (gdName 5) (dIfS (dAnd (dTr (dCall sp_l_fits (fun as => as) (dCons (dVar 0) (dCons (dVar 4) (dCons (dOp2 gIx (dVar 1) (dVar 5)) dNil))))) (dTr (dCall sp_l_fits (fun as => as) (dCons (dVar 0) (dCons (dVar 5) (dCons (dOp2 gIx (dVar 1) (dVar 4)) dNil)))))) (dDrop (dMut 2 gAppend (dCons (dTup (dCons (dC (.str "swap")) (dCons (dVar 4) (dCons (dVar 5) dNil)))) dNil))) dNext) E (js.map .int) } ⟨[some (.d (shQ t gs ps)), some (.d (stD true st)), some (.own (fd.map (exD true))), some (.d (.int (st.length : Nat))), some (.d (.int i)), some (.d (.int j)), none], n⟩
          | false => forR (gdName 5) (dIfS (dAnd (dTr (dCall sp_l_fits (fun as => as) (dCons (dVar 0) (dCons (dVar 4) (dCons (dOp2 gIx (dVar 1) (dVar 5)) dNil))))) (dTr (dCall sp_l_fits (fun as => as) (dCons (dVar 0) (dCons (dVar 5) (dCons (dOp2 gIx (dVar 1) (dVar 4)) dNil)))))) (dDrop (dMut 2 gAppend (dCons (dTup (dCons (dC (.str "swap")) (dCons (dVar 4) (dCons (dVar 5) dNil)))) dNil))) dNext) E (js.map .int) ⟨[some (.d (shQ t gs ps)), some (.d (stD true st)), some (.own (fd.map (exD true))), some (.d (.int (st.length : Nat))), some (.d (.int i)), some (.d (.int j)), none], n⟩) := by
        intro b hb
        cases b with
        | true =>
          refine ⟨by rw [List.length_map]; simp only [List.length_cons] at hf; omega, ?_⟩
          have := ih (fd ++ [(true, i, j)]) E (some (.d (.int j))) hi (fun k hk => hj k (List.mem_cons_of_mem _ hk)) (by rw [List.length_append, List.length_singleton]; simp only [List.length_cons] at hf; omega) (fun m5' => by
            have := hN m5'
            rw [List.filter_cons, hb, if_pos rfl, List.map_cons] at this
            rw [List.append_assoc]; exact this)
          rw [List.map_append] at this
          exact this
        | false =>
          exact ih fd E (some (.d (.int j))) hi (fun k hk => hj k (List.mem_cons_of_mem _ hk)) (by simp only [List.length_cons] at hf; omega) (fun m5' => by
            have := hN m5'
            rw [List.filter_cons, hb, if_neg Bool.false_ne_true] at this
            exact this)
      refine ix_ints (t := true) hj0.1 hj0.2 ?_
      refine ⟨t, gs, ps, i, nth st j, rfl, by rw [← hl]; exact hi, ?_⟩
      cases hf1 : fitZ ps i (nth st j) with
      | false => exact step false (by rw [hf1]; rfl)
      | true =>
        refine ix_ints (t := true) hi.1 hi.2 ?_
        refine ⟨t, gs, ps, j, nth st i, rfl, by rw [← hl]; exact hj0, ?_⟩
        cases hf2 : fitZ ps j (nth st i) with
        | false => exact step false (by rw [hf1, hf2]; rfl)
        | true => exact step true (by rw [hf1, hf2]; rfl)
  have outer : ∀ (is : List Int) (fd : List Ex) (m4 m5 : Option DV), (∀ i ∈ is, 0 ≤ i ∧ i < (st.length : Int)) → fd.length + 100 * is.length ≤ 20000 →
      (∀ m4' m5', (dSeq (t_deals_2 sp_store sp_l_fits) t_deals_3) (fin Qa) ⟨[some (.d (shQ t gs ps)), some (.d (stD true st)), some (.own ((fd ++ is.flatMap (swapsZ ps st)).map (exD true))), some (.d (.int (st.length : Nat))), m4', m5', none], n⟩) →
      forR (gdName 4) (dFor (dRng2 (dCons (dOp2 fAdd (dVar 4) (dC (.int 1))) (dCons (dVar 3) dNil))) (gdName 5) (dIfS (dAnd (dTr (dCall sp_l_fits (fun as => as) (dCons (dVar 0) (dCons (dVar 4) (dCons (dOp2 gIx (dVar 1) (dVar 5)) dNil))))) (dTr (dCall sp_l_fits (fun as => as) (dCons (dVar 0) (dCons (dVar 5) (dCons (dOp2 gIx (dVar 1) (dVar 4)) dNil)))))) (dDrop (dMut 2 gAppend (dCons (dTup (dCons (dC (.str "swap")) (dCons (dVar 4) (dCons (dVar 5) dNil)))) dNil))) dNext)) { fin Qa with nx := (dSeq (t_deals_2 sp_store sp_l_fits) t_deals_3) (fin Qa) } (is.map .int) ⟨[some (.d (shQ t gs ps)), some (.d (stD true st)), some (.own (fd.map (exD true))), some (.d (.int (st.length : Nat))), m4, m5, none], n⟩ := by
    intro is
    induction is with
    | nil =>
      intro fd m4 m5 _ _ hq
      have := hq m4 m5
      rw [List.flatMap_nil, List.append_nil] at this
      exact this
    | cons i is ih =>
      intro fd m4 m5 hi hf hq
      have hi0 := hi i (by simp)
      have lj : (rngZ (i + 1) ((st.length : Int) - (i + 1)).toNat).length ≤ 100 := by rw [rngZ_len]; omega
      refine ⟨⟨by omega, by omega, by omega, by omega, by omega⟩, ?_⟩
      rw [rangeD_eq]
      refine for_run (inner i (rngZ (i + 1) ((st.length : Int) - (i + 1)).toNat) fd _ m5 hi0 (fun j hj => by rw [rngZ_mem] at hj; omega) (by omega) fun m5' => ?_)
      refine ih (fd ++ swapsZ ps st i) (some (.d (.int i))) m5' (fun k hk => hi k (List.mem_cons_of_mem _ hk)) ?_ (fun a b => by rw [List.append_assoc]; exact hq a b)
      have : (swapsZ ps st i).length ≤ 100 := by
        unfold swapsZ
        rw [List.length_map]
        exact Nat.le_trans (List.length_filter_le _ _) lj
      rw [List.length_append]; simp only [List.length_cons] at hf; omega
  have r0 : ∀ i ∈ rngZ 0 st.length, 0 ≤ i ∧ i < (st.length : Int) := fun i hi => by rw [rngZ_mem] at hi; omega
  have rl : ((st.length : Nat) : Int).toNat = st.length := by omega
  refine ⟨by omega, by omega, ?_⟩
  rw [rl, rangeD_eq]
  refine for_run (outer (rngZ 0 st.length) [] none none r0 (by rw [rngZ_len, List.length_nil]; omega) fun m4 m5 => ?_)
  refine ⟨by omega, by omega, ?_⟩
  rw [rl, rangeD_eq]
  refine for_run (takes (rngZ 0 st.length) _ m4 m5 r0 ?_ ?_)
  · rw [rngZ_len]
    have : ∀ is : List Int, (∀ i ∈ is, 0 ≤ i) → (is.flatMap (swapsZ ps st)).length ≤ 100 * is.length := by
      intro is
      induction is with
      | nil => intro _; simp
      | cons i is ih =>
        intro hi
        rw [List.flatMap_cons, List.length_append, List.length_cons]
        have h1 := ih fun k hk => hi k (List.mem_cons_of_mem _ hk)
        have h0 := hi i (by simp)
        have h2 : (swapsZ ps st i).length ≤ 100 := by
          unfold swapsZ
          rw [List.length_map]
          refine Nat.le_trans (List.length_filter_le _ _) ?_
          rw [rngZ_len]; omega
        omega
    have := this (rngZ 0 st.length) fun i hi => (r0 i hi).1
    rw [rngZ_len] at this
    rw [List.nil_append]
    omega
  · rw [List.nil_append]
    exact hq
end
end SF

/-! R33: walks. -/
namespace SF
open PySem PySem.Spec PyProof.Rows L2
theorem nth_after {st : List Int} {e : Ex} {i : Int} (hi : 0 ≤ i ∧ i < (st.length : Int)) (ok : OkE st.length e) : nth (afterZ st e) i = match e with
    | (true, a, b) => if b.toNat = i.toNat then nth st a else if a.toNat = i.toNat then nth st b else nth st i
    | (false, a, g) => if a.toNat = i.toNat then g else nth st i := by
  unfold nth
  rw [after_at (by omega) ok]
  obtain ⟨b, x, y⟩ := e
  cases b <;> rfl
/-- its form: one below other -/
def WfE (e : Ex) : Prop := e.1 = true → e.2.1 < e.2.2
theorem deal_poss {gs : List Int} {ps : List (Int × Int)} {st : List Int} {e : Ex} (hl : st.length = ps.length) (h : e ∈ dealsZ gs ps st) : Poss gs ps st e ∧ WfE e := by
  unfold dealsZ at h
  rcases List.mem_append.mp h with h | h
  · obtain ⟨i, hi, h⟩ := List.mem_flatMap.mp h
    obtain ⟨j, hj, rfl⟩ := List.mem_map.mp h
    obtain ⟨hj, hf⟩ := List.mem_filter.mp hj
    rw [rngZ_mem] at hi hj
    rw [Bool.and_eq_true] at hf
    have ok : OkE st.length (true, i, j) := fun m hm => by
      simp only [machs, List.mem_cons, List.not_mem_nil, or_false] at hm
      rcases hm with rfl | rfl <;> omega
    refine ⟨⟨by rw [← hl]; exact ok, fun he => (by cases he), fun m hm => ?_⟩, fun _ => ?_⟩
    · have hm' := ok m hm
      rw [nth_after hm' ok]
      show fitZ ps m (if j.toNat = m.toNat then nth st i else if i.toNat = m.toNat then nth st j else nth st m) = true
      simp only [machs, List.mem_cons, List.not_mem_nil, or_false] at hm
      rcases hm with rfl | rfl
      · rw [if_neg (by omega), if_pos rfl]; exact hf.1
      · rw [if_pos rfl]; exact hf.2
    · show i < j
      omega
  · obtain ⟨i, hi, h⟩ := List.mem_flatMap.mp h
    obtain ⟨g, hg, rfl⟩ := List.mem_map.mp h
    obtain ⟨hg, hf⟩ := List.mem_filter.mp hg
    rw [rngZ_mem] at hi
    have ok : OkE st.length (false, i, g) := fun m hm => by
      simp only [machs, List.mem_cons, List.not_mem_nil, or_false] at hm
      subst hm; omega
    refine ⟨⟨by rw [← hl]; exact ok, fun _ => hg, fun m hm => ?_⟩, fun he => by cases he⟩
    have hm' := ok m hm
    rw [nth_after hm' ok]
    simp only [machs, List.mem_cons, List.not_mem_nil, or_false] at hm
    subst hm
    show fitZ ps m (if m.toNat = m.toNat then g else nth st m) = true
    rw [if_pos rfl]; exact hf
/-- a row of possible exchanges from one setting to another -/
inductive Path (gs : List Int) (ps : List (Int × Int)) : List Int → List Ex → List Int → Prop
  | nil (st) : Path gs ps st [] st
  | cons {st e es st'} : Poss gs ps st e → WfE e → Path gs ps (afterZ st e) es st' → Path gs ps st (e :: es) st'
theorem Path.snoc {gs : List Int} {ps : List (Int × Int)} {st st' : List Int} {es : List Ex} {e : Ex} (h : Path gs ps st es st') (p : Poss gs ps st' e) (w : WfE e) : Path gs ps st (es ++ [e]) (afterZ st' e) := by
  induction h with
  | nil st => exact .cons p w (.nil _)
  | cons q v r ih => exact .cons q v (ih p)
theorem Path.row {gs : List Int} {ps : List (Int × Int)} {st st' : List Int} {es : List Ex} (h : Path gs ps st es st') : rowZ gs ps st es = .ok st' := by
  induction h with
  | nil st => rfl
  | cons q v r ih =>
    unfold rowZ
    rw [exZ_ok.mpr q]
    exact ih
theorem Path.good {gs : List Int} {ps : List (Int × Int)} {st st' : List Int} {es : List Ex} (h : Path gs ps st es st') (g : Good gs ps st) : Good gs ps st' := by
  induction h with
  | nil st => exact g
  | cons q v r ih => exact ih (g.after q)
/-- a shop as it is drawn -/
structure Pl (gs : List Int) (ps : List (Int × Int)) : Prop where
  asc : Asc 2000000000 gs
  lg : gs.length ≤ 100
  lp : ps.length ≤ 100
  rng : ∀ p ∈ ps, 1 ≤ p.1 ∧ p.1 ≤ p.2 ∧ p.2 ≤ 2000000001
/-! niceness of exchanges -/
theorem nice_i {i : Int} (h : i.natAbs ≤ 100000000000000000000) : Nice 0 60 (.int i) := nice_int (Nat.le_refl _) (Nat.le_trans h (by decide))
theorem nice_w (b : Bool) : Nice 0 60 (.str (exW b)) := ⟨by cases b <;> decide +kernel, Nat.le_refl _, by cases b <;> decide +kernel, by cases b <;> decide +kernel⟩
theorem nice_mk {t : Bool} {k m : Nat} {xs : List D} (h : ∀ x ∈ xs, Nice k m x) : Nice (k + 1) (xs.length * (m + 2) + 4) (mkQ t xs) := by
  cases t
  · exact nice_list (Nat.le_refl _) h
  · exact nice_tuple (Nat.le_refl _) h
def SmE (e : Ex) : Prop := e.2.1.natAbs ≤ 100000000000000000000 ∧ e.2.2.natAbs ≤ 100000000000000000000
theorem nice_ex {t : Bool} {e : Ex} (h : SmE e) : Nice 1 200 (exD t e) := (nice_mk (t := t) (k := 0) (m := 60) (xs := [.str (exW e.1), .int e.2.1, .int e.2.2]) fun x hx => by
  simp only [List.mem_cons, List.not_mem_nil, or_false] at hx
  rcases hx with rfl | rfl | rfl
  · exact nice_w _
  · exact nice_i h.1
  · exact nice_i h.2).mono (Nat.le_refl _) (by simp)
theorem poss_small {gs : List Int} {ps : List (Int × Int)} {st : List Int} {e : Ex} (P : Pl gs ps) (h : Poss gs ps st e) : SmE e := by
  obtain ⟨b, x, y⟩ := e
  have hx := h.ok x (by cases b <;> simp [machs])
  have := P.lp
  cases b with
  | true =>
    have hy := h.ok y (by simp [machs])
    exact ⟨by show x.natAbs ≤ _; omega, by show y.natAbs ≤ _; omega⟩
  | false =>
    have hy := (List.mem_filter.mp (h.rk rfl)).1
    have h1 := P.asc.lo y hy
    have h2 := P.asc.hi y hy
    exact ⟨by show x.natAbs ≤ _; omega, by show y.natAbs ≤ _; omega⟩
theorem Path.small {gs : List Int} {ps : List (Int × Int)} {st st' : List Int} {es : List Ex} (P : Pl gs ps) (h : Path gs ps st es st') : ∀ e ∈ es, SmE e := by
  induction h with
  | nil st => intro e he; cases he
  | cons q v r ih =>
    intro e he
    rcases List.mem_cons.mp he with rfl | he
    · exact poss_small P q
    · exact ih e he
theorem deals_len {gs : List Int} {ps : List (Int × Int)} {st : List Int} (hs : st.length ≤ 100) (hg : gs.length ≤ 100) : (dealsZ gs ps st).length ≤ 20000 := by
  have f : ∀ (F : Int → List Ex) (is : List Int), (∀ i ∈ is, (F i).length ≤ 100) → (is.flatMap F).length ≤ 100 * is.length := by
    intro F is
    induction is with
    | nil => intro _; simp
    | cons i is ih =>
      intro hi
      rw [List.flatMap_cons, List.length_append, List.length_cons]
      have h1 := ih fun k hk => hi k (List.mem_cons_of_mem _ hk)
      have h2 := hi i (by simp)
      omega
  unfold dealsZ
  rw [List.length_append]
  have a := f (swapsZ ps st) (rngZ 0 st.length) fun i hi => by
    rw [rngZ_mem] at hi
    unfold swapsZ
    rw [List.length_map]
    refine Nat.le_trans (List.length_filter_le _ _) ?_
    rw [rngZ_len]; omega
  have b := f (takesZ gs ps st) (rngZ 0 st.length) fun i hi => by
    unfold takesZ rackZ
    rw [List.length_map]
    exact Nat.le_trans (List.length_filter_le _ _) (Nat.le_trans (List.length_filter_le _ _) hg)
  rw [rngZ_len] at a b
  omega
section
def sp_wandered : DSp := fun args n Q _ => ∃ t gs ps st, ∃ k : Int, args = [.box, .d (shQ t gs ps), .d (stD true st), .d (.int k)] ∧ Pl gs ps ∧ Good gs ps st ∧ 0 ≤ k ∧ k ≤ 100 ∧ 3 * k.toNat ≤ n ∧
  ∀ es st' n', Path gs ps st es st' → es.length ≤ k.toNat → n ≤ n' + 3 * k.toNat → Q (.d (.tuple [.list (es.map (exD true)), stD true st'])) n'
theorem ix_last {xs : List D} {x : D} {Q : DV → Prop} (q : Q (.d x)) : gIx (.list (xs ++ [x])) (.int (-1)) Q := by
  refine gIx_i ?_
  refine someI (x := x) ?_ q
  unfold atI
  rw [atI_last]
  simp
theorem r_wandered : ∀ args n Qa Ea, sp_wandered args n Qa Ea → t_wandered sp_deals sp_after (fin Qa) (startD 7 args n) := by
  rintro args n Qa Ea ⟨t, gs, ps, st, k, rfl, P, G, k0, k1, hn, hq⟩
  have loop : ∀ (is : List Int) (fd : List Ex) (here : List Int) (n' : Nat) (m5 m6 : Option DV), Path gs ps st fd here → fd.length + is.length ≤ k.toNat → n ≤ n' + 3 * (k.toNat - is.length) →
      forR (gdName 5) (dSeq (dSet 6 (dCall sp_deals (fun as => as) (dCons (dVar 1) (dCons (dVar 2) dNil))))
    (dIfS (dTst (dOp2 fNe (dVar 6) (dLst dNil))) (dSeq (dDrop (dMut 4 gAppend (dCons (dPick 0 (dVar 6)) dNil)))
    (dSet 2 (dCall sp_after (fun as => as) (dCons (dVar 2) (dCons (dOp2 gIx (dVar 4) (dOp1 fNeg (dC (.int 1)))) dNil))))) dNext)) { fin Qa with nx := t_wandered_2 (fin Qa) } (is.map .int) ⟨[some .box, some (.d (shQ t gs ps)), some (.d (stD true here)), some (.d (.int k)), some (.own (fd.map (exD true))), m5, m6], n'⟩ := by
    intro is
    induction is with
    | nil =>
      intro fd here n' m5 m6 hp hf hn'
      exact hq fd here n' hp (by simpa using hf) (by simpa using hn')
    | cons i is ih =>
      intro fd here n' m5 m6 hp hf hn'
      have gh := hp.good G
      have hl := gh.len
      have lh : here.length ≤ 100 := by rw [hl]; exact P.lp
      simp only [List.length_cons] at hf hn'
      refine ⟨t, gs, ps, here, rfl, hl, lh, P.lg, ?_⟩
      have ds := deals_len (ps := ps) lh P.lg
      refine fne_in ((nice_list (k := 1) (m := 200) (Nat.le_refl _) fun x hx => ?_).shaped (by omega)) (by decide) ?_
      · obtain ⟨e, he, rfl⟩ := List.mem_map.mp hx
        exact nice_ex (poss_small P (deal_poss hl he).1)
      rw [eqvNil]
      cases hd : (dealsZ gs ps here).map (exD true) with
      | nil =>
        exact ih fd here n' _ _ hp (by omega) (by omega)
      | cons d ds' =>
        rw [← hd]
        have ne : (!List.isEmpty ((dealsZ gs ps here).map (exD true))) = true := by rw [hd]; rfl
        rw [ne]
        refine ⟨by rw [hd]; simp, by rw [List.length_map]; omega, by show 3 ≤ n'; omega, fun z hz => ?_⟩
        obtain ⟨e, he, rfl⟩ := List.mem_map.mp hz
        obtain ⟨hpos, hw⟩ := deal_poss hl he
        refine ⟨by rw [List.length_map]; omega, ?_⟩
        refine ix_last ?_
        refine ⟨true, true, here, e, rfl, by rw [hl]; exact hpos.ok, ?_⟩
        have := ih (fd ++ [e]) (afterZ here e) (n' - 3) (some (.d (.int i))) (some (.own ((dealsZ gs ps here).map (exD true)))) (hp.snoc hpos hw) (by rw [List.length_append, List.length_singleton]; omega) (by omega)
        rw [List.map_append] at this
        exact this
  refine ⟨by omega, by omega, ?_⟩
  rw [rangeD_eq]
  exact for_run (loop (rngZ 0 k.toNat) [] st n none none (.nil st) (by rw [rngZ_len]; simp) (by rw [rngZ_len]; omega))
end
end SF

/-! R33n: niceness and flatness of what the laws draw. -/
namespace SF
open PySem PySem.Spec PyProof.Rows L2
/-! lists instead of tuples -/
theorem listsL_ints : ∀ gs : List Int, listsL (gs.map .int) = gs.map .int
  | [] => by simp [listsL]
  | g :: gs => by simp [listsL, listsD, listsL_ints gs]
theorem listsL_prs : ∀ qs : List (Int × Int), listsL (qs.map (prQ true)) = qs.map (prQ false)
  | [] => by simp [listsL]
  | q :: qs => by
    simp only [List.map_cons, listsL, listsL_prs qs]
    simp [prQ, mkQ, listsD, listsL]
theorem listsL_exs : ∀ es : List Ex, listsL (es.map (exD true)) = es.map (exD false)
  | [] => by simp [listsL]
  | q :: qs => by
    simp only [List.map_cons, listsL, listsL_exs qs]
    simp [exD, mkQ, listsD, listsL]
theorem lists_sh {gs : List Int} {ps : List (Int × Int)} : rvL (shQ true gs ps) = .own [.list (gs.map .int), .list (ps.map (prQ false))] := by
  show DV.own (listsL [.tuple (gs.map .int), .tuple (ps.map (prQ true))]) = _
  simp only [listsL, listsD, listsL_ints, listsL_prs]
theorem lists_row {es : List Ex} : rvL (.list (es.map (exD true))) = .own (es.map (exD false)) := by
  show DV.own (listsL (es.map (exD true))) = _
  rw [listsL_exs]
/-! flat data -/
theorem flat_ints : ∀ xs : List Int, flatL (xs.map .int) = true
  | [] => rfl
  | x :: xs => by simp [flatL, flat, flat_ints xs]
theorem flat_exs : ∀ es : List Ex, flatL (es.map (exD true)) = true
  | [] => rfl
  | x :: xs => by
    simp only [List.map_cons, flatL, flat_exs xs]
    rfl
theorem aft_flat {ds : DS} {xs : List DV} {r : DV} (h : flatR r = true) : aftS ds xs r = ds.sl := by
  unfold aftS
  rw [h]
  cases ownA ds xs <;> rfl
section
variable {gs : List Int} {ps : List (Int × Int)} {st : List Int}
theorem nice_ints {t : Bool} {xs : List Int} (h : ∀ x ∈ xs, x.natAbs ≤ 100000000000000000000) : Nice 1 (xs.length * 62 + 4) (mkQ t (xs.map .int)) := by
  have := nice_mk (t := t) (k := 0) (m := 60) (xs := xs.map PyData.int) fun x hx => by
    obtain ⟨g, hg, rfl⟩ := List.mem_map.mp hx
    exact nice_i (h g hg)
  rw [List.length_map] at this
  exact this
theorem nice_pr {t : Bool} {p : Int × Int} (h1 : p.1.natAbs ≤ 100000000000000000000) (h2 : p.2.natAbs ≤ 100000000000000000000) : Nice 1 128 (prQ t p) := nice_mk (t := t) (k := 0) (m := 60) (xs := [.int p.1, .int p.2]) fun x hx => by
  simp only [List.mem_cons, List.not_mem_nil, or_false] at hx
  rcases hx with rfl | rfl
  · exact nice_i h1
  · exact nice_i h2
theorem Pl.nice (P : Pl gs ps) (t : Bool) : Nice 3 27000 (shQ t gs ps) := by
  have lg := P.lg
  have lp := P.lp
  have a : Nice 2 13004 (mkQ t (gs.map .int)) := (nice_ints (t := t) fun x hx => by have := P.asc.lo x hx; have := P.asc.hi x hx; omega).mono (by omega) (by omega)
  have b : Nice 2 13004 (mkQ t (ps.map (prQ t))) := (nice_mk (t := t) (k := 1) (m := 128) (xs := ps.map (prQ t)) fun x hx => by
    obtain ⟨p, hp, rfl⟩ := List.mem_map.mp hx
    have := P.rng p hp
    exact nice_pr (by omega) (by omega)).mono (by omega) (by rw [List.length_map]; omega)
  refine (nice_mk (t := t) (k := 2) (m := 13004) (xs := [mkQ t (gs.map .int), mkQ t (ps.map (prQ t))]) fun x hx => ?_).mono (by omega) (by simp)
  simp only [List.mem_cons, List.not_mem_nil, or_false] at hx
  rcases hx with rfl | rfl
  · exact a
  · exact b
theorem Good.small (P : Pl gs ps) (G : Good gs ps st) : ∀ g ∈ st, 1 ≤ g ∧ g ≤ 2000000000 := fun g hg => ⟨P.asc.lo g (G.sub g hg), P.asc.hi g (G.sub g hg)⟩
theorem Good.nice (P : Pl gs ps) (G : Good gs ps st) (t : Bool) : Nice 1 6300 (stD t st) := by
  have lp := P.lp
  have hl := G.len
  exact (nice_ints (t := t) fun x hx => by have := G.small P x hx; omega).mono (by omega) (by omega)
theorem nice_row {t w : Bool} {es : List Ex} (hl : es.length ≤ 200) (h : ∀ e ∈ es, SmE e) : Nice 2 40500 (mkQ t (es.map (exD w))) :=
  (nice_mk (t := t) (k := 1) (m := 200) (xs := es.map (exD w)) fun x hx => by
    obtain ⟨e, he, rfl⟩ := List.mem_map.mp hx
    exact nice_ex (h e he)).mono (by omega) (by rw [List.length_map]; omega)
theorem nth_small {i : Int} (P : Pl gs ps) (G : Good gs ps st) : (nth st i).natAbs ≤ 100000000000000000000 := by
  unfold nth
  by_cases h : i.toNat < st.length
  · have := G.small P _ (mem_at.mpr ⟨i.toNat, h, rfl⟩)
    omega
  · rw [List.getD_eq_getElem?_getD, List.getElem?_eq_none (by omega)]
    decide
end
/-! rows in data -/
def IsRow (xs : List D) : Prop := ∃ es : List Ex, xs = es.map (exD true) ∧ es.length ≤ 90 ∧ ∀ e ∈ es, SmE e
theorem cut_map {α : Type} {f : α → D} {xs : List α} {lo hi : Option Int} : ∃ ys : List α, cutD (xs.map f) lo hi = ys.map f ∧ ys.length ≤ xs.length ∧ ∀ y ∈ ys, y ∈ xs := by
  unfold cutD
  rw [← List.map_drop, ← List.map_take]
  exact ⟨_, rfl, Nat.le_trans (List.take_sublist _ _).length_le (List.drop_sublist _ _).length_le, fun y hy => List.mem_of_mem_drop (List.mem_of_mem_take hy)⟩
theorem cut_last {xs : List D} {x : D} : cutD (xs ++ [x]) none (some (-1)) = xs := by
  unfold cutD
  rw [HT.sIx_none, List.drop_zero, Nat.sub_zero]
  have : HT.sIx (xs ++ [x]).length (xs ++ [x]).length (some (-1)) = xs.length := by
    simp [HT.sIx]
    try omega
  rw [this, List.take_left']
  rfl
theorem fne_self {d : D} {Q : DV → Prop} {k m : Nat} (h : Nice k m d) (hk : k ≤ 60) (q : Q (.d (.bool false))) : fNe d d Q := fne_in (h.shaped hk) (h.shaped hk) (by rw [eqv_refl d h.ok]; exact q)
theorem fne_strS {x : Str} {Q : DV → Prop} (q : Q (.d (.bool false))) : fNe (.str x) (.str x) Q := fne_str (by rw [decide_eq_true rfl]; exact q)
end SF

/-! R174: hulls of settings. -/
namespace SF
open PySem PySem.Spec PyProof.Rows L2
theorem sqn {t u : DTS} {E : DEn} {ds : DS} (h : t { E with nx := u E } ds) : dSeq t u E ds := h
theorem mkSeq {t : Bool} {xs : List D} : seqD (mkQ t xs) = some xs := by cases t <;> rfl
theorem fm_all {α : Type} (f : α → D) : ∀ xs : List α, (xs.filterMap fun a => some (f a)) = xs.map f
  | [] => rfl
  | x :: xs => by simp only [List.filterMap_cons, List.map_cons, fm_all f xs]
theorem nthNat {xs : List Int} {i : Nat} : nth xs ((i : Nat) : Int) = xs.getD i 0 := by unfold nth; rw [Int.toNat_natCast]
theorem zipII : ∀ (xs ys : List Int), zipD (xs.map .int) (ys.map .int) = (xs.zip ys).map fun q => PyData.tuple [.int q.1, .int q.2]
  | [], _ => by simp [zipD]
  | _ :: _, [] => by simp [zipD]
  | x :: xs, y :: ys => by
    show PyData.tuple [.int x, .int y] :: zipD (xs.map .int) (ys.map .int) = _
    rw [zipII xs ys]
    rfl
def colZ (S : List (List Int)) (i : Nat) : List Int := S.map fun s => s.getD i 0
def minZ : List Int → Int
  | [] => 0
  | n :: ns => ns.foldl min n
def maxZ : List Int → Int
  | [] => 0
  | n :: ns => ns.foldl max n
def hullsZ (S : List (List Int)) (L : Nat) : List (Int × Int) := (List.range L).map fun i => (minZ (colZ S i), maxZ (colZ S i))
theorem hulls_len {S : List (List Int)} {L : Nat} : (hullsZ S L).length = L := by unfold hullsZ; rw [List.length_map, List.length_range]
def stsD (w u : Bool) (S : List (List Int)) : D := mkQ w (S.map (stD u))
def sp_hulls : DSp := fun args n Q _ => ∃ w u S L, args = [.d (stsD w u S)] ∧ 0 < S.length ∧ S.length ≤ 24 ∧ (∀ s ∈ S, s.length = L) ∧ L ≤ 1000 ∧ Q (.d (.tuple ((hullsZ S L).map (prQ true)))) n
theorem rows_sts {u : Bool} : ∀ S : List (List Int), rowsD (S.map (stD u)) = some (S.map fun s => s.map .int)
  | [] => rfl
  | s :: S => by
    show (match seqD (stD u s), rowsD (S.map (stD u)) with
      | some x, some r => some (x :: r)
      | _, _ => none) = _
    rw [rows_sts S, show seqD (stD u s) = some (s.map .int) from mkSeq]
    rfl
theorem getD_ints {s : List Int} {i : Nat} (h : i < s.length) : (s.map PyData.int).getD i .none = .int (s.getD i 0) := by
  rw [List.getD_eq_getElem?_getD, List.getD_eq_getElem?_getD, List.getElem?_map, List.getElem?_eq_getElem h]
  rfl
theorem cols_sts {S : List (List Int)} {L : Nat} (h : ∀ s ∈ S, s.length = L) : colsD L (S.map fun s => s.map .int) = (List.range L).map fun i => PyData.tuple ((colZ S i).map .int) := by
  unfold colsD colZ
  refine List.map_congr_left fun i hi => ?_
  rw [List.map_map, List.map_map]
  refine congrArg _ (List.map_congr_left fun s hs => ?_)
  exact getD_ints (by rw [h s hs]; exact List.mem_range.mp hi)
theorem r_hulls : ∀ args n Qa Ea, sp_hulls args n Qa Ea → t_hulls (fin Qa) (startD 2 args n) := by
  rintro args n Qa Ea ⟨w, u, S, L, rfl, h0, h1, hL, hL1, hq⟩
  refine lc_map (fun i => PyData.tuple ((colZ S i).map .int)) (List.range L) (fun i => some (prQ true (minZ (colZ S i), maxZ (colZ S i)))) (ds1 := ⟨[some (.d (stsD w u S)), none], n⟩) (fun K hK => ?_) rfl (fun i hi acc P hP => ?_) ?_
  · show (match seqD (stsD w u S) with
      | some xs => match rowsD xs with
        | some (r :: rs) => (rs.length < 24 ∧ r.length ≤ 16777216 ∧ ∀ q ∈ rs, q.length = r.length) ∧ K (colsD r.length (r :: rs)) ⟨[some (.d (stsD w u S)), none], n⟩
        | _ => False
      | none => False)
    rw [show seqD (stsD w u S) = some (S.map (stD u)) from mkSeq]
    show (match rowsD (S.map (stD u)) with
        | some (r :: rs) => (rs.length < 24 ∧ r.length ≤ 16777216 ∧ ∀ q ∈ rs, q.length = r.length) ∧ K (colsD r.length (r :: rs)) ⟨[some (.d (stsD w u S)), none], n⟩
        | _ => False)
    rw [rows_sts]
    match S, h0 with
    | s :: S', _ =>
      have e : (s.map PyData.int).length = L := by rw [List.length_map]; exact hL s (by simp)
      refine ⟨⟨?_, ?_, fun q hq => ?_⟩, ?_⟩
      · rw [List.length_map]; simp only [List.length_cons] at h1; omega
      · show (s.map PyData.int).length ≤ 16777216; omega
      · obtain ⟨x, hx, rfl⟩ := List.mem_map.mp hq
        rw [List.length_map, List.length_map, hL s (by simp), hL x (List.mem_cons_of_mem _ hx)]
      · have := cols_sts hL
        rw [e]
        exact this ▸ hK
  · match S, h0, hP with
    | s :: S', _, hP =>
      exact gMinT_i (n := s.getD i 0) (ns := colZ S' i) (gMaxT_i (n := s.getD i 0) (ns := colZ S' i) hP)
  · rw [fm_all]
    have e : ((List.range L).map fun i => prQ true (minZ (colZ S i), maxZ (colZ S i))) = (hullsZ S L).map (prQ true) := by
      unfold hullsZ
      rw [List.map_map]
      rfl
    rw [e]
    exact hq
end SF

/-! R175: right of k21. -/
namespace SF
open PySem PySem.Spec PyProof.Rows L2
theorem foldl_min_le : ∀ (ns : List Int) (n : Int), ns.foldl min n ≤ n ∧ ∀ x ∈ ns, ns.foldl min n ≤ x
  | [], n => ⟨Int.le_refl _, by simp⟩
  | x :: ns, n => by
    obtain ⟨h1, h2⟩ := foldl_min_le ns (min n x)
    refine ⟨?_, fun y hy => ?_⟩
    · show ns.foldl min (min n x) ≤ n; omega
    · show ns.foldl min (min n x) ≤ y
      rcases List.mem_cons.mp hy with e | hy
      · subst e; omega
      · exact h2 y hy
theorem foldl_max_le : ∀ (ns : List Int) (n : Int), n ≤ ns.foldl max n ∧ ∀ x ∈ ns, x ≤ ns.foldl max n
  | [], n => ⟨Int.le_refl _, by simp⟩
  | x :: ns, n => by
    obtain ⟨h1, h2⟩ := foldl_max_le ns (max n x)
    refine ⟨?_, fun y hy => ?_⟩
    · show n ≤ ns.foldl max (max n x); omega
    · show y ≤ ns.foldl max (max n x)
      rcases List.mem_cons.mp hy with e | hy
      · subst e; omega
      · exact h2 y hy
theorem foldl_min_mem : ∀ (ns : List Int) (n : Int), ns.foldl min n = n ∨ ns.foldl min n ∈ ns
  | [], n => .inl rfl
  | x :: ns, n => by
    rcases foldl_min_mem ns (min n x) with h | h
    · have : (x :: ns).foldl min n = min n x := h
      rw [this]
      by_cases q : n ≤ x
      · left; omega
      · right; rw [show min n x = x by omega]; simp
    · exact .inr (List.mem_cons_of_mem _ h)
theorem foldl_max_mem : ∀ (ns : List Int) (n : Int), ns.foldl max n = n ∨ ns.foldl max n ∈ ns
  | [], n => .inl rfl
  | x :: ns, n => by
    rcases foldl_max_mem ns (max n x) with h | h
    · have : (x :: ns).foldl max n = max n x := h
      rw [this]
      by_cases q : x ≤ n
      · left; omega
      · right; rw [show max n x = x by omega]; simp
    · exact .inr (List.mem_cons_of_mem _ h)
theorem minZ_le {ns : List Int} {x : Int} (h : x ∈ ns) : minZ ns ≤ x := by
  match ns, h with
  | n :: ns, h =>
    rcases List.mem_cons.mp h with e | h
    · subst e; exact (foldl_min_le ns x).1
    · exact (foldl_min_le ns n).2 x h
theorem maxZ_le {ns : List Int} {x : Int} (h : x ∈ ns) : x ≤ maxZ ns := by
  match ns, h with
  | n :: ns, h =>
    rcases List.mem_cons.mp h with e | h
    · subst e; exact (foldl_max_le ns x).1
    · exact (foldl_max_le ns n).2 x h
theorem minZ_mem {ns : List Int} (h : ns ≠ []) : minZ ns ∈ ns := by
  match ns, h with
  | n :: ns, _ =>
    rcases foldl_min_mem ns n with e | e
    · show ns.foldl min n ∈ _; rw [e]; simp
    · exact List.mem_cons_of_mem _ e
theorem maxZ_mem {ns : List Int} (h : ns ≠ []) : maxZ ns ∈ ns := by
  match ns, h with
  | n :: ns, _ =>
    rcases foldl_max_mem ns n with e | e
    · show ns.foldl max n ∈ _; rw [e]; simp
    · exact List.mem_cons_of_mem _ e
theorem minZ_mono {xs ys : List Int} (hy : ys ≠ []) (h : ∀ y ∈ ys, y ∈ xs) : minZ xs ≤ minZ ys := minZ_le (h _ (minZ_mem hy))
theorem maxZ_mono {xs ys : List Int} (hy : ys ≠ []) (h : ∀ y ∈ ys, y ∈ xs) : maxZ ys ≤ maxZ xs := maxZ_le (h _ (maxZ_mem hy))
/-- the ends of a sorted list -/
theorem asc_ends {xs ys : List Int} (hp : ys.Perm xs) (hs : ys.Pairwise (· ≤ ·)) (h : xs ≠ []) : ∃ a b : Int, ys.head? = some a ∧ ys.getLast? = some b ∧ a = minZ xs ∧ b = maxZ xs := by
  match ys, hp, hs with
  | [], hp, _ => exact absurd hp.nil_eq.symm h
  | y :: ys, hp, hs =>
    obtain ⟨h1, h2⟩ := List.pairwise_cons.mp hs
    refine ⟨y, (y :: ys).getLast (by simp), rfl, List.getLast?_eq_getLast _ , ?_, ?_⟩
    · refine Int.le_antisymm ?_ (minZ_le (hp.mem_iff.mp (by simp)))
      rcases List.mem_cons.mp (hp.mem_iff.mpr (minZ_mem h)) with e | e
      · omega
      · exact h1 _ e
    · refine Int.le_antisymm (maxZ_le (hp.mem_iff.mp (List.getLast_mem _))) ?_
      have hm := hp.mem_iff.mpr (maxZ_mem h)
      obtain ⟨i, hi, e⟩ := List.getElem_of_mem hm
      rw [← e, List.getLast_eq_getElem]
      by_cases q : i = (y :: ys).length - 1
      · subst q; exact Int.le_refl _
      · exact List.pairwise_iff_getElem.mp hs i _ hi (by simp) (by omega)
section
variable {gs : List Int} {ps : List (Int × Int)} {st : List Int} {S : List (List Int)} {n : Nat} {E : DEn} {a3 a4 a5 a6 a7 a8 a9 a10 a11 a12 a13 a14 : Option DV}
abbrev s21 (gs : List Int) (ps : List (Int × Int)) (st : List Int) (a3 a4 a5 a6 a7 a8 a9 a10 : Option DV) : List (Option DV) :=
  [some .box, some (.d (shQ true gs ps)), some (.d (stD true st)), a3, a4, a5, a6, a7, a8, a9, a10, none, none, none, none]
abbrev oS (S : List (List Int)) : Option DV := some (.own (S.map (stD true)))
abbrev dS (S : List (List Int)) : Option DV := some (.d (.list (S.map (stD true))))
abbrev rS (S : List (List Int)) : Option DV := some (.d (.str (PyData.list (S.map (stD true))).shown))
abbrev hO (xs : List (Int × Int)) : Option DV := some (.own (xs.map (prQ true)))
structure B21 (gs : List Int) (ps : List (Int × Int)) (st : List Int) (S : List (List Int)) : Prop where
  P : Pl gs ps
  G : Good gs ps st
  l8 : st.length ≤ 8
  s0 : 0 < S.length
  s1 : S.length ≤ 20
  hd : S.head? = some st
  all : ∀ s ∈ S, Good gs ps s
theorem u0 (hn : 200000 ≤ n) (hE : ∀ gs ps st n', Pl gs ps → Good gs ps st → 0 < st.length → st.length ≤ 8 → n ≤ n' + 100000 → E.nx ⟨s21 gs ps st none none none none none none none none, n'⟩) :
    t_right_0 sp_plant E ⟨[some .box, none, none, none, none, none, none, none, none, none, none, none, none, none, none], n⟩ := by
  refine ⟨8, 12, rfl, by decide, by decide, by decide, by show 100000 ≤ n; omega, fun gs ps st n1 sh h6 h9 hn1 => ?_⟩
  have hn1' : n ≤ n1 + 100000 := hn1
  have P : Pl gs ps := ⟨sh.asc, sh.len, by have := sh.eqv; omega, sh.rng⟩
  exact hE gs ps st n1 P sh.good sh.one (by omega) hn1'
theorem u1 (h : E.nx ⟨s21 gs ps st (oS [st]) none none none none none none none, n⟩) : t_right_1 E ⟨s21 gs ps st none none none none none none none none, n⟩ := h
abbrev tb2 : DTS := (dDrop (dMut 3 gAppend (dCons (dOp2 gIx (dCall sp_wandered (fun as => as) (dCons (dVar 0) (dCons (dVar 1) (dCons (dOp2 gIx (dVar 3) (dOp1 fNeg (dC (.int 1)))) (dCons (dOp2 fAdd (dC (.int 1)) (dCall sp_take (fun as => as) (dCons (dVar 0) (dCons (dC (.int 3)) dNil)))) dNil))))) (dC (.int 1))) dNil)))
theorem tb2_in {S' : List (List Int)} {s : List Int} (e : S = S' ++ [s]) (hl : S.length ≤ 30) (P : Pl gs ps) (L : Good gs ps s) (hn : 100 ≤ n) (h : ∀ t n', Good gs ps t → n ≤ n' + 50 → E.nx ⟨s21 gs ps st (oS (S ++ [t])) a4 a5 a6 a7 a8 a9 a10, n'⟩) :
    tb2 E ⟨s21 gs ps st (oS S) a4 a5 a6 a7 a8 a9 a10, n⟩ := by
  subst e
  have lk : gIx (.list ((S' ++ [s]).map (stD true))) (.int (-1)) = gIx (.list (S'.map (stD true) ++ [stD true s])) (.int (-1)) := by rw [List.map_append]; rfl
  show gIx (.list ((S' ++ [s]).map (stD true))) (.int (-1)) _
  rw [lk]
  refine ix_last ?_
  refine ⟨3, rfl, by decide, by decide, by show 3 ≤ n; omega, fun r r0 r1 => ?_⟩
  refine ⟨true, gs, ps, s, 1 + r, rfl, P, L, by omega, by omega, by show 3 * (1 + r).toNat ≤ n - 3; omega, fun es t n2 hp hl2 hn2 => ?_⟩
  have hn2' : n - 3 ≤ n2 + 3 * (1 + r).toNat := hn2
  refine ixl1 (t := true) ?_
  refine ⟨by rw [List.length_map]; omega, ?_⟩
  have := h t n2 (hp.good L) (by omega)
  rw [show oS (S' ++ [s] ++ [t]) = some (.own ((S' ++ [s]).map (stD true) ++ [stD true t])) by show some (DV.own _) = _; rw [List.map_append]; rfl] at this
  exact this
theorem tb2s (P : Pl gs ps) (h : ∀ S a4 n', 0 < S.length → S.length ≤ 20 → S.head? = some st → (∀ s ∈ S, Good gs ps s) → n ≤ n' + 2000 → E.nx ⟨s21 gs ps st (oS S) a4 a5 a6 a7 a8 a9 a10, n'⟩) :
    ∀ (is : List D) (S : List (List Int)) (a4 : Option DV) (m : Nat), 0 < S.length → S.length + is.length ≤ 20 → S.head? = some st → (∀ s ∈ S, Good gs ps s) → 50 * is.length + 100 ≤ m → n + 50 * is.length ≤ m + 2000 →
    forR (gdName 4) tb2 E is ⟨s21 gs ps st (oS S) a4 a5 a6 a7 a8 a9 a10, m⟩
  | [], S, a4, m, s0, s1, hd, ha, q2, q3 => h S a4 m s0 (by simpa using s1) hd ha (by simp only [List.length_nil] at q3; omega)
  | i :: is, S, a4, m, s0, s1, hd, ha, q2, q3 => by
    simp only [List.length_cons] at s1 q2 q3
    obtain ⟨S', s, e⟩ : ∃ S' s, S = S' ++ [s] := ⟨S.dropLast, S.getLast (by intro z; subst z; simp at s0), (List.dropLast_concat_getLast _).symm⟩
    refine tb2_in (E := { E with nx := forR (gdName 4) tb2 E is, ct := forR (gdName 4) tb2 E is, bk := E.nx }) e (by omega) P (ha s (by subst e; simp)) (by show 100 ≤ m; omega) fun t n' ht hn' => ?_
    have hn2 : m ≤ n' + 50 := hn'
    refine tb2s P h is (S ++ [t]) _ n' (by simp) (by rw [List.length_append, List.length_singleton]; omega) ?_ (fun x hx => ?_) (by omega) (by omega)
    · match S, hd with
      | x :: S, hd => exact hd
    · rcases List.mem_append.mp hx with z | z
      · exact ha x z
      · rw [List.mem_singleton.mp z]; exact ht
theorem u2 (P : Pl gs ps) (G : Good gs ps st) (hn : 10000 ≤ n) (h : ∀ S a4 n', 0 < S.length → S.length ≤ 20 → S.head? = some st → (∀ s ∈ S, Good gs ps s) → n ≤ n' + 2003 → E.nx ⟨s21 gs ps st (oS S) a4 none none none none none none, n'⟩) :
    (t_right_2 sp_take sp_wandered) E ⟨s21 gs ps st (oS [st]) none none none none none none none, n⟩ := by
  refine ⟨20, rfl, by decide, by decide, by show 3 ≤ n; omega, fun r r0 r1 => ?_⟩
  refine ⟨by omega, by omega, ?_⟩
  have hl : (rangeD 0 r.toNat).length = r.toNat := rangeD_len
  exact for_run (its := rangeD 0 r.toNat) (tb2s (n := n - 3) P (fun S a4 n' s0 s1 hd ha q => h S a4 n' s0 s1 hd ha (by omega)) _ [st] none (n - 3) (by simp) (by rw [hl]; simp; omega) rfl (by simpa using G) (by rw [hl]; omega) (by rw [hl]; omega))
theorem nice_S (B : B21 gs ps st S) : Nice 2 200000 (.list (S.map (stD true))) := (nice_list (k := 1) (m := 6300) (Nat.le_refl _) fun x hx => by
  obtain ⟨s, hs, rfl⟩ := List.mem_map.mp hx
  exact (B.all s hs).nice B.P true).mono (by omega) (by rw [List.length_map]; have := B.s1; omega)
theorem u3 (B : B21 gs ps st S) (h : E.nx ⟨s21 gs ps st (oS S) a4 (rS S) (hO []) none none none none, n⟩) : t_right_3 E ⟨s21 gs ps st (oS S) a4 none none none none none none, n⟩ :=
  ⟨(nice_S B).shows (by omega) (by omega), h⟩
abbrev q4a : DTS := (dSet 8 (dCB fSorted (dCons (dLc (dSq (dVar 3)) (gdName 11) dYes (dOp2 gIx (dVar 11) (dVar 7)) [11]) dNil)))
abbrev q4b : DTS := (dDrop (dMut 6 gAppend (dCons (dTup (dCons (dOp2 gIx (dVar 8) (dC (.int 0))) (dCons (dOp2 gIx (dVar 8) (dOp1 fNeg (dC (.int 1)))) dNil))) dNil)))
theorem col_ne (B : B21 gs ps st S) (i : Nat) : colZ S i ≠ [] := by
  have b := B.s0
  intro z
  have z2 : (S.map fun s => s.getD i 0).length = 0 := congrArg List.length z
  rw [List.length_map] at z2
  omega
theorem q4a_in {i : Nat} {s3 : Option DV} (B : B21 gs ps st S) (hs : s3 = oS S ∨ s3 = dS S) (hi : i < st.length) (h : ∀ (xs : List Int), xs.Perm (colZ S i) → xs.Pairwise (· ≤ ·) → E.nx ⟨s21 gs ps st (dS S) a4 a5 a6 (some (.d (.int ((i : Nat) : Int)))) (some (.own (xs.map .int))) a9 a10, n⟩) :
    q4a E ⟨s21 gs ps st s3 a4 a5 a6 (some (.d (.int ((i : Nat) : Int)))) a8 a9 a10, n⟩ := by
  refine lc_map (stD true) S (fun s => some (.int (s.getD i 0))) (ds1 := ⟨s21 gs ps st (dS S) a4 a5 a6 (some (.d (.int ((i : Nat) : Int)))) a8 a9 a10, n⟩) (fun K hK => by rcases hs with rfl | rfl <;> exact hK) rfl (fun s hs acc P hP => ?_) ?_
  · have hl : s.length = st.length := by rw [(B.all s hs).len, B.G.len]
    refine ix_ints (t := true) (by omega) (by omega) ?_
    rw [nthNat]
    exact hP
  · rw [fm_all]
    have e : (S.map fun s => PyData.int (s.getD i 0)) = (colZ S i).map .int := by unfold colZ; rw [List.map_map]; rfl
    rw [e]
    show someD (intsD ((colZ S i).map .int)) _
    rw [intsD_map]
    exact h
theorem q4b_in {i : Nat} {xs : List Int} {ys : List (Int × Int)} (B : B21 gs ps st S) (hp : xs.Perm (colZ S i)) (hs : xs.Pairwise (· ≤ ·)) (ly : ys.length ≤ 100) (h : E.nx ⟨s21 gs ps st a3 a4 a5 (hO (ys ++ [(minZ (colZ S i), maxZ (colZ S i))])) a7 (some (.own (xs.map .int))) a9 a10, n⟩) :
    q4b E ⟨s21 gs ps st a3 a4 a5 (hO ys) a7 (some (.own (xs.map .int))) a9 a10, n⟩ := by
  obtain ⟨a, b, h1, h2, h3, h4⟩ := asc_ends hp hs (col_ne B i)
  subst h3 h4
  have l0 : 0 < xs.length := by
    match xs, h1 with
    | x :: xs, _ => simp
  refine ix_ints (t := false) (by omega) (by omega) ?_
  have e0 : nth xs 0 = minZ (colZ S i) := by
    match xs, h1 with
    | x :: xs, h1 => simpa [nth] using h1
  rw [e0]
  obtain ⟨ys', e⟩ : ∃ ys', xs = ys' ++ [maxZ (colZ S i)] := List.getLast?_eq_some_iff.mp h2
  have e1 : xs.map PyData.int = ys'.map .int ++ [.int (maxZ (colZ S i))] := by rw [e, List.map_append]; rfl
  show gIx (.list (xs.map .int)) (.int (-1)) _
  rw [show gIx (.list (xs.map .int)) (.int (-1)) = gIx (.list (ys'.map .int ++ [.int (maxZ (colZ S i))])) (.int (-1)) by rw [e1]]
  refine ix_last ?_
  refine ⟨by rw [List.length_map]; omega, ?_⟩
  rw [show hO (ys ++ [(minZ (colZ S i), maxZ (colZ S i))]) = some (.own (ys.map (prQ true) ++ [prQ true (minZ (colZ S i), maxZ (colZ S i))])) by show some (DV.own _) = _; rw [List.map_append]; rfl] at h
  exact h
abbrev q4 : DTS := dSeq q4a q4b
theorem q4s (B : B21 gs ps st S) (h : ∀ a7 a8, E.nx ⟨s21 gs ps st (dS S) a4 a5 (hO (hullsZ S st.length)) a7 a8 a9 a10, n⟩) :
    ∀ (k j : Nat) (s3 a7 a8 : Option DV), j + k = st.length → (s3 = oS S ∨ s3 = dS S) → (k = 0 → s3 = dS S) →
    forR (gdName 7) q4 E ((List.range' j k).map fun i => .int ((i : Nat) : Int)) ⟨s21 gs ps st s3 a4 a5 (hO (hullsZ S j)) a7 a8 a9 a10, n⟩
  | 0, j, s3, a7, a8, e, _, hz => by
    rw [hz rfl]
    rw [show j = st.length by omega]
    exact h a7 a8
  | k + 1, j, s3, a7, a8, e, hs, _ => by
    rw [List.range'_succ]
    refine sqn (t := q4a) (u := q4b) (q4a_in B hs (by omega) fun xs hp hx => q4b_in B hp hx (by rw [hulls_len]; have := B.l8; omega) ?_)
    have e1 : hullsZ S j ++ [(minZ (colZ S j), maxZ (colZ S j))] = hullsZ S (j + 1) := by unfold hullsZ; rw [List.range_succ, List.map_append]; rfl
    rw [e1]
    exact q4s B h k (j + 1) _ _ _ (by omega) (.inr rfl) fun _ => rfl
theorem u4 (B : B21 gs ps st S) (h : ∀ a7 a8, E.nx ⟨s21 gs ps st (dS S) a4 a5 (hO (hullsZ S st.length)) a7 a8 a9 a10, n⟩) (l0 : 0 < st.length) :
    t_right_4 E ⟨s21 gs ps st (oS S) a4 a5 (hO []) none none a9 a10, n⟩ := by
  refine lenQ (t := true) ?_
  rw [List.length_map]
  have l8 := B.l8
  refine ⟨by omega, by omega, ?_⟩
  have e : rangeD 0 (((st.length : Nat) : Int)).toNat = (List.range' 0 st.length).map fun i => .int ((i : Nat) : Int) := by
    rw [Int.toNat_natCast, ← List.range_eq_range']
    unfold rangeD
    refine List.map_congr_left fun i _ => ?_
    rw [Int.zero_add]
  rw [e]
  exact for_run (its := (List.range' 0 st.length).map fun i => .int ((i : Nat) : Int)) (q4s B h st.length 0 (oS S) none none (by omega) (.inl rfl) fun z => by omega)
theorem lists_sts : ∀ S : List (List Int), listsL (S.map (stD true)) = S.map (stD false)
  | [] => by simp [listsL]
  | s :: S => by
    simp only [List.map_cons, listsL, lists_sts S]
    simp [stD, mkQ, listsD, listsL_ints]
abbrev hT (gs : List (Int × Int)) : D := .tuple (gs.map (prQ true))
theorem lenS (B : B21 gs ps st S) : ∀ s ∈ S, s.length = st.length := fun s hs => by rw [(B.all s hs).len, B.G.len]
theorem u5 (B : B21 gs ps st S) (h : E.nx ⟨s21 gs ps st (dS S) a4 a5 a6 a7 a8 (some (.own [hT (hullsZ S st.length), hT (hullsZ S st.length)])) a10, n⟩) :
    t_right_5 sp_hulls (sp_lists 8) E ⟨s21 gs ps st (dS S) a4 a5 a6 a7 a8 a9 a10, n⟩ := by
  have l8 := B.l8
  have s1 := B.s1
  refine ⟨false, true, S, st.length, rfl, B.s0, by omega, lenS B, by omega, ?_⟩
  have nn := nice_S B
  refine ⟨_, rfl, nn.mono (by omega) (by omega), by have := nn.dp; exact Nat.lt_of_le_of_lt this (by omega), ?_⟩
  rw [show rvL (.list (S.map (stD true))) = .own (S.map (stD false)) by show DV.own (listsL _) = _; rw [lists_sts]]
  exact ⟨true, false, S, st.length, rfl, B.s0, by omega, lenS B, by omega, h⟩
theorem col_mem (B : B21 gs ps st S) {i : Nat} (hi : i < st.length) : ∀ x ∈ colZ S i, 1 ≤ x ∧ x ≤ 2000000000 := fun x hx => by
  obtain ⟨s, hs, rfl⟩ := List.mem_map.mp hx
  have g := B.all s hs
  have hl := lenS B s hs
  exact g.small B.P _ (mem_at.mpr ⟨i, by omega, rfl⟩)
theorem nice_H (B : B21 gs ps st S) : Nice 2 2000 (hT (hullsZ S st.length)) := (nice_tuple (k := 1) (m := 128) (Nat.le_refl _) fun x hx => by
  obtain ⟨p, hp, rfl⟩ := List.mem_map.mp hx
  obtain ⟨i, hi, rfl⟩ := List.mem_map.mp hp
  have hi' := List.mem_range.mp hi
  have h1 := col_mem B hi' _ (minZ_mem (col_ne B i))
  have h2 := col_mem B hi' _ (maxZ_mem (col_ne B i))
  exact nice_pr (t := true) (by dsimp only; omega) (by dsimp only; omega)).mono (by omega) (by rw [List.length_map, hulls_len]; have := B.l8; omega)
theorem u6 (B : B21 gs ps st S) (h : ∀ a9, E.nx ⟨s21 gs ps st (dS S) a4 (rS S) a6 a7 a8 a9 a10, n⟩) (h6 : a6 = hO (hullsZ S st.length)) :
    t_right_6 (sp_same 8) E ⟨s21 gs ps st (dS S) a4 (rS S) a6 a7 a8 (some (.own [hT (hullsZ S st.length), hT (hullsZ S st.length)])) a10, n⟩ := by
  subst h6
  have nh := nice_H B
  have n2 : Nice 3 5000 (.list [hT (hullsZ S st.length), hT (hullsZ S st.length)]) := (nice_list (k := 2) (m := 2000) (Nat.le_refl _) fun x hx => by
    simp only [List.mem_cons, List.not_mem_nil, or_false] at hx
    rcases hx with rfl | rfl <;> exact nh).mono (by omega) (by simp)
  refine ⟨⟨by show 1 * 2 ≤ 16777216; omega, by decide, by decide⟩, ?_⟩
  refine ⟨_, rfl, n2.mono (by omega) (by omega), by have := n2.dp; exact Nat.lt_of_le_of_lt this (by omega), ?_⟩
  refine ⟨(nice_S B).shows (by omega) (by omega), fne_strS ?_⟩
  exact h _
theorem hull_sub {S' : List (List Int)} {L : Nat} (h0 : S' ≠ []) (h : ∀ s ∈ S', s ∈ S) : ∀ q ∈ (hullsZ S L).zip (hullsZ S' L), q.1.1 ≤ q.2.1 ∧ q.2.2 ≤ q.1.2 := fun q hq => by
  unfold hullsZ at hq
  rw [List.zip_map'] at hq
  obtain ⟨i, hi, rfl⟩ := List.mem_map.mp hq
  have hc : ∀ y ∈ colZ S' i, y ∈ colZ S i := fun y hy => by
    obtain ⟨s, hs, rfl⟩ := List.mem_map.mp hy
    exact List.mem_map.mpr ⟨s, h s hs, rfl⟩
  have hn : colZ S' i ≠ [] := by unfold colZ; simpa using h0
  exact ⟨minZ_mono hn hc, maxZ_mono hn hc⟩
theorem zipPP : ∀ (xs ys : List (Int × Int)), zipD (xs.map (prQ true)) (ys.map (prQ true)) = (xs.zip ys).map fun q => PyData.tuple [prQ true q.1, prQ true q.2]
  | [], _ => by simp [zipD]
  | _ :: _, [] => by simp [zipD]
  | x :: xs, y :: ys => by
    show PyData.tuple [prQ true x, prQ true y] :: zipD (xs.map (prQ true)) (ys.map (prQ true)) = _
    rw [zipPP xs ys]
    rfl
theorem bools_trueF {α : Type} : ∀ xs : List α, boolsD (xs.filterMap fun _ => some (PyData.bool true)) = some (xs.map fun _ => true)
  | [] => rfl
  | x :: xs => by simp only [List.filterMap_cons, boolsD, bools_trueF xs, Option.map_some, List.map_cons]
theorem all_trueF {α : Type} : ∀ xs : List α, (xs.map fun _ => true).all id = true
  | [] => rfl
  | x :: xs => by simp only [List.map_cons, List.all_cons, all_trueF xs]; rfl
abbrev fw (S : List (List Int)) : List (List Int) := S.dropLast ++ S.take 1
theorem fw_sub : ∀ s ∈ fw S, s ∈ S := fun s hs => (List.mem_append.mp hs).elim (fun h => (List.dropLast_sublist S).subset h) fun h => List.mem_of_mem_take h
theorem u7 (B : B21 gs ps st S) (h : E.nx ⟨s21 gs ps st (dS S) a4 a5 a6 a7 a8 a9 (some (.d (hT (hullsZ (fw S) st.length)))), n⟩) :
    t_right_7 sp_hulls E ⟨s21 gs ps st (dS S) a4 a5 a6 a7 a8 a9 a10, n⟩ := by
  have l8 := B.l8
  have s1 := B.s1
  have s0 := B.s0
  have e1 : cutD (S.map (stD true)) none (some (-1)) = S.dropLast.map (stD true) := by
    obtain ⟨S', s, e⟩ : ∃ S' s, S = S' ++ [s] := ⟨S.dropLast, S.getLast (by intro z; subst z; simp at s0), (List.dropLast_concat_getLast _).symm⟩
    subst e
    rw [List.map_append, List.dropLast_concat]
    exact cut_last
  have e2 : cutD (S.map (stD true)) none (some 1) = (S.take 1).map (stD true) := by
    rw [cut_head (by decide) (by rw [List.length_map]; omega), List.map_take]
    rfl
  have key : sp_hulls [.d (stsD false true (fw S))] n (fun r n' => E.nx ⟨s21 gs ps st (dS S) a4 a5 a6 a7 a8 a9 (some r), n⟩) (fun _ _ _ => False) :=
    ⟨false, true, fw S, st.length, rfl, by rw [List.length_append, List.length_take]; omega, by rw [List.length_append, List.length_take, List.length_dropLast]; omega, fun s hs => lenS B s (fw_sub s hs), by omega, h⟩
  have e3 : stsD false true (fw S) = .list (cutD (S.map (stD true)) none (some (-1)) ++ cutD (S.map (stD true)) none (some 1)) := by
    rw [e1, e2]
    show PyData.list _ = _
    rw [List.map_append]
  rw [e3] at key
  refine ⟨by rw [e1, e2, List.length_map, List.length_map, List.length_dropLast, List.length_take]; omega, ?_⟩
  obtain ⟨w, u, S2, L, q1, q2⟩ := key
  exact ⟨w, u, S2, L, q1, q2⟩
theorem u8 (B : B21 gs ps st S) (h : E.nx ⟨s21 gs ps st (dS S) a4 a5 (some (.d (.list ((hullsZ S st.length).map (prQ true))))) a7 a8 a9 a10, n⟩) (ha : a10 = some (.d (hT (hullsZ (fw S) st.length)))) :
    t_right_8 E ⟨s21 gs ps st (dS S) a4 a5 (hO (hullsZ S st.length)) a7 a8 a9 a10, n⟩ := by
  subst ha
  have l8 := B.l8
  have s0 := B.s0
  have ne : fw S ≠ [] := by
    intro z
    have z2 : (S.dropLast ++ S.take 1).length = 0 := congrArg List.length z
    rw [List.length_append, List.length_take] at z2
    omega
  refine lc_map (fun q : (Int × Int) × (Int × Int) => PyData.tuple [prQ true q.1, prQ true q.2]) ((hullsZ S st.length).zip (hullsZ (fw S) st.length)) (fun q => some (.bool true)) (ds1 := ⟨s21 gs ps st (dS S) a4 a5 (some (.d (.list ((hullsZ S st.length).map (prQ true))))) a7 a8 a9 (some (.d (hT (hullsZ (fw S) st.length)))), n⟩) (fun K hK => ⟨by rw [List.length_map, hulls_len]; omega, by rw [zipPP]; exact hK⟩) rfl (fun q hq acc P hP => ?_) ?_
  · obtain ⟨h1, h2⟩ := hull_sub ne fw_sub q hq
    refine ixl0 (t := true) (ixl0 (t := true) ?_)
    show (match some (PyData.bool (decide (q.1.1 ≤ q.2.1))) with | some (.bool true) => _ | some (.bool false) => _ | _ => False)
    rw [decide_eq_true h1]
    refine ixl1 (t := true) (ixl1 (t := true) ?_)
    show P (acc ++ [.bool (decide (q.2.2 ≤ q.1.2))]) _
    rw [decide_eq_true h2]
    exact hP
  · refine someI (bools_trueF _) ?_
    rw [all_trueF]
    exact h
theorem one_hull {L : Nat} : hullsZ [st] L = (List.range L).map fun i => (st.getD i 0, st.getD i 0) := rfl
theorem u9 (P : Pl gs ps) (G : Good gs ps st) (l8 : st.length ≤ 8) (h : ∀ ds : DS, ds.n = n → E.rt (.d (.bool true)) ds) : t_right_9 sp_hulls E ⟨s21 gs ps st a3 a4 a5 a6 a7 a8 a9 a10, n⟩ := by
  refine ⟨false, true, [st], st.length, rfl, by simp, by simp, fun s hs => by rw [List.mem_singleton.mp hs], by omega, ?_⟩
  refine lc_map PyData.int st (fun g => some (prQ true (g, g))) (ds1 := ⟨s21 gs ps st a3 a4 a5 a6 a7 a8 a9 a10, n⟩) (fun K hK => hK) rfl (fun g hg acc P hP => hP) ?_
  rw [fm_all]
  have e : (st.map fun g => prQ true (g, g)) = (hullsZ [st] st.length).map (prQ true) := by
    rw [one_hull, List.map_map]
    refine List.ext_getElem (by simp) fun i h1 h2 => ?_
    rw [List.getElem_map, List.getElem_map, List.getElem_range]
    rw [List.length_map] at h1
    show prQ true (st[i], st[i]) = prQ true (st.getD i 0, st.getD i 0)
    rw [List.getD_eq_getElem?_getD, List.getElem?_eq_getElem h1]
    rfl
  have nn : Nice 2 2000 (hT (hullsZ [st] st.length)) := (nice_tuple (k := 1) (m := 128) (Nat.le_refl _) fun x hx => by
    obtain ⟨p, hp, rfl⟩ := List.mem_map.mp hx
    rw [one_hull] at hp
    obtain ⟨i, hi, rfl⟩ := List.mem_map.mp hp
    have hi' := List.mem_range.mp hi
    have := G.small P _ (mem_at.mpr ⟨i, hi', rfl⟩)
    exact nice_pr (t := true) (by dsimp only; omega) (by dsimp only; omega)).mono (by omega) (by rw [List.length_map, hulls_len]; omega)
  show fEq (hT (hullsZ [st] st.length)) (.tuple (st.map fun g => prQ true (g, g))) _
  rw [e]
  exact feq_self nn (by omega) (h _ rfl)
end
abbrev zw8 : DTS := dSeq t_right_8 (t_right_9 sp_hulls)
abbrev zw7 : DTS := dSeq (t_right_7 sp_hulls) zw8
abbrev zw6 : DTS := dSeq (t_right_6 (sp_same 8)) zw7
abbrev zw5 : DTS := dSeq (t_right_5 sp_hulls (sp_lists 8)) zw6
abbrev zw4 : DTS := dSeq t_right_4 zw5
abbrev zw3 : DTS := dSeq t_right_3 zw4
abbrev zw2 : DTS := dSeq (t_right_2 sp_take sp_wandered) zw3
abbrev zw1 : DTS := dSeq t_right_1 zw2
section
variable {gs : List Int} {ps : List (Int × Int)} {st : List Int} {S : List (List Int)} {n : Nat} {Qa : DV → Nat → Prop}
theorem tw7 {a4 a7 a8 a9 : Option DV} {a6 : Option DV} (B : B21 gs ps st S) (h6 : a6 = hO (hullsZ S st.length)) (hq : Qa (.d (.bool true)) n) : zw7 (fin Qa) ⟨s21 gs ps st (dS S) a4 (rS S) a6 a7 a8 a9 none, n⟩ := by
  subst h6
  exact sqn (t := t_right_7 sp_hulls) (u := zw8) (u7 B (sqn (t := t_right_8) (u := t_right_9 sp_hulls) (u8 B (u9 (E := fin Qa) B.P B.G B.l8 fun ds hd => by show Qa _ ds.n; rw [hd]; exact hq) rfl)))
theorem tw3 {a4 : Option DV} (B : B21 gs ps st S) (l0 : 0 < st.length) (hq : Qa (.d (.bool true)) n) : zw3 (fin Qa) ⟨s21 gs ps st (oS S) a4 none none none none none none, n⟩ :=
  sqn (t := t_right_3) (u := zw4) (u3 B (sqn (t := t_right_4) (u := zw5) (u4 B (fun a7 a8 => sqn (t := t_right_5 sp_hulls (sp_lists 8)) (u := zw6) (u5 B (sqn (t := t_right_6 (sp_same 8)) (u := zw7) (u6 B (fun a9 => tw7 B rfl hq) rfl)))) l0)))
end
theorem r_right : ∀ args n Qa Ea, sp_right args n Qa Ea → t_right sp_plant sp_take sp_wandered sp_hulls (sp_lists 8) (sp_same 8) (fin Qa) (startD 15 args n) := by
  rintro args n Qa Ea ⟨rfl, hn, hQ⟩
  exact sqn (t := t_right_0 sp_plant) (u := zw1) (u0 (n := n) (by omega) fun gs ps st n' P G l0 l8 hn' => sqn (t := t_right_1) (u := zw2) (u1 (sqn (t := t_right_2 sp_take sp_wandered) (u := zw3) (u2 P G (by omega) fun S a4 n2 s0 s1 hd ha hn2 => tw3 ⟨P, G, l8, s0, s1, hd, ha⟩ l0 (hQ n2 (by omega))))))
end SF

namespace SF
open PySem PySem.Spec PyProof.Rows L2
def top (i : Nat) : Stmt := PySem.Challenge.pw_spindlefit_k21_hulls.main.body.getD i (.Pass ⟨0, 0, 0, 0⟩)
section
variable {P : Program} {w : World} {K : Fg} {mg : Str → Option Value} {base : Heap} {k : Nat}
abbrev s_take : Stmt := top 4
def p_take : List Str := ["_law_box_here", "_law_span_here"]
abbrev s_pick : Stmt := top 5
def n_pick : List Str := ["_law_box_here", "_law_some"]
def p_pick : List Str := ["_law_box_here", "_law_some"]
theorem sc_pick : FnScope n_pick p_pick (defScope s_pick) := ⟨rfl, rfl, rfl, by decide +kernel, rfl, by decide +kernel, by decide +kernel⟩
theorem d_pick (B : Bi mg) {sp_take : DSp} (I_take : Pr P w K mg base k "_law_take" s_take p_take sp_take) {f : Addr} {cdv : Value} {A : Around} {outer : List Env} {s : Shared} {H : Hp} {E : XK} {F : Fx} (hr : RoomG k (A.deeper (envOfC "_law_pick" (defScope s_pick) s.heap.objs.size f cdv))) :
    DSs (cxOf (L2.CX P w) P w K mg base n_pick "_law_pick" (defScope s_pick) f cdv A outer s H E).nox F (defBody s_pick) (t_pick sp_take) :=
  have nd := sc_pick.nd
  (dss_one (ds_ret (de_ix (de_var (pv 1)) (de_callP I_take hr rfl (da_cons (de_var (pv 0)) (da_cons (de_bl' bd_len rfl B.b_len rfl (da_cons (de_var (pv 1)) da_nil)) da_nil))) (fun _ _ => rfl))))

abbrev s_same : Stmt := top 6
def n_same : List Str := ["_law_found", "_law_due", "_law_mine", "_law_its"]
def p_same : List Str := ["_law_found", "_law_due"]
theorem sc_same : FnScope n_same p_same (defScope s_same) := ⟨rfl, rfl, rfl, by decide +kernel, rfl, by decide +kernel, by decide +kernel⟩
theorem d_same (B : Bi mg) {sp_same : DSp} (I_same : Pr P w K mg base k "_law_same" s_same p_same sp_same) {f : Addr} {cdv : Value} {A : Around} {outer : List Env} {s : Shared} {H : Hp} {E : XK} {F : Fx} (hr : RoomG k (A.deeper (envOfC "_law_same" (defScope s_same) s.heap.objs.size f cdv))) :
    DSs (cxOf (L2.CX P w) P w K mg base n_same "_law_same" (defScope s_same) f cdv A outer s H E).nox F (defBody s_same) (t_same sp_same) :=
  have nd := sc_same.nd
  (dss_cons (ds_if (dt_tru (de_isi2 isT_list isT_tuple rfl B.b_isinstance rfl B.b_list rfl rfl B.b_tuple rfl (de_var (pv 1)))) (dss_cons (ds_if (PW.pt (dw_or (dt_cmp (cd_ne hr.rm.units) (de_isi isT_list rfl B.b_isinstance rfl B.b_list rfl (de_var (pv 0))) (de_isi isT_list rfl B.b_isinstance rfl B.b_list rfl (de_var (pv 1))) (nomark _)) (dw_or1 (dt_cmp (cd_ne hr.rm.units) (de_isi isT_tuple rfl B.b_isinstance rfl B.b_tuple rfl (de_var (pv 0))) (de_isi isT_tuple rfl B.b_isinstance rfl B.b_tuple rfl (de_var (pv 1))) (nomark _))))) (dss_one (ds_ret de_bl)) dss_nil)
    (dss_one (ds_ret (de_and (de_cmp (cd_eq hr.rm.units) (de_bl' bd_len rfl B.b_len rfl (da_cons (de_var (pv 0)) da_nil)) (de_bl' bd_len rfl B.b_len rfl (da_cons (de_var (pv 1)) da_nil)) (nomark _)) (de_one (de_bl' (bd_all rfl) rfl B.b_all rfl (da_cons (de_lc (T := [2, 3]) (own := [("_law_mine", 2), ("_law_its", 3)]) rfl nd (di_zip rfl B.b_zip (da_cons (de_var (pv 0)) (da_cons (de_var (pv 1)) da_nil))) (blk_of (by rfl)) (by decide) (fun _ _ _ _ _ => (dg_tup rfl (dgs_cons (dg_name nd rfl (by first | exact Or.inl rfl | exact Or.inr rfl)) (dgs_cons (dg_name nd rfl (by first | exact Or.inl rfl | exact Or.inr rfl)) dgs_nil)))) (fun _ _ _ _ _ => dts_nil) (fun _ _ _ _ _ => (de_callP I_same hr rfl (da_cons (de_var (pv 2)) (da_cons (de_var (pv 3)) da_nil))))) da_nil))))))) dss_nil)
    (dss_cons (ds_if (PW.pt (dw_or (dt_cmp cd_is (de_var (pv 1)) de_non (nomark _)) (dw_or1 (dt_tru (de_isi isT_str rfl B.b_isinstance rfl B.b_str rfl (de_var (pv 1))))))) (dss_one (ds_ret (de_and (de_cmp (cd_eq hr.rm.units) (de_var (pv 0)) (de_var (pv 1)) (nomark _)) (de_one (de_cmp (cd_eq hr.rm.units) (de_isi isT_str rfl B.b_isinstance rfl B.b_str rfl (de_var (pv 0))) (de_isi isT_str rfl B.b_isinstance rfl B.b_str rfl (de_var (pv 1))) (nomark _)))))) dss_nil)
    (dss_one (ds_ret (de_and (de_isi isT_int rfl B.b_isinstance rfl B.b_int rfl (de_var (pv 0))) (de_and (de_cmp (cd_eq hr.rm.units) (de_isi isT_bool rfl B.b_isinstance rfl B.b_bool rfl (de_var (pv 0))) (de_isi isT_bool rfl B.b_isinstance rfl B.b_bool rfl (de_var (pv 1))) (nomark _)) (de_one (de_cmp (cd_eq hr.rm.units) (de_var (pv 0)) (de_var (pv 1)) (nomark _)))))))))

abbrev s_lists : Stmt := top 7
def n_lists : List Str := ["_law_matter", "_law_part"]
def p_lists : List Str := ["_law_matter"]
theorem sc_lists : FnScope n_lists p_lists (defScope s_lists) := ⟨rfl, rfl, rfl, by decide +kernel, rfl, by decide +kernel, by decide +kernel⟩
theorem d_lists (B : Bi mg) {sp_lists : DSp} (I_lists : Pr P w K mg base k "_law_lists" s_lists p_lists sp_lists) {f : Addr} {cdv : Value} {A : Around} {outer : List Env} {s : Shared} {H : Hp} {E : XK} {F : Fx} (hr : RoomG k (A.deeper (envOfC "_law_lists" (defScope s_lists) s.heap.objs.size f cdv))) :
    DSs (cxOf (L2.CX P w) P w K mg base n_lists "_law_lists" (defScope s_lists) f cdv A outer s H E).nox F (defBody s_lists) (t_lists sp_lists) :=
  have nd := sc_lists.nd
  (dss_one (ds_ret (de_if (dt_tru (de_isi2 isT_list isT_tuple rfl B.b_isinstance rfl B.b_list rfl rfl B.b_tuple rfl (de_var (pv 0)))) (de_lc (T := [1]) (own := [("_law_part", 1)]) rfl nd (di_sq (de_var (pv 0))) (blk_of (by rfl)) (by decide) (fun _ _ _ _ _ => (dg_name nd rfl (by first | exact Or.inl rfl | exact Or.inr rfl))) (fun _ _ _ _ _ => dts_nil) (fun _ _ _ _ _ => (de_callP I_lists hr rfl (da_cons (de_var (pv 1)) da_nil)))) (de_var (pv 0)))))

abbrev s_shuffled : Stmt := top 8
def n_shuffled : List Str := ["_law_box_here", "_law_some", "_law_left", "_law_found"]
def p_shuffled : List Str := ["_law_box_here", "_law_some"]
theorem sc_shuffled : FnScope n_shuffled p_shuffled (defScope s_shuffled) := ⟨rfl, rfl, rfl, by decide +kernel, rfl, by decide +kernel, by decide +kernel⟩
theorem d_shuffled (B : Bi mg) {sp_take : DSp} (I_take : Pr P w K mg base k "_law_take" s_take p_take sp_take) {f : Addr} {cdv : Value} {A : Around} {outer : List Env} {s : Shared} {H : Hp} {E : XK} {F : Fx} (hr : RoomG k (A.deeper (envOfC "_law_shuffled" (defScope s_shuffled) s.heap.objs.size f cdv))) :
    DSs (cxOf (L2.CX P w) P w K mg base n_shuffled "_law_shuffled" (defScope s_shuffled) f cdv A outer s H E).nox F (defBody s_shuffled) (t_shuffled sp_take) :=
  have nd := sc_shuffled.nd
  (dss_cons (ds_par (ps_par (i := 2) (j := 3) rfl nd rfl rfl (by decide) rfl rfl (da_cons (de_ty bd_list rfl B.b_list rfl (da_cons (de_var (pv 1)) da_nil)) (da_cons (de_lst da_nil) da_nil)) rfl))
    (dss_cons (ds_while PassesOwn.never (dt_cmp (cd_ne hr.rm.units) (de_var (pv 2)) (de_lst da_nil) (nomark _)) (dss_one (ds_expr (de_append (pv 3) (da_cons (de_popAt (pv 2) (da_cons (de_callP I_take hr rfl (da_cons (de_var (pv 0)) (da_cons (de_bl' bd_len rfl B.b_len rfl (da_cons (de_var (pv 2)) da_nil)) da_nil))) da_nil)) da_nil)))))
    (dss_one (ds_ret (de_var (pv 3))))))

abbrev s_gauges : Stmt := top 9
def n_gauges : List Str := ["_law_box_here", "_law_total", "_law_gap", "_law_top", "_law_found", "_law_k"]
def p_gauges : List Str := ["_law_box_here", "_law_total"]
theorem sc_gauges : FnScope n_gauges p_gauges (defScope s_gauges) := ⟨rfl, rfl, rfl, by decide +kernel, rfl, by decide +kernel, by decide +kernel⟩
theorem d_gauges (B : Bi mg) {sp_take : DSp} {sp_pick : DSp} (I_take : Pr P w K mg base k "_law_take" s_take p_take sp_take) (I_pick : Pr P w K mg base k "_law_pick" s_pick p_pick sp_pick) {f : Addr} {cdv : Value} {A : Around} {outer : List Env} {s : Shared} {H : Hp} {E : XK} {F : Fx} (hr : RoomG k (A.deeper (envOfC "_law_gauges" (defScope s_gauges) s.heap.objs.size f cdv))) :
    DSs (cxOf (L2.CX P w) P w K mg base n_gauges "_law_gauges" (defScope s_gauges) f cdv A outer s H E).nox F (defBody s_gauges) (t_gauges sp_take sp_pick) :=
  have nd := sc_gauges.nd
  (dss_cons (ds_par3 (ps_par3 (i := 2) (j := 3) (l := 4) rfl nd rfl rfl rfl (by decide) (by decide) (by decide) rfl rfl rfl (da_cons (de_callP I_pick hr rfl (da_cons (de_var (pv 0)) (da_cons (de_lst (da_cons de_int (da_cons de_int (da_cons de_int (da_cons (de_pow de_int de_int) da_nil))))) da_nil))) (da_cons (de_callP I_take hr rfl (da_cons (de_var (pv 0)) (da_cons de_int da_nil))) (da_cons (de_lst da_nil) da_nil))) rfl))
    (dss_cons (ds_for PassesOwn.never rfl (di_range1 rfl B.b_range (da_cons (de_var (pv 1)) da_nil)) (dg_name nd rfl (by first | exact Or.inl rfl | exact Or.inr rfl)) (dss_cons (ds_set (i := 3) nd rfl (by first | exact Or.inl rfl | exact Or.inr rfl) (de_add (de_add (de_var (pv 3)) de_int) (de_callP I_take hr rfl (da_cons (de_var (pv 0)) (da_cons (de_var (pv 2)) da_nil)))))
    (dss_one (ds_expr (de_append (pv 4) (da_cons (de_var (pv 3)) da_nil))))))
    (dss_one (ds_ret (de_ty bd_tuple rfl B.b_tuple rfl (da_cons (de_var (pv 4)) da_nil))))))

abbrev s_span : Stmt := top 10
def n_span : List Str := ["_law_box_here", "_law_gauges_here", "_law_held", "_law_at", "_law_slack", "_law_first", "_law_last", "_law_bottom", "_law_top"]
def p_span : List Str := ["_law_box_here", "_law_gauges_here", "_law_held"]
theorem sc_span : FnScope n_span p_span (defScope s_span) := ⟨rfl, rfl, rfl, by decide +kernel, rfl, by decide +kernel, by decide +kernel⟩
theorem d_span (B : Bi mg) {sp_take : DSp} (I_take : Pr P w K mg base k "_law_take" s_take p_take sp_take) {f : Addr} {cdv : Value} {A : Around} {outer : List Env} {s : Shared} {H : Hp} {E : XK} {F : Fx} (hr : RoomG k (A.deeper (envOfC "_law_span" (defScope s_span) s.heap.objs.size f cdv))) :
    DSs (cxOf (L2.CX P w) P w K mg base n_span "_law_span" (defScope s_span) f cdv A outer s H E).nox F (defBody s_span) (t_span sp_take) :=
  have nd := sc_span.nd
  (dss_cons (ds_par (ps_par (i := 3) (j := 4) rfl nd rfl rfl (by decide) rfl rfl (da_cons (de_idx (de_var (pv 1)) (de_var (pv 2))) (da_cons (de_callP I_take hr rfl (da_cons (de_var (pv 0)) (da_cons de_int da_nil))) da_nil)) rfl))
    (dss_cons (ds_par (ps_par (i := 5) (j := 6) rfl nd rfl rfl (by decide) rfl rfl (da_cons (de_sub (de_var (pv 3)) (de_bl' (bd_min rfl) rfl B.b_min rfl (da_cons (de_var (pv 3)) (da_cons (de_var (pv 4)) da_nil)))) (da_cons (de_bl' (bd_min rfl) rfl B.b_min rfl (da_cons (de_sub (de_bl' bd_len rfl B.b_len rfl (da_cons (de_var (pv 1)) da_nil)) de_int) (da_cons (de_add (de_var (pv 3)) (de_callP I_take hr rfl (da_cons (de_var (pv 0)) (da_cons (de_add (de_var (pv 4)) de_int) da_nil)))) da_nil))) da_nil)) rfl))
    (dss_cons (ds_par (ps_par (i := 7) (j := 8) rfl nd rfl rfl (by decide) rfl rfl (da_cons (de_ix (de_var (pv 1)) (de_add (de_callP I_take hr rfl (da_cons (de_var (pv 0)) (da_cons (de_add (de_sub (de_var (pv 3)) (de_var (pv 5))) de_int) da_nil))) (de_var (pv 5))) (fun _ _ => rfl)) (da_cons (de_ix (de_var (pv 1)) (de_var (pv 6)) (fun _ _ => rfl)) da_nil)) rfl))
    (dss_one (ds_ret (de_tup (da_cons (de_sub (de_var (pv 7)) (de_bl' (bd_min rfl) rfl B.b_min rfl (da_cons (de_sub (de_var (pv 7)) de_int) (da_cons (de_callP I_take hr rfl (da_cons (de_var (pv 0)) (da_cons de_int da_nil))) da_nil)))) (da_cons (de_add (de_var (pv 8)) (de_callP I_take hr rfl (da_cons (de_var (pv 0)) (da_cons de_int da_nil)))) da_nil))))))))

abbrev s_plant : Stmt := top 11
def n_plant : List Str := ["_law_box_here", "_law_mills", "_law_most", "_law_count", "_law_gauges_here", "_law_stand", "_law_held"]
def p_plant : List Str := ["_law_box_here", "_law_mills", "_law_most"]
theorem sc_plant : FnScope n_plant p_plant (defScope s_plant) := ⟨rfl, rfl, rfl, by decide +kernel, rfl, by decide +kernel, by decide +kernel⟩
theorem d_plant (B : Bi mg) {sp_take : DSp} {sp_gauges : DSp} {sp_shuffled : DSp} {sp_span : DSp} (I_take : Pr P w K mg base k "_law_take" s_take p_take sp_take) (I_gauges : Pr P w K mg base k "_law_gauges" s_gauges p_gauges sp_gauges) (I_shuffled : Pr P w K mg base k "_law_shuffled" s_shuffled p_shuffled sp_shuffled) (I_span : Pr P w K mg base k "_law_span" s_span p_span sp_span) {f : Addr} {cdv : Value} {A : Around} {outer : List Env} {s : Shared} {H : Hp} {E : XK} {F : Fx} (hr : RoomG k (A.deeper (envOfC "_law_plant" (defScope s_plant) s.heap.objs.size f cdv))) :
    DSs (cxOf (L2.CX P w) P w K mg base n_plant "_law_plant" (defScope s_plant) f cdv A outer s H E).nox F (defBody s_plant) (t_plant sp_take sp_gauges sp_shuffled sp_span) :=
  have nd := sc_plant.nd
  (dss_cons (ds_set (i := 3) nd rfl (by first | exact Or.inl rfl | exact Or.inr rfl) (de_add de_int (de_callP I_take hr rfl (da_cons (de_var (pv 0)) (da_cons (de_var (pv 1)) da_nil)))))
    (dss_cons (ds_set (i := 4) nd rfl (by first | exact Or.inl rfl | exact Or.inr rfl) (de_callP I_gauges hr rfl (da_cons (de_var (pv 0)) (da_cons (de_bl' (bd_min rfl) rfl B.b_min rfl (da_cons (de_var (pv 2)) (da_cons (de_add (de_var (pv 3)) (de_callP I_take hr rfl (da_cons (de_var (pv 0)) (da_cons (de_add (de_sub (de_var (pv 2)) (de_var (pv 3))) de_int) da_nil)))) da_nil))) da_nil))))
    (dss_cons (ds_set (i := 5) nd rfl (by first | exact Or.inl rfl | exact Or.inr rfl) (de_ty bd_tuple rfl B.b_tuple rfl (da_cons (de_sl (de_callP I_shuffled hr rfl (da_cons (de_var (pv 0)) (da_cons (de_var (pv 4)) da_nil))) do_none (do_some (de_var (pv 3)))) da_nil)))
    (dss_one (ds_ret (de_tup (da_cons (de_tup (da_cons (de_var (pv 4)) (da_cons (de_ty bd_tuple rfl B.b_tuple rfl (da_cons (de_lc (T := [6]) (own := [("_law_held", 6)]) rfl nd (di_sq (de_var (pv 5))) (blk_of (by rfl)) (by decide) (fun _ _ _ _ _ => (dg_name nd rfl (by first | exact Or.inl rfl | exact Or.inr rfl))) (fun _ _ _ _ _ => dts_nil) (fun _ _ _ _ _ => (de_callP I_span hr rfl (da_cons (de_var (pv 0)) (da_cons (de_var (pv 4)) (da_cons (de_var (pv 6)) da_nil)))))) da_nil)) da_nil))) (da_cons (de_var (pv 5)) da_nil))))))))

abbrev s_hulls : Stmt := top 1
def n_hulls : List Str := ["settings", "sizes"]
def p_hulls : List Str := ["settings"]
theorem sc_hulls : FnScope n_hulls p_hulls (defScope s_hulls) := ⟨rfl, rfl, rfl, by decide +kernel, rfl, by decide +kernel, by decide +kernel⟩
theorem d_hulls (B : Bi mg) {f : Addr} {cdv : Value} {A : Around} {outer : List Env} {s : Shared} {H : Hp} {E : XK} {F : Fx} (hr : RoomG k (A.deeper (envOfC "hulls" (defScope s_hulls) s.heap.objs.size f cdv))) :
    DSs (cxOf (L2.CX P w) P w K mg base n_hulls "hulls" (defScope s_hulls) f cdv A outer s H E).nox F (defBody s_hulls) (t_hulls) :=
  have nd := sc_hulls.nd
  (dss_one (ds_ret (de_ty bd_tuple rfl B.b_tuple rfl (da_cons (de_lc (T := [1]) (own := [("sizes", 1)]) rfl nd (di_zipS rfl B.b_zip (de_var (pv 0))) (blk_of (by rfl)) (by decide) (fun _ _ _ _ _ => (dg_name nd rfl (by first | exact Or.inl rfl | exact Or.inr rfl))) (fun _ _ _ _ _ => dts_nil) (fun _ _ _ _ _ => (de_tup (da_cons (de_bl' (bd_minT rfl hr.units65) rfl B.b_min rfl (da_cons (de_var (pv 1)) da_nil)) (da_cons (de_bl' (bd_maxT rfl hr.units65) rfl B.b_max rfl (da_cons (de_var (pv 1)) da_nil)) da_nil))))) da_nil))))

abbrev s_l_fits : Stmt := top 12
def n_l_fits : List Str := ["_law_plant_here", "_law_mill", "_law_gauge"]
def p_l_fits : List Str := ["_law_plant_here", "_law_mill", "_law_gauge"]
theorem sc_l_fits : FnScope n_l_fits p_l_fits (defScope s_l_fits) := ⟨rfl, rfl, rfl, by decide +kernel, rfl, by decide +kernel, by decide +kernel⟩
theorem d_l_fits (B : Bi mg) {f : Addr} {cdv : Value} {A : Around} {outer : List Env} {s : Shared} {H : Hp} {E : XK} {F : Fx} (hr : RoomG k (A.deeper (envOfC "_law_fits" (defScope s_l_fits) s.heap.objs.size f cdv))) :
    DSs (cxOf (L2.CX P w) P w K mg base n_l_fits "_law_fits" (defScope s_l_fits) f cdv A outer s H E).nox F (defBody s_l_fits) (t_l_fits) :=
  have nd := sc_l_fits.nd
  (dss_one (ds_ret (de_chain cd_le cd_le (de_gix (de_gix (de_gix (de_var (pv 0)) de_int (fun _ _ => rfl)) (de_var (pv 1)) (fun _ _ => rfl)) de_int (fun _ _ => rfl)) (de_var (pv 2)) (de_gix (de_gix (de_gix (de_var (pv 0)) de_int (fun _ _ => rfl)) (de_var (pv 1)) (fun _ _ => rfl)) de_int (fun _ _ => rfl)))))

abbrev s_store : Stmt := top 13
def n_store : List Str := ["_law_plant_here", "_law_stand", "_law_gauge"]
def p_store : List Str := ["_law_plant_here", "_law_stand"]
theorem sc_store : FnScope n_store p_store (defScope s_store) := ⟨rfl, rfl, rfl, by decide +kernel, rfl, by decide +kernel, by decide +kernel⟩
theorem d_store (B : Bi mg) {f : Addr} {cdv : Value} {A : Around} {outer : List Env} {s : Shared} {H : Hp} {E : XK} {F : Fx} (hr : RoomG k (A.deeper (envOfC "_law_store" (defScope s_store) s.heap.objs.size f cdv))) :
    DSs (cxOf (L2.CX P w) P w K mg base n_store "_law_store" (defScope s_store) f cdv A outer s H E).nox F (defBody s_store) (t_store) :=
  have nd := sc_store.nd
  (dss_one (ds_ret (de_lc (T := [2]) (own := [("_law_gauge", 2)]) rfl nd (di_sq (de_gix (de_var (pv 0)) de_int (fun _ _ => rfl))) (blk_of (by rfl)) (by decide) (fun _ _ _ _ _ => (dg_name nd rfl (by first | exact Or.inl rfl | exact Or.inr rfl))) (fun _ _ _ _ _ => (dts_one (dt_cmp cd_gnotIn (de_var (pv 2)) (de_var (pv 1)) (by rfl)))) (fun _ _ _ _ _ => (de_var (pv 2))))))

abbrev s_l_after : Stmt := top 14
def n_l_after : List Str := ["_law_stand", "_law_deal", "_law_found"]
def p_l_after : List Str := ["_law_stand", "_law_deal"]
theorem sc_l_after : FnScope n_l_after p_l_after (defScope s_l_after) := ⟨rfl, rfl, rfl, by decide +kernel, rfl, by decide +kernel, by decide +kernel⟩
theorem d_l_after (B : Bi mg) {f : Addr} {cdv : Value} {A : Around} {outer : List Env} {s : Shared} {H : Hp} {E : XK} {F : Fx} (hr : RoomG k (A.deeper (envOfC "_law_after" (defScope s_l_after) s.heap.objs.size f cdv))) :
    DSs (cxOf (L2.CX P w) P w K mg base n_l_after "_law_after" (defScope s_l_after) f cdv A outer s H E).nox F (defBody s_l_after) (t_l_after) :=
  have nd := sc_l_after.nd
  (dss_cons (ds_set (i := 2) nd rfl (by first | exact Or.inl rfl | exact Or.inr rfl) (de_ty bd_list rfl B.b_list rfl (da_cons (de_var (pv 0)) da_nil)))
    (dss_cons (ds_if (dt_cmp (cd_eq hr.rm.units) (de_gix (de_var (pv 1)) de_int (fun _ _ => rfl)) de_str (nomark _)) (dss_one (ds_setIx (ps_asg (de_gix (de_var (pv 1)) de_int (fun _ _ => rfl)) (pg_sub (pv 2) (de_gix (de_var (pv 1)) de_int (fun _ _ => rfl)) set_list)))) (dss_one (ds_swap (ps_swap rfl (da_cons (de_gix (de_var (pv 0)) (de_gix (de_var (pv 1)) de_int (fun _ _ => rfl)) (fun _ _ => rfl)) (da_cons (de_gix (de_var (pv 0)) (de_gix (de_var (pv 1)) de_int (fun _ _ => rfl)) (fun _ _ => rfl)) da_nil)) (pg_sub (pv 2) (de_gix (de_var (pv 1)) de_int (fun _ _ => rfl)) set_list) (pg_sub (pv 2) (de_gix (de_var (pv 1)) de_int (fun _ _ => rfl)) set_list)))))
    (dss_one (ds_ret (de_ty bd_tuple rfl B.b_tuple rfl (da_cons (de_var (pv 2)) da_nil))))))

abbrev s_deals : Stmt := top 15
def n_deals : List Str := ["_law_plant_here", "_law_stand", "_law_found", "_law_count", "_law_mill", "_law_mate", "_law_gauge"]
def p_deals : List Str := ["_law_plant_here", "_law_stand"]
theorem sc_deals : FnScope n_deals p_deals (defScope s_deals) := ⟨rfl, rfl, rfl, by decide +kernel, rfl, by decide +kernel, by decide +kernel⟩
theorem d_deals (B : Bi mg) {sp_l_fits : DSp} {sp_store : DSp} (I_l_fits : Pr P w K mg base k "_law_fits" s_l_fits p_l_fits sp_l_fits) (I_store : Pr P w K mg base k "_law_store" s_store p_store sp_store) {f : Addr} {cdv : Value} {A : Around} {outer : List Env} {s : Shared} {H : Hp} {E : XK} {F : Fx} (hr : RoomG k (A.deeper (envOfC "_law_deals" (defScope s_deals) s.heap.objs.size f cdv))) :
    DSs (cxOf (L2.CX P w) P w K mg base n_deals "_law_deals" (defScope s_deals) f cdv A outer s H E).nox F (defBody s_deals) (t_deals sp_l_fits sp_store) :=
  have nd := sc_deals.nd
  (dss_cons (ds_par (ps_par (i := 2) (j := 3) rfl nd rfl rfl (by decide) rfl rfl (da_cons (de_lst da_nil) (da_cons (de_bl' bd_glen rfl B.b_len rfl (da_cons (de_var (pv 1)) da_nil)) da_nil)) rfl))
    (dss_cons (ds_for PassesOwn.never rfl (di_range1 rfl B.b_range (da_cons (de_var (pv 3)) da_nil)) (dg_name nd rfl (by first | exact Or.inl rfl | exact Or.inr rfl)) (dss_one (ds_for PassesOwn.never rfl (di_range2 rfl B.b_range (da_cons (de_add (de_var (pv 4)) de_int) (da_cons (de_var (pv 3)) da_nil))) (dg_name nd rfl (by first | exact Or.inl rfl | exact Or.inr rfl)) (dss_one (ds_if (PW.pt (dw_and (dt_tru (de_callP I_l_fits hr rfl (da_cons (de_var (pv 0)) (da_cons (de_var (pv 4)) (da_cons (de_gix (de_var (pv 1)) (de_var (pv 5)) (fun _ _ => rfl)) da_nil))))) (dw_and1 (dt_tru (de_callP I_l_fits hr rfl (da_cons (de_var (pv 0)) (da_cons (de_var (pv 5)) (da_cons (de_gix (de_var (pv 1)) (de_var (pv 4)) (fun _ _ => rfl)) da_nil)))))))) (dss_one (ds_expr (de_append (pv 2) (da_cons (de_tup (da_cons de_str (da_cons (de_var (pv 4)) (da_cons (de_var (pv 5)) da_nil)))) da_nil)))) dss_nil)))))
    (dss_cons (ds_for PassesOwn.never rfl (di_range1 rfl B.b_range (da_cons (de_var (pv 3)) da_nil)) (dg_name nd rfl (by first | exact Or.inl rfl | exact Or.inr rfl)) (dss_one (ds_expr (de_extend (pv 2) (da_cons (de_lc (T := [6]) (own := [("_law_gauge", 6)]) rfl nd (di_sq (de_callP I_store hr rfl (da_cons (de_var (pv 0)) (da_cons (de_var (pv 1)) da_nil)))) (blk_of (by rfl)) (by decide) (fun _ _ _ _ _ => (dg_name nd rfl (by first | exact Or.inl rfl | exact Or.inr rfl))) (fun _ _ _ _ _ => (dts_one (dt_tru (de_callP I_l_fits hr rfl (da_cons (de_var (pv 0)) (da_cons (de_var (pv 4)) (da_cons (de_var (pv 6)) da_nil))))))) (fun _ _ _ _ _ => (de_tup (da_cons de_str (da_cons (de_var (pv 4)) (da_cons (de_var (pv 6)) da_nil)))))) da_nil)))))
    (dss_one (ds_ret (de_var (pv 2)))))))

abbrev s_wandered : Stmt := top 16
def n_wandered : List Str := ["_law_box_here", "_law_plant_here", "_law_stand", "_law_turns", "_law_tour", "_law_turn", "_law_some"]
def p_wandered : List Str := ["_law_box_here", "_law_plant_here", "_law_stand", "_law_turns"]
theorem sc_wandered : FnScope n_wandered p_wandered (defScope s_wandered) := ⟨rfl, rfl, rfl, by decide +kernel, rfl, by decide +kernel, by decide +kernel⟩
theorem d_wandered (B : Bi mg) {sp_deals : DSp} {sp_l_after : DSp} (I_deals : Pr P w K mg base k "_law_deals" s_deals p_deals sp_deals) (I_l_after : Pr P w K mg base k "_law_after" s_l_after p_l_after sp_l_after) (I_pickH : PrH P w K mg base k "_law_pick" s_pick p_pick (spPick K)) {f : Addr} {cdv : Value} {A : Around} {outer : List Env} {s : Shared} {H : Hp} {E : XK} {F : Fx} (hr : RoomG k (A.deeper (envOfC "_law_wandered" (defScope s_wandered) s.heap.objs.size f cdv))) :
    DSs (cxOf (L2.CX P w) P w K mg base n_wandered "_law_wandered" (defScope s_wandered) f cdv A outer s H E).nox F (defBody s_wandered) (t_wandered sp_deals sp_l_after) :=
  have nd := sc_wandered.nd
  (dss_cons (ds_set (i := 4) nd rfl (by first | exact Or.inl rfl | exact Or.inr rfl) (de_lst da_nil))
    (dss_cons (ds_for PassesOwn.never rfl (di_range1 rfl B.b_range (da_cons (de_var (pv 3)) da_nil)) (dg_name nd rfl (by first | exact Or.inl rfl | exact Or.inr rfl)) (dss_cons (ds_set (i := 6) nd rfl (by first | exact Or.inl rfl | exact Or.inr rfl) (de_callP I_deals hr rfl (da_cons (de_var (pv 1)) (da_cons (de_var (pv 2)) da_nil))))
    (dss_one (ds_if (dt_cmp (cd_ne hr.rm.units) (de_var (pv 6)) (de_lst da_nil) (nomark _)) (dss_cons (ds_expr (de_append (pv 4) (da_cons (de_pick I_pickH hr rfl (pv 0) (de_var (pv 6))) da_nil)))
    (dss_one (ds_set (i := 2) nd rfl (by first | exact Or.inl rfl | exact Or.inr rfl) (de_callP I_l_after hr rfl (da_cons (de_var (pv 2)) (da_cons (de_gix (de_var (pv 4)) (de_neg de_int) (fun _ _ => rfl)) da_nil)))))) dss_nil))))
    (dss_one (ds_ret (de_tup (da_cons (de_var (pv 4)) (da_cons (de_var (pv 2)) da_nil)))))))

abbrev s_right : Stmt := top 17
def n_right : List Str := ["_law_box_here", "_law_plant_here", "_law_stand", "_law_seen", "_law_turn", "_law_kept", "_law_due", "_law_mill", "_law_some", "_law_told", "_law_fewer", "_law_here", "_law_span_here", "_law_part", "_law_gauge"]
def p_right : List Str := ["_law_box_here"]
theorem sc_right : FnScope n_right p_right (defScope s_right) := ⟨rfl, rfl, rfl, by decide +kernel, rfl, by decide +kernel, by decide +kernel⟩
theorem d_right (B : Bi mg) {sp_plant : DSp} {sp_take : DSp} {sp_wandered : DSp} {sp_hulls : DSp} {sp_lists : DSp} {sp_same : DSp} (I_plant : Pr P w K mg base k "_law_plant" s_plant p_plant sp_plant) (I_take : Pr P w K mg base k "_law_take" s_take p_take sp_take) (I_wandered : Pr P w K mg base k "_law_wandered" s_wandered p_wandered sp_wandered) (I_hulls : Pr P w K mg base k "hulls" s_hulls p_hulls sp_hulls) (I_lists : Pr P w K mg base k "_law_lists" s_lists p_lists sp_lists) (I_same : Pr P w K mg base k "_law_same" s_same p_same sp_same) {f : Addr} {cdv : Value} {A : Around} {outer : List Env} {s : Shared} {H : Hp} {E : XK} {F : Fx} (hr : RoomG k (A.deeper (envOfC "_law_right" (defScope s_right) s.heap.objs.size f cdv))) :
    DSs (cxOf (L2.CX P w) P w K mg base n_right "_law_right" (defScope s_right) f cdv A outer s H E).nox F (defBody s_right) (t_right sp_plant sp_take sp_wandered sp_hulls sp_lists sp_same) :=
  have nd := sc_right.nd
  (dss_cons (ds_tgt (de_callP I_plant hr rfl (da_cons (de_var (pv 0)) (da_cons de_int (da_cons de_int da_nil)))) (dg_tup rfl (dgs_cons (dg_name nd rfl (by first | exact Or.inl rfl | exact Or.inr rfl)) (dgs_cons (dg_name nd rfl (by first | exact Or.inl rfl | exact Or.inr rfl)) dgs_nil))))
    (dss_cons (ds_set (i := 3) nd rfl (by first | exact Or.inl rfl | exact Or.inr rfl) (de_lst (da_cons (de_var (pv 2)) da_nil)))
    (dss_cons (ds_for PassesOwn.never rfl (di_range1 rfl B.b_range (da_cons (de_callP I_take hr rfl (da_cons (de_var (pv 0)) (da_cons de_int da_nil))) da_nil)) (dg_name nd rfl (by first | exact Or.inl rfl | exact Or.inr rfl)) (dss_one (ds_expr (de_append (pv 3) (da_cons (de_gix (de_callP I_wandered hr rfl (da_cons (de_var (pv 0)) (da_cons (de_var (pv 1)) (da_cons (de_gix (de_var (pv 3)) (de_neg de_int) (fun _ _ => rfl)) (da_cons (de_add de_int (de_callP I_take hr rfl (da_cons (de_var (pv 0)) (da_cons de_int da_nil)))) da_nil))))) de_int (fun _ _ => rfl)) da_nil)))))
    (dss_cons (ds_par (ps_par (i := 5) (j := 6) rfl nd rfl rfl (by decide) rfl rfl (da_cons (de_bl' (bd_repr ⟨_, hr⟩) rfl B.b_repr rfl (da_cons (de_var (pv 3)) da_nil)) (da_cons (de_lst da_nil) da_nil)) rfl))
    (dss_cons (ds_for PassesOwn.never rfl (di_range1 rfl B.b_range (da_cons (de_bl' bd_glen rfl B.b_len rfl (da_cons (de_var (pv 2)) da_nil)) da_nil)) (dg_name nd rfl (by first | exact Or.inl rfl | exact Or.inr rfl)) (dss_cons (ds_set (i := 8) nd rfl (by first | exact Or.inl rfl | exact Or.inr rfl) (de_bl' bd_sorted rfl B.b_sorted rfl (da_cons (de_lc (T := [11]) (own := [("_law_here", 11)]) rfl nd (di_sq (de_var (pv 3))) (blk_of (by rfl)) (by decide) (fun _ _ _ _ _ => (dg_name nd rfl (by first | exact Or.inl rfl | exact Or.inr rfl))) (fun _ _ _ _ _ => dts_nil) (fun _ _ _ _ _ => (de_gix (de_var (pv 11)) (de_var (pv 7)) (fun _ _ => rfl)))) da_nil)))
    (dss_one (ds_expr (de_append (pv 6) (da_cons (de_tup (da_cons (de_gix (de_var (pv 8)) de_int (fun _ _ => rfl)) (da_cons (de_gix (de_var (pv 8)) (de_neg de_int) (fun _ _ => rfl)) da_nil))) da_nil))))))
    (dss_cons (ds_set (i := 9) nd rfl (by first | exact Or.inl rfl | exact Or.inr rfl) (de_lst (da_cons (de_callP I_hulls hr rfl (da_cons (de_var (pv 3)) da_nil)) (da_cons (de_callKP (n := 1) (ix := [0]) (ks := ["settings"]) I_hulls hr rfl (dk_cons (de_ty bd_tuple rfl B.b_tuple rfl (da_cons (de_callP I_lists hr rfl (da_cons (de_var (pv 3)) da_nil)) da_nil)) dk_nil) (by intro _ _ _ _ _ _ ws hl; obtain ⟨u0, rfl⟩ := pick1 hl; rfl)) da_nil))))
    (dss_cons (ds_if (PW.pt (dw_or (dt_not (dt_tru (de_callP I_same hr rfl (da_cons (de_var (pv 9)) (da_cons (de_mul (de_lst (da_cons (de_ty bd_tuple rfl B.b_tuple rfl (da_cons (de_var (pv 6)) da_nil)) da_nil)) de_int) da_nil))))) (dw_or1 (dt_cmp (cd_ne hr.rm.units) (de_bl' (bd_repr ⟨_, hr⟩) rfl B.b_repr rfl (da_cons (de_var (pv 3)) da_nil)) (de_var (pv 5)) (nomark _))))) (dss_one (ds_ret de_bl)) dss_nil)
    (dss_cons (ds_set (i := 10) nd rfl (by first | exact Or.inl rfl | exact Or.inr rfl) (de_callP I_hulls hr rfl (da_cons (de_add (de_sl (de_var (pv 3)) do_none (do_some (de_neg de_int))) (de_sl (de_var (pv 3)) do_none (do_some de_int))) da_nil)))
    (dss_cons (ds_if (dt_not (dt_tru (de_bl' (bd_all rfl) rfl B.b_all rfl (da_cons (de_lc (T := [12, 13]) (own := [("_law_span_here", 12), ("_law_part", 13)]) rfl nd (di_zip2 rfl B.b_zip (da_cons (de_var (pv 6)) (da_cons (de_var (pv 10)) da_nil))) (blk_of (by rfl)) (by decide) (fun _ _ _ _ _ => (dg_tup rfl (dgs_cons (dg_name nd rfl (by first | exact Or.inl rfl | exact Or.inr rfl)) (dgs_cons (dg_name nd rfl (by first | exact Or.inl rfl | exact Or.inr rfl)) dgs_nil)))) (fun _ _ _ _ _ => dts_nil) (fun _ _ _ _ _ => (de_and (de_cmp cd_le (de_gix (de_var (pv 12)) de_int (fun _ _ => rfl)) (de_gix (de_var (pv 13)) de_int (fun _ _ => rfl)) (nomark _)) (de_one (de_cmp cd_le (de_gix (de_var (pv 13)) de_int (fun _ _ => rfl)) (de_gix (de_var (pv 12)) de_int (fun _ _ => rfl)) (nomark _)))))) da_nil)))) (dss_one (ds_ret de_bl)) dss_nil)
    (dss_one (ds_ret (de_cmp (cd_eq hr.rm.units) (de_callP I_hulls hr rfl (da_cons (de_lst (da_cons (de_var (pv 2)) da_nil)) da_nil)) (de_ty bd_tuple rfl B.b_tuple rfl (da_cons (de_lc (T := [14]) (own := [("_law_gauge", 14)]) rfl nd (di_sq (de_var (pv 2))) (blk_of (by rfl)) (by decide) (fun _ _ _ _ _ => (dg_name nd rfl (by first | exact Or.inl rfl | exact Or.inr rfl))) (fun _ _ _ _ _ => dts_nil) (fun _ _ _ _ _ => (de_tup (da_cons (de_var (pv 14)) (da_cons (de_var (pv 14)) da_nil))))) da_nil)) (nomark _)))))))))))))

end
end SF

namespace SF
open PySem PySem.Spec PyProof.Rows L2
section
variable {P : Program} {w : World} {K : Fg} {mg : Str → Option Value} {base : Heap}
theorem len_pick {args : List DV} {n : Nat} {Q : DV → Nat → Prop} {E : DXK} (h : sp_pick args n Q E) : args.length = p_pick.length := by
  obtain ⟨_, _, rfl, _⟩ := h
  rfl
theorem len_shuffled {args : List DV} {n : Nat} {Q : DV → Nat → Prop} {E : DXK} (h : sp_shuffled args n Q E) : args.length = p_shuffled.length := by
  obtain ⟨_, _, rfl, _⟩ := h
  rfl
theorem len_gauges {args : List DV} {n : Nat} {Q : DV → Nat → Prop} {E : DXK} (h : sp_gauges args n Q E) : args.length = p_gauges.length := by
  obtain ⟨_, rfl, _⟩ := h
  rfl
theorem len_span {args : List DV} {n : Nat} {Q : DV → Nat → Prop} {E : DXK} (h : sp_span args n Q E) : args.length = p_span.length := by
  obtain ⟨_, _, rfl, _⟩ := h
  rfl
theorem len_plant {args : List DV} {n : Nat} {Q : DV → Nat → Prop} {E : DXK} (h : sp_plant args n Q E) : args.length = p_plant.length := by
  obtain ⟨_, _, rfl, _⟩ := h
  rfl
theorem len_hulls {args : List DV} {n : Nat} {Q : DV → Nat → Prop} {E : DXK} (h : sp_hulls args n Q E) : args.length = p_hulls.length := by
  obtain ⟨_, _, _, _, rfl, _⟩ := h
  rfl
theorem len_l_fits {args : List DV} {n : Nat} {Q : DV → Nat → Prop} {E : DXK} (h : sp_l_fits args n Q E) : args.length = p_l_fits.length := by
  obtain ⟨_, _, _, _, _, rfl, _⟩ := h
  rfl
theorem len_store {args : List DV} {n : Nat} {Q : DV → Nat → Prop} {E : DXK} (h : sp_store args n Q E) : args.length = p_store.length := by
  obtain ⟨_, _, _, _, _, rfl, _⟩ := h
  rfl
theorem len_l_after {args : List DV} {n : Nat} {Q : DV → Nat → Prop} {E : DXK} (h : sp_after args n Q E) : args.length = p_l_after.length := by
  obtain ⟨_, _, _, _, rfl, _⟩ := h
  rfl
theorem len_deals {args : List DV} {n : Nat} {Q : DV → Nat → Prop} {E : DXK} (h : sp_deals args n Q E) : args.length = p_deals.length := by
  obtain ⟨_, _, _, _, rfl, _⟩ := h
  rfl
theorem len_wandered {args : List DV} {n : Nat} {Q : DV → Nat → Prop} {E : DXK} (h : sp_wandered args n Q E) : args.length = p_wandered.length := by
  obtain ⟨_, _, _, _, _, rfl, _⟩ := h
  rfl
theorem len_right {args : List DV} {n : Nat} {Q : DV → Nat → Prop} {E : DXK} (h : sp_right args n Q E) : args.length = p_right.length := by
  obtain ⟨rfl, _⟩ := h
  rfl
theorem len_same {j : Nat} {args : List DV} {n : Nat} {Q : DV → Nat → Prop} {E : DXK} (h : sp_same j args n Q E) : args.length = p_same.length := by
  obtain ⟨_, rfl, _⟩ := h
  rfl
theorem no_same {args : List DV} {n : Nat} {Q : DV → Nat → Prop} {E : DXK} (h : sp_same 0 args n Q E) : False := by
  obtain ⟨_, _, _, h, _⟩ := h
  omega
theorem len_lists {j : Nat} {args : List DV} {n : Nat} {Q : DV → Nat → Prop} {E : DXK} (h : sp_lists j args n Q E) : args.length = p_lists.length := by
  obtain ⟨_, rfl, _⟩ := h
  rfl
theorem no_lists {args : List DV} {n : Nat} {Q : DV → Nat → Prop} {E : DXK} (h : sp_lists 0 args n Q E) : False := by
  obtain ⟨_, _, _, h, _⟩ := h
  omega
def n_take : List Str := ["_law_box_here", "_law_span_here", "_law_found", "_law_once"]
theorem sc_take : FnScope n_take p_take (defScope s_take) := ⟨rfl, rfl, rfl, by decide +kernel, rfl, by decide +kernel, by decide +kernel⟩
theorem d_take {f : Addr} {cdv : Value} {A : Around} {outer : List Env} {s : Shared} {H : Hp} {E : XK} {tR : TS} (hB : PSs (cxOf (L2.CX P w) P w K mg base n_take "_law_take" (defScope s_take) f cdv A outer s H E) (ifBd ((defBody s_take).getD 1 (.Pass ⟨0, 0, 0, 0⟩))) tR) :
    PSs (cxOf (L2.CX P w) P w K mg base n_take "_law_take" (defScope s_take) f cdv A outer s H E) (defBody s_take) (tTake K tR) :=
  pss_cons (ps_if (pt_cmpR op_gt (pe_ix ix_list (pv 0) pe_int (fun _ _ => rfl)) pe_int (nomark _))
      (pss_cons (ps_set (i := 2) sc_take.nd rfl (Or.inl rfl) (pe_op op_mod (pe_ix ix_list (pv 0) pe_int (fun _ _ => rfl)) (pv 1)))
        (pss_cons (ps_asg (pe_op op_fdiv (pe_ix ix_list (pv 0) pe_int (fun _ _ => rfl)) (pv 1)) (pg_sub (pv 0) pe_int set_list))
          (pss_one (ps_ret (pv 2))))) pss_nil)
    (pss_cons (ps_if (pt_cmpR op_gt (pv 1) (pe_op op_pow pe_int pe_int) (nomark _)) hB pss_nil)
    (pss_cons (ps_asg (pe_op op_add (pe_ix ix_list (pv 0) pe_int (fun _ _ => rfl)) pe_int) (pg_sub (pv 0) pe_int set_list))
    (pss_cons (ps_set (i := 3) sc_take.nd rfl (Or.inl rfl) (pe_op op_mod (pe_op op_pow (pe_op op_add (pe_ix ix_list (pv 0) pe_int (fun _ _ => rfl)) (pe_op op_mul pe_int (pe_ix ix_list (pv 0) pe_int (fun _ _ => rfl)))) pe_int) pe_int))
    (pss_one (ps_ret (pe_op op_mod (pe_op op_fdiv (pe_op op_mod (pe_op op_add (pe_op op_mul (pv 3) (pe_op op_add (pe_op op_mod (pv 3) pe_int) pe_int)) (pe_op op_mul (pe_ix ix_list (pv 0) pe_int (fun _ _ => rfl)) pe_int)) pe_int) pe_int) (pv 1)))))))
theorem ok_take0 (D : Df K mg "_law_take" s_take p_take) : Pr P w K mg base 1 "_law_take" s_take p_take sp_take0 := by
  obtain ⟨f, fd, Fu, g, bn⟩ := D.ex
  refine ⟨f, fd, fnG_of Fu sc_take (len_take fun args n Q E ⟨k, e, _⟩ => ⟨k, e⟩) fun cdv A outer s H vs Q E hr h => ?_, Fu, g, bn⟩
  obtain ⟨b, n, k, Qa, Ea, rfl, hb, ⟨k', ek, k0, k1, n1, qa⟩, hq⟩ := take_in h fun args n Q E ⟨k, e, _⟩ => ⟨k, e⟩
  cases ek
  exact ⟨_, d_take (pss_one ps_never), take_read rfl hb k0 (by omega) n1 (fun r H' r0 r1 kp bx => hq r _ H' kp bx (qa r r0 r1)) fun c => absurd c (by omega)⟩
theorem ok_take (D : Df K mg "_law_take" s_take p_take) : Pr P w K mg base 2 "_law_take" s_take p_take sp_take := by
  obtain ⟨f, fd, G0, Fu, g, bn⟩ := (ok_take0 (P := P) (w := w) (base := base) D).ex
  refine ⟨f, fd, fnG_of Fu sc_take (len_take fun args n Q E ⟨k, e, _⟩ => ⟨k, e⟩) fun cdv A outer s H vs Q E hr h => ?_, Fu, g, bn⟩
  obtain ⟨b, n, k, Qa, Ea, rfl, hb, ⟨k', ek, k0, k1, n1, qa⟩, hq⟩ := take_in h fun args n Q E ⟨k, e, _⟩ => ⟨k, e⟩
  cases ek
  refine ⟨_, d_take (pss_one (ps_ret (pe_op op_mod (pe_op op_add (pe_callG G0 hr rfl g Fu.kp bn .nil passX (pa_cons (pv 0) (pa_cons (pe_op op_pow pe_int pe_int) pa_nil)))
    (pe_op op_mul (pe_op op_pow pe_int pe_int) (pe_callG G0 hr rfl g Fu.kp bn .nil passX (pa_cons (pv 0) (pa_cons (pe_op op_add (pe_op op_fdiv (pv 1) (pe_op op_pow pe_int pe_int)) pe_int) pa_nil))))) (pv 1)))), take_read rfl hb k0 (by omega) (by omega) (fun r H' r0 r1 kp bx => hq r (n - 3) H' kp (bx.less (by omega)) (qa r r0 r1)) fun c D' hD => ?_⟩
  refine ⟨_, rfl, 10, 7, rfl, rfl, ⟨by decide, by decide, by decide⟩, ?_⟩
  refine take_out (Qa := fun r n' => ∃ i : Int, r = .d (.int i) ∧ 0 ≤ i ∧ i < 10000000 ∧ n' = n - 1) hb ⟨10000000, rfl, by decide, by decide, by omega, fun r r0 r1 => ⟨r, rfl, r0, r1, rfl⟩⟩ (fun r n' ⟨i, e, _⟩ => ⟨i, e⟩) fun r1 n1 H1 kp1 bx1 ⟨i1, e1, i10, i11, en1⟩ => ?_
  cases e1
  subst en1
  refine ⟨10, 7, rfl, rfl, ⟨by decide, by decide, by decide⟩, _, rfl, _, rfl, 10, 7, rfl, rfl, ⟨by decide, by decide, by decide⟩, k, _, rfl, rfl, ⟨by decide, by decide⟩, _, 1, rfl, rfl, ?_⟩
  refine take_out (Qa := fun r n' => ∃ i : Int, r = .d (.int i) ∧ n' = n - 2) bx1 ⟨k / (10 : Int) ^ (7 : Int).toNat + 1, rfl, ?_, ?_, by omega, fun r r0 r1 => ⟨r, rfl, by omega⟩⟩ (fun r n' ⟨i, e, _⟩ => ⟨i, e⟩) fun r2 n2 H2 kp2 bx2 ⟨i2, e2, en2⟩ => ?_
  · show 0 < k / 10000000 + 1; omega
  · show k / 10000000 + 1 ≤ 10000000; omega
  cases e2
  subst en2
  refine ⟨_, _, rfl, rfl, .inl ⟨by decide, by decide⟩, _, _, rfl, rfl, _, rfl, _, k, rfl, rfl, k0, ?_⟩
  show D'.rt _ _
  rw [hD]
  exact hq _ (n - 3) H2 (kp1.trans kp2) (bx2.less (by omega)) (qa _ (Int.emod_nonneg _ (by omega)) (Int.emod_lt_of_pos _ k0))

abbrev s_box : Stmt := top 3
def n_box : List Str := ["_law_script", "_law_k", "_law_cell"]
theorem sc_box : FnScope n_box ["_law_script", "_law_k"] (defScope s_box) := ⟨rfl, rfl, rfl, by decide +kernel, rfl, by decide +kernel, by decide +kernel⟩
theorem ok_box {f : Addr} {fd : FuncData} (Fu : Fun K "_law_box" "_law_box" s_box f fd) (m1 : mg "len" = none) (m2 : mg "abs" = none) (m3 : mg "int" = none) : FnG P w K mg base (L2.CX P w) 1 f fd ["_law_script", "_law_k"] (spBox K) := by
  refine fnG_of Fu sc_box (fun vs H Q E ⟨a, ns, k, e, _⟩ => by subst e; rfl) fun cdv A outer s H vs Q E hr h => ?_
  obtain ⟨a, ns, k, rfl, sq, k0, k1, q⟩ := h
  refine ⟨_, pss_cons (ps_set (i := 2) sc_box.nd rfl (Or.inl rfl) pe_int)
    (pss_cons (ps_if (pt_cmpR op_lt (pv 1) (pe_callB call_len_seq rfl m1 PySem.boot_len (pa_cons (pv 0) pa_nil)) (nomark _)) (pss_one (ps_set (i := 2) sc_box.nd rfl (Or.inl rfl) (pe_ix ix_list (pv 0) (pv 1) (fun _ _ => rfl)))) pss_nil)
    (pss_one (ps_ret (pe_lst (pa_cons (pe_op op_mul (pe_callB call_abs rfl m2 rfl (pa_cons (pv 2) pa_nil)) (pe_callTy call_int1 rfl m3 rfl (pa_cons (pe_cmpR op_ge (pe_callB call_abs rfl m2 rfl (pa_cons (pv 2) pa_nil)) (pe_op op_pow pe_int pe_int) (nomark _)) pa_nil)))
      (pa_cons (pe_op op_mod (pe_op op_mul (pe_op op_add (pe_op op_add (pe_op op_mod (pv 2) pe_int) (pe_op op_mul pe_int (pv 1))) pe_int) pe_int) pe_int) (pa_cons pe_int pa_nil))))))), ?_⟩
  refine ⟨_, rfl, _, rfl, a, _, rfl, .inl sq, _, _, rfl, rfl, _, rfl, ?_⟩
  refine ite2 (fun e => ?_) (fun e => ?_)
  · have e' : k < ((ns.map V.int).length : Int) := of_decide_eq_true e
    rw [List.length_map] at e'
    obtain ⟨c, hc⟩ := at_int k0 e'
    refine ⟨_, rfl, _, rfl, a, _, k, _, rfl, rfl, sq, hc, ?_⟩
    refine ⟨_, rfl, c, rfl, _, rfl, c, rfl, 10, 18, rfl, rfl, ⟨by decide, by decide, by decide⟩, _, _, rfl, rfl, .inr ⟨_, rfl, _, _, rfl, rfl, .inr (bit64 _), ?_⟩⟩
    refine ⟨_, rfl, c, 2147483629, rfl, rfl, (by decide : (0 : Int) < 2147483629), _, rfl, 15511, k, rfl, rfl, .inl (by decide), _, _, rfl, rfl, _, 23, rfl, rfl, _, 40361, rfl, rfl, .inr (by decide), _, 2147483563, rfl, rfl, (by decide : (0 : Int) < 2147483563), (by decide : (3 : Nat) ≤ sizeLine), fun p hp => ?_⟩
    exact q p _ hp (same_new hp) ⟨_, _, 0, upd_same, Int.mul_nonneg (abs_ge _) (bit0 _), Int.emod_nonneg _ (by decide), Int.lt_trans (Int.emod_lt_of_pos _ (by decide : (0 : Int) < 2147483563)) (by decide), Int.le_refl 0, by decide⟩
  · refine ⟨_, rfl, 0, rfl, _, rfl, 0, rfl, 10, 18, rfl, rfl, ⟨by decide, by decide, by decide⟩, _, _, rfl, rfl, .inr ⟨_, rfl, _, _, rfl, rfl, .inr (bit64 _), ?_⟩⟩
    refine ⟨_, rfl, 0, 2147483629, rfl, rfl, (by decide : (0 : Int) < 2147483629), _, rfl, 15511, k, rfl, rfl, .inl (by decide), _, _, rfl, rfl, _, 23, rfl, rfl, _, 40361, rfl, rfl, .inr (by decide), _, 2147483563, rfl, rfl, (by decide : (0 : Int) < 2147483563), (by decide : (3 : Nat) ≤ sizeLine), fun p hp => ?_⟩
    exact q p _ hp (same_new hp) ⟨_, _, 0, upd_same, Int.mul_nonneg (abs_ge _) (bit0 _), Int.emod_nonneg _ (by decide), Int.lt_trans (Int.emod_lt_of_pos _ (by decide : (0 : Int) < 2147483563)) (by decide), Int.le_refl 0, by decide⟩

abbrev s_law : Stmt := top 18
def n_law : List Str := ["_law_script", "_law_k", "_law_box_here", "_law_turn"]
theorem sc_law : FnScope n_law ["_law_script"] (defScope s_law) := ⟨rfl, rfl, rfl, by decide +kernel, rfl, by decide +kernel, by decide +kernel⟩
theorem ok_law {kk : Nat} {f g : Addr} {fd gd : FuncData} (Fu : Fun K "law" "law" s_law f fd) (Gb : FnG P w K mg base (L2.CX P w) kk g gd ["_law_script", "_law_k"] (spBox K)) (kb : PySem.W.keepIn K (.ref g) = true) (bb : Binds K gd ["_law_script", "_law_k"] []) (mb : mg "_law_box" = some (.ref g))
    (R : Pr P w K mg base kk "_law_right" s_right ["_law_box_here"] sp_right) (m1 : mg "range" = none) (m2 : mg "min" = none) (m3 : mg "len" = none) (m4 : mg "all" = none) : FnG P w K mg base (L2.CX P w) (kk + 1) f fd ["_law_script"] (spLaw K) := by
  refine fnG_of Fu sc_law (fun vs H Q E ⟨a, ns, e, _⟩ => by subst e; rfl) fun cdv A outer s H vs Q E hr h => ?_
  obtain ⟨a, ns, rfl, sq, n63, q⟩ := h
  refine ⟨_, PSs.nox (pss_cons (ps_for PassesOwn.never rfl (pi_range1 rfl m1 (pa_cons (pe_op op_add pe_int (pe_callB (call_min2 rfl) rfl m2 rfl (pa_cons pe_int (pa_cons (pe_callB call_len_seq rfl m3 PySem.boot_len (pa_cons (pv 0) pa_nil)) pa_nil)))) pa_nil)) (pg_name (i := 1) sc_law.nd rfl (Or.inl rfl))
      (pss_cons (ps_set (i := 2) sc_law.nd rfl (by first | exact Or.inl rfl | exact Or.inr rfl) (pe_callG Gb hr rfl mb kb bb .nil passX (pa_cons (pv 0) (pa_cons (pv 1) pa_nil))))
      (pss_one (ps_if (pt_ex fun F => dt_not (dt_tru (de_bl' (bd_all rfl) rfl m4 rfl (da_cons (de_lc (T := [3]) (own := [("_law_turn", 3)]) rfl sc_law.nd (di_range1 rfl m1 (da_cons de_int da_nil)) (blk_of (by rfl)) (by decide) (fun _ _ _ _ _ => dg_name sc_law.nd rfl (Or.inl rfl)) (fun _ _ _ _ _ => dts_nil) (fun _ _ _ _ _ => de_callP R hr rfl (da_cons (de_var (pv 2)) da_nil))) da_nil)))) (pss_one (ps_ret pe_bl)) pss_nil))))
    (pss_one (ps_ret pe_bl))), ?_⟩
  exact law_read (by decide) (by decide) sq q fun k => all_right (by decide) (by decide)

theorem spD_no {dsp : DSp} (h : ∀ args n Q E, ¬ dsp args n Q E) {vs : List V} {H : Hp} {Q : VK} {E : XK} : ¬ spD K mg dsp vs H Q E := fun ⟨_, _, _, _, _, _, _, _, _, _, hd, _⟩ => h _ _ _ _ hd
theorem pr_never {x : Str} {st : Stmt} {ps : List Str} {dsp : DSp} {k : Nat} (D : Df K mg x st ps) (h : ∀ args n Q E, ¬ dsp args n Q E) : Pr P w K mg base k x st ps dsp := by
  obtain ⟨f, fd, Fu, g, b⟩ := D.ex
  exact ⟨f, fd, ⟨fun vs H Q E z => absurd z (spD_no h), fun A outer s H args us vs Q E _ _ _ _ z => absurd z (spD_no h)⟩, Fu, g, b⟩
theorem ok_pickH {k : Nat} (B : Bi mg) (D : Df K mg "_law_pick" s_pick p_pick) (I : Pr P w K mg base k "_law_take" s_take p_take sp_take) : PrH P w K mg base (k + 1) "_law_pick" s_pick p_pick (spPick K) := by
  obtain ⟨f, fd, Fu, g, b⟩ := D.ex
  obtain ⟨f2, fd2, G, Fu2, g2, b2⟩ := I.ex
  refine ⟨f, fd, fnG_of Fu sc_pick (fun vs H Q E ⟨_, _, _, _, e, _⟩ => by subst e; rfl) fun cdv A outer s H vs Q E hr h => ?_, Fu, g, b⟩
  obtain ⟨bx, l, xs, n, rfl, hb, sq, ne, x0, x1, n3, q⟩ := h
  refine ⟨_, pss_one (ps_ret (pe_ix ix_seq (pv 1) (pe_callG G hr rfl g2 Fu2.kp b2 .nil passX (pa_cons (pv 0) (pa_cons (pe_callB call_len_seq rfl B.b_len PySem.boot_len (pa_cons (pv 1) pa_nil)) pa_nil))) (fun _ _ => rfl))), ?_⟩
  refine ⟨_, rfl, _, rfl, _, rfl, l, xs, rfl, sq, ?_⟩
  refine take_out (Qa := fun r n' => ∃ i : Int, r = .d (.int i) ∧ 0 ≤ i ∧ i < (xs.length : Int) ∧ n' = n - 3) hb ⟨_, rfl, by omega, by omega, n3, fun r r0 r1 => ⟨r, rfl, r0, r1, rfl⟩⟩ (fun r n' ⟨i, e, _⟩ => ⟨i, e⟩) fun r n' H' kp bx' ⟨i, e, i0, i1, en⟩ => ?_
  cases e
  subst en
  obtain ⟨v, e1, e2⟩ := atI_in i0 i1
  have nb : l ∉ [bx] := by simpa using ne
  rcases sq with sq | sq
  · have sq' : SqL K H' l xs := by
      rcases sq with h | h
      · exact .inl (Rd.keep kp nb h)
      · exact .inr h
    exact .inl ⟨l, xs, _, v, rfl, rfl, sq', e1, q v (List.mem_of_getElem? e2) H' kp bx'⟩
  · have sq' : SqT K H' l xs := by
      rcases sq with h | h
      · exact .inl (Rd.keep kp nb h)
      · exact .inr h
    exact .inr (.inl ⟨l, xs, _, v, rfl, rfl, sq', e1, q v (List.mem_of_getElem? e2) H' kp bx'⟩)
theorem ok_pick {k : Nat} (B : Bi mg) (D : Df K mg "_law_pick" s_pick p_pick) (I_take : Pr P w K mg base k "_law_take" s_take p_take sp_take) : Pr P w K mg base (k + 1) "_law_pick" s_pick p_pick sp_pick :=
  D.pr sc_pick (fun args n Q E h => len_pick h) (fun f cdv A outer s H E F hr => d_pick B I_take hr) r_pick
theorem ok_same {k : Nat} (B : Bi mg) (D : Df K mg "_law_same" s_same p_same) : ∀ j : Nat, Pr P w K mg base (k + j) "_law_same" s_same p_same (sp_same j)
  | 0 => pr_never D (fun args n Q E h => no_same h)
  | j + 1 => D.pr sc_same (fun args n Q E h => len_same h) (fun f cdv A outer s H E F hr => d_same B (ok_same B D  j) hr) (r_same j)
theorem ok_lists {k : Nat} (B : Bi mg) (D : Df K mg "_law_lists" s_lists p_lists) : ∀ j : Nat, Pr P w K mg base (k + j) "_law_lists" s_lists p_lists (sp_lists j)
  | 0 => pr_never D (fun args n Q E h => no_lists h)
  | j + 1 => D.pr sc_lists (fun args n Q E h => len_lists h) (fun f cdv A outer s H E F hr => d_lists B (ok_lists B D  j) hr) (r_lists j)
theorem ok_shuffled {k : Nat} (B : Bi mg) (D : Df K mg "_law_shuffled" s_shuffled p_shuffled) (I_take : Pr P w K mg base k "_law_take" s_take p_take sp_take) : Pr P w K mg base (k + 1) "_law_shuffled" s_shuffled p_shuffled sp_shuffled :=
  D.pr sc_shuffled (fun args n Q E h => len_shuffled h) (fun f cdv A outer s H E F hr => d_shuffled B I_take hr) r_shuffled
theorem ok_gauges {k : Nat} (B : Bi mg) (D : Df K mg "_law_gauges" s_gauges p_gauges) (I_take : Pr P w K mg base k "_law_take" s_take p_take sp_take) (I_pick : Pr P w K mg base k "_law_pick" s_pick p_pick sp_pick) : Pr P w K mg base (k + 1) "_law_gauges" s_gauges p_gauges sp_gauges :=
  D.pr sc_gauges (fun args n Q E h => len_gauges h) (fun f cdv A outer s H E F hr => d_gauges B I_take I_pick hr) r_gauges
theorem ok_span {k : Nat} (B : Bi mg) (D : Df K mg "_law_span" s_span p_span) (I_take : Pr P w K mg base k "_law_take" s_take p_take sp_take) : Pr P w K mg base (k + 1) "_law_span" s_span p_span sp_span :=
  D.pr sc_span (fun args n Q E h => len_span h) (fun f cdv A outer s H E F hr => d_span B I_take hr) r_span
theorem ok_plant {k : Nat} (B : Bi mg) (D : Df K mg "_law_plant" s_plant p_plant) (I_take : Pr P w K mg base k "_law_take" s_take p_take sp_take) (I_gauges : Pr P w K mg base k "_law_gauges" s_gauges p_gauges sp_gauges) (I_shuffled : Pr P w K mg base k "_law_shuffled" s_shuffled p_shuffled sp_shuffled) (I_span : Pr P w K mg base k "_law_span" s_span p_span sp_span) : Pr P w K mg base (k + 1) "_law_plant" s_plant p_plant sp_plant :=
  D.pr sc_plant (fun args n Q E h => len_plant h) (fun f cdv A outer s H E F hr => d_plant B I_take I_gauges I_shuffled I_span hr) r_plant
theorem ok_hulls {k : Nat} (B : Bi mg) (D : Df K mg "hulls" s_hulls p_hulls) : Pr P w K mg base (k + 1) "hulls" s_hulls p_hulls sp_hulls :=
  D.pr sc_hulls (fun args n Q E h => len_hulls h) (fun f cdv A outer s H E F hr => d_hulls B  hr) r_hulls
theorem ok_l_fits {k : Nat} (B : Bi mg) (D : Df K mg "_law_fits" s_l_fits p_l_fits) : Pr P w K mg base (k + 1) "_law_fits" s_l_fits p_l_fits sp_l_fits :=
  D.pr sc_l_fits (fun args n Q E h => len_l_fits h) (fun f cdv A outer s H E F hr => d_l_fits B  hr) r_l_fits
theorem ok_store {k : Nat} (B : Bi mg) (D : Df K mg "_law_store" s_store p_store) : Pr P w K mg base (k + 1) "_law_store" s_store p_store sp_store :=
  D.pr sc_store (fun args n Q E h => len_store h) (fun f cdv A outer s H E F hr => d_store B  hr) r_store
theorem ok_l_after {k : Nat} (B : Bi mg) (D : Df K mg "_law_after" s_l_after p_l_after) : Pr P w K mg base (k + 1) "_law_after" s_l_after p_l_after sp_after :=
  D.pr sc_l_after (fun args n Q E h => len_l_after h) (fun f cdv A outer s H E F hr => d_l_after B  hr) r_l_after
theorem ok_deals {k : Nat} (B : Bi mg) (D : Df K mg "_law_deals" s_deals p_deals) (I_l_fits : Pr P w K mg base k "_law_fits" s_l_fits p_l_fits sp_l_fits) (I_store : Pr P w K mg base k "_law_store" s_store p_store sp_store) : Pr P w K mg base (k + 1) "_law_deals" s_deals p_deals sp_deals :=
  D.pr sc_deals (fun args n Q E h => len_deals h) (fun f cdv A outer s H E F hr => d_deals B I_l_fits I_store hr) r_deals
theorem ok_wandered {k : Nat} (B : Bi mg) (D : Df K mg "_law_wandered" s_wandered p_wandered) (I_deals : Pr P w K mg base k "_law_deals" s_deals p_deals sp_deals) (I_l_after : Pr P w K mg base k "_law_after" s_l_after p_l_after sp_after) (I_pickH : PrH P w K mg base k "_law_pick" s_pick p_pick (spPick K)) : Pr P w K mg base (k + 1) "_law_wandered" s_wandered p_wandered sp_wandered :=
  D.pr sc_wandered (fun args n Q E h => len_wandered h) (fun f cdv A outer s H E F hr => d_wandered B I_deals I_l_after I_pickH hr) r_wandered
theorem ok_right {k : Nat} (B : Bi mg) (D : Df K mg "_law_right" s_right p_right) (I_plant : Pr P w K mg base k "_law_plant" s_plant p_plant sp_plant) (I_take : Pr P w K mg base k "_law_take" s_take p_take sp_take) (I_wandered : Pr P w K mg base k "_law_wandered" s_wandered p_wandered sp_wandered) (I_hulls : Pr P w K mg base k "hulls" s_hulls p_hulls sp_hulls) (I_lists : Pr P w K mg base k "_law_lists" s_lists p_lists (sp_lists 8)) (I_same : Pr P w K mg base k "_law_same" s_same p_same (sp_same 8)) : Pr P w K mg base (k + 1) "_law_right" s_right p_right sp_right :=
  D.pr sc_right (fun args n Q E h => len_right h) (fun f cdv A outer s H E F hr => d_right B I_plant I_take I_wandered I_hulls I_lists I_same hr) r_right
theorem all_ok (B : Bi mg) (D_pick : Df K mg "_law_pick" s_pick p_pick) (D_same : Df K mg "_law_same" s_same p_same) (D_lists : Df K mg "_law_lists" s_lists p_lists) (D_shuffled : Df K mg "_law_shuffled" s_shuffled p_shuffled) (D_gauges : Df K mg "_law_gauges" s_gauges p_gauges) (D_span : Df K mg "_law_span" s_span p_span) (D_plant : Df K mg "_law_plant" s_plant p_plant) (D_hulls : Df K mg "hulls" s_hulls p_hulls) (D_l_fits : Df K mg "_law_fits" s_l_fits p_l_fits) (D_store : Df K mg "_law_store" s_store p_store) (D_l_after : Df K mg "_law_after" s_l_after p_l_after) (D_deals : Df K mg "_law_deals" s_deals p_deals) (D_wandered : Df K mg "_law_wandered" s_wandered p_wandered) (D_right : Df K mg "_law_right" s_right p_right) (D_take : Df K mg "_law_take" s_take p_take) {f1 f2 : Addr} {fd1 fd2 : FuncData} (Fb : Fun K "_law_box" "_law_box" s_box f1 fd1) (gb : mg "_law_box" = some (.ref f1)) (bb : Binds K fd1 ["_law_script", "_law_k"] []) (Fl : Fun K "law" "law" s_law f2 fd2) : FnG P w K mg base (L2.CX P w) 62 f2 fd2 ["_law_script"] (spLaw K) := by
  have i_take : Pr P w K mg base 10 "_law_take" s_take p_take sp_take := (ok_take D_take).mono (by decide)
  have i_pick : Pr P w K mg base 11 "_law_pick" s_pick p_pick sp_pick := ok_pick (k := 10) B D_pick (i_take.mono (by decide : 10 ≤ 10))
  have i_pickH := ok_pickH (k := 10) B D_pick (i_take.mono (by decide : 10 ≤ 10))
  have i_same : Pr P w K mg base 9 "_law_same" s_same p_same (sp_same 8) := ok_same (k := 1) B D_same  8
  have i_lists : Pr P w K mg base 9 "_law_lists" s_lists p_lists (sp_lists 8) := ok_lists (k := 1) B D_lists  8
  have i_shuffled : Pr P w K mg base 11 "_law_shuffled" s_shuffled p_shuffled sp_shuffled := ok_shuffled (k := 10) B D_shuffled (i_take.mono (by decide : 10 ≤ 10))
  have i_gauges : Pr P w K mg base 12 "_law_gauges" s_gauges p_gauges sp_gauges := ok_gauges (k := 11) B D_gauges (i_take.mono (by decide : 10 ≤ 11)) (i_pick.mono (by decide : 11 ≤ 11))
  have i_span : Pr P w K mg base 11 "_law_span" s_span p_span sp_span := ok_span (k := 10) B D_span (i_take.mono (by decide : 10 ≤ 10))
  have i_plant : Pr P w K mg base 13 "_law_plant" s_plant p_plant sp_plant := ok_plant (k := 12) B D_plant (i_take.mono (by decide : 10 ≤ 12)) (i_gauges.mono (by decide : 12 ≤ 12)) (i_shuffled.mono (by decide : 11 ≤ 12)) (i_span.mono (by decide : 11 ≤ 12))
  have i_hulls : Pr P w K mg base 2 "hulls" s_hulls p_hulls sp_hulls := ok_hulls (k := 1) B D_hulls 
  have i_l_fits : Pr P w K mg base 2 "_law_fits" s_l_fits p_l_fits sp_l_fits := ok_l_fits (k := 1) B D_l_fits 
  have i_store : Pr P w K mg base 2 "_law_store" s_store p_store sp_store := ok_store (k := 1) B D_store 
  have i_l_after : Pr P w K mg base 2 "_law_after" s_l_after p_l_after sp_after := ok_l_after (k := 1) B D_l_after 
  have i_deals : Pr P w K mg base 3 "_law_deals" s_deals p_deals sp_deals := ok_deals (k := 2) B D_deals (i_l_fits.mono (by decide : 2 ≤ 2)) (i_store.mono (by decide : 2 ≤ 2))
  have i_wandered : Pr P w K mg base 12 "_law_wandered" s_wandered p_wandered sp_wandered := ok_wandered (k := 11) B D_wandered (i_deals.mono (by decide : 3 ≤ 11)) (i_l_after.mono (by decide : 2 ≤ 11)) (i_pickH.mono (by decide : 11 ≤ 11))
  have i_right : Pr P w K mg base 61 "_law_right" s_right p_right sp_right := ok_right (k := 60) B D_right (i_plant.mono (by decide : 13 ≤ 60)) (i_take.mono (by decide : 10 ≤ 60)) (i_wandered.mono (by decide : 12 ≤ 60)) (i_hulls.mono (by decide : 2 ≤ 60)) (i_lists.mono (by decide : 9 ≤ 60)) (i_same.mono (by decide : 9 ≤ 60))
  exact ok_law Fl ((ok_box Fb B.b_len B.b_abs B.b_int).mono (by decide)) Fb.kp bb gb i_right B.b_range B.b_min B.b_len B.b_all
end
theorem df_mk {K : Fg} {mg : Str → Option Value} {h : Heap} {x : Str} {st : Stmt} {ps : List Str} {f : Addr} {od an : Option Addr} {sl : Array (Option Value)} {oc kV dc pm cd ct : Value} (X : K.In h) (G : h.Ns mainGlobals mg)
    (hb : ∀ (kV dc pm : Value) (an : Option Addr) (cd ct : Value) (us : List Value), us.length = ps.length → bindArgs (PySem.W.fnOf x x (defArgs st) (defBody st) (defScope st) .none kV dc pm an cd ct) ⟨us, []⟩ = pure (ps.zip us))
    (a : PySem.W.nsIn K mainGlobals x = some (some (.ref f))) (l : K.lookup f = some ⟨oc, od, .func (PySem.W.fnOf x x (defArgs st) (defBody st) (defScope st) .none kV dc pm an cd ct), sl⟩) (c : PySem.W.codeIn K cd x = true) (k : PySem.W.keepIn K (.ref f) = true) : Df K mg x st ps := by
  have Fu := fun_mk (st := st) l c k
  exact ⟨f, _, Fu, PySem.W.mg_of X G a, Fu.binds hb⟩
theorem all_mk {l : PySem.W.OpenLaw} {w : World} {K : Fg} {h : Heap} {mg : Str → Option Value} {fa : Addr} (X : K.In h) (G : h.Ns mainGlobals mg) (hfa : mg "law" = some (.ref fa)) {f0 : Addr} {od0 an0 : Option Addr} {sl0 : Array (Option Value)} {oc0 kV0 dc0 pm0 cd0 ct0 : Value} {f1 : Addr} {od1 an1 : Option Addr} {sl1 : Array (Option Value)} {oc1 kV1 dc1 pm1 cd1 ct1 : Value} {f2 : Addr} {od2 an2 : Option Addr} {sl2 : Array (Option Value)} {oc2 kV2 dc2 pm2 cd2 ct2 : Value} {f3 : Addr} {od3 an3 : Option Addr} {sl3 : Array (Option Value)} {oc3 kV3 dc3 pm3 cd3 ct3 : Value} {f4 : Addr} {od4 an4 : Option Addr} {sl4 : Array (Option Value)} {oc4 kV4 dc4 pm4 cd4 ct4 : Value} {f5 : Addr} {od5 an5 : Option Addr} {sl5 : Array (Option Value)} {oc5 kV5 dc5 pm5 cd5 ct5 : Value} {f6 : Addr} {od6 an6 : Option Addr} {sl6 : Array (Option Value)} {oc6 kV6 dc6 pm6 cd6 ct6 : Value} {f7 : Addr} {od7 an7 : Option Addr} {sl7 : Array (Option Value)} {oc7 kV7 dc7 pm7 cd7 ct7 : Value} {f8 : Addr} {od8 an8 : Option Addr} {sl8 : Array (Option Value)} {oc8 kV8 dc8 pm8 cd8 ct8 : Value} {f9 : Addr} {od9 an9 : Option Addr} {sl9 : Array (Option Value)} {oc9 kV9 dc9 pm9 cd9 ct9 : Value} {f10 : Addr} {od10 an10 : Option Addr} {sl10 : Array (Option Value)} {oc10 kV10 dc10 pm10 cd10 ct10 : Value} {f11 : Addr} {od11 an11 : Option Addr} {sl11 : Array (Option Value)} {oc11 kV11 dc11 pm11 cd11 ct11 : Value} {f12 : Addr} {od12 an12 : Option Addr} {sl12 : Array (Option Value)} {oc12 kV12 dc12 pm12 cd12 ct12 : Value} {f13 : Addr} {od13 an13 : Option Addr} {sl13 : Array (Option Value)} {oc13 kV13 dc13 pm13 cd13 ct13 : Value} {f14 : Addr} {od14 an14 : Option Addr} {sl14 : Array (Option Value)} {oc14 kV14 dc14 pm14 cd14 ct14 : Value} {f15 : Addr} {od15 an15 : Option Addr} {sl15 : Array (Option Value)} {oc15 kV15 dc15 pm15 cd15 ct15 : Value} {f16 : Addr} {od16 an16 : Option Addr} {sl16 : Array (Option Value)} {oc16 kV16 dc16 pm16 cd16 ct16 : Value}
    (a0 : PySem.W.nsIn K mainGlobals "_law_box" = some (some (.ref f0))) (l0 : K.lookup f0 = some ⟨oc0, od0, .func (PySem.W.fnOf "_law_box" "_law_box" (defArgs s_box) (defBody s_box) (defScope s_box) .none kV0 dc0 pm0 an0 cd0 ct0), sl0⟩) (c0 : PySem.W.codeIn K cd0 "_law_box" = true) (k0 : PySem.W.keepIn K (.ref f0) = true)
    (a1 : PySem.W.nsIn K mainGlobals "_law_take" = some (some (.ref f1))) (l1 : K.lookup f1 = some ⟨oc1, od1, .func (PySem.W.fnOf "_law_take" "_law_take" (defArgs s_take) (defBody s_take) (defScope s_take) .none kV1 dc1 pm1 an1 cd1 ct1), sl1⟩) (c1 : PySem.W.codeIn K cd1 "_law_take" = true) (k1 : PySem.W.keepIn K (.ref f1) = true)
    (a2 : PySem.W.nsIn K mainGlobals "_law_pick" = some (some (.ref f2))) (l2 : K.lookup f2 = some ⟨oc2, od2, .func (PySem.W.fnOf "_law_pick" "_law_pick" (defArgs s_pick) (defBody s_pick) (defScope s_pick) .none kV2 dc2 pm2 an2 cd2 ct2), sl2⟩) (c2 : PySem.W.codeIn K cd2 "_law_pick" = true) (k2 : PySem.W.keepIn K (.ref f2) = true)
    (a3 : PySem.W.nsIn K mainGlobals "_law_same" = some (some (.ref f3))) (l3 : K.lookup f3 = some ⟨oc3, od3, .func (PySem.W.fnOf "_law_same" "_law_same" (defArgs s_same) (defBody s_same) (defScope s_same) .none kV3 dc3 pm3 an3 cd3 ct3), sl3⟩) (c3 : PySem.W.codeIn K cd3 "_law_same" = true) (k3 : PySem.W.keepIn K (.ref f3) = true)
    (a4 : PySem.W.nsIn K mainGlobals "_law_lists" = some (some (.ref f4))) (l4 : K.lookup f4 = some ⟨oc4, od4, .func (PySem.W.fnOf "_law_lists" "_law_lists" (defArgs s_lists) (defBody s_lists) (defScope s_lists) .none kV4 dc4 pm4 an4 cd4 ct4), sl4⟩) (c4 : PySem.W.codeIn K cd4 "_law_lists" = true) (k4 : PySem.W.keepIn K (.ref f4) = true)
    (a5 : PySem.W.nsIn K mainGlobals "_law_shuffled" = some (some (.ref f5))) (l5 : K.lookup f5 = some ⟨oc5, od5, .func (PySem.W.fnOf "_law_shuffled" "_law_shuffled" (defArgs s_shuffled) (defBody s_shuffled) (defScope s_shuffled) .none kV5 dc5 pm5 an5 cd5 ct5), sl5⟩) (c5 : PySem.W.codeIn K cd5 "_law_shuffled" = true) (k5 : PySem.W.keepIn K (.ref f5) = true)
    (a6 : PySem.W.nsIn K mainGlobals "_law_gauges" = some (some (.ref f6))) (l6 : K.lookup f6 = some ⟨oc6, od6, .func (PySem.W.fnOf "_law_gauges" "_law_gauges" (defArgs s_gauges) (defBody s_gauges) (defScope s_gauges) .none kV6 dc6 pm6 an6 cd6 ct6), sl6⟩) (c6 : PySem.W.codeIn K cd6 "_law_gauges" = true) (k6 : PySem.W.keepIn K (.ref f6) = true)
    (a7 : PySem.W.nsIn K mainGlobals "_law_span" = some (some (.ref f7))) (l7 : K.lookup f7 = some ⟨oc7, od7, .func (PySem.W.fnOf "_law_span" "_law_span" (defArgs s_span) (defBody s_span) (defScope s_span) .none kV7 dc7 pm7 an7 cd7 ct7), sl7⟩) (c7 : PySem.W.codeIn K cd7 "_law_span" = true) (k7 : PySem.W.keepIn K (.ref f7) = true)
    (a8 : PySem.W.nsIn K mainGlobals "_law_plant" = some (some (.ref f8))) (l8 : K.lookup f8 = some ⟨oc8, od8, .func (PySem.W.fnOf "_law_plant" "_law_plant" (defArgs s_plant) (defBody s_plant) (defScope s_plant) .none kV8 dc8 pm8 an8 cd8 ct8), sl8⟩) (c8 : PySem.W.codeIn K cd8 "_law_plant" = true) (k8 : PySem.W.keepIn K (.ref f8) = true)
    (a9 : PySem.W.nsIn K mainGlobals "hulls" = some (some (.ref f9))) (l9 : K.lookup f9 = some ⟨oc9, od9, .func (PySem.W.fnOf "hulls" "hulls" (defArgs s_hulls) (defBody s_hulls) (defScope s_hulls) .none kV9 dc9 pm9 an9 cd9 ct9), sl9⟩) (c9 : PySem.W.codeIn K cd9 "hulls" = true) (k9 : PySem.W.keepIn K (.ref f9) = true)
    (a10 : PySem.W.nsIn K mainGlobals "_law_fits" = some (some (.ref f10))) (l10 : K.lookup f10 = some ⟨oc10, od10, .func (PySem.W.fnOf "_law_fits" "_law_fits" (defArgs s_l_fits) (defBody s_l_fits) (defScope s_l_fits) .none kV10 dc10 pm10 an10 cd10 ct10), sl10⟩) (c10 : PySem.W.codeIn K cd10 "_law_fits" = true) (k10 : PySem.W.keepIn K (.ref f10) = true)
    (a11 : PySem.W.nsIn K mainGlobals "_law_store" = some (some (.ref f11))) (l11 : K.lookup f11 = some ⟨oc11, od11, .func (PySem.W.fnOf "_law_store" "_law_store" (defArgs s_store) (defBody s_store) (defScope s_store) .none kV11 dc11 pm11 an11 cd11 ct11), sl11⟩) (c11 : PySem.W.codeIn K cd11 "_law_store" = true) (k11 : PySem.W.keepIn K (.ref f11) = true)
    (a12 : PySem.W.nsIn K mainGlobals "_law_after" = some (some (.ref f12))) (l12 : K.lookup f12 = some ⟨oc12, od12, .func (PySem.W.fnOf "_law_after" "_law_after" (defArgs s_l_after) (defBody s_l_after) (defScope s_l_after) .none kV12 dc12 pm12 an12 cd12 ct12), sl12⟩) (c12 : PySem.W.codeIn K cd12 "_law_after" = true) (k12 : PySem.W.keepIn K (.ref f12) = true)
    (a13 : PySem.W.nsIn K mainGlobals "_law_deals" = some (some (.ref f13))) (l13 : K.lookup f13 = some ⟨oc13, od13, .func (PySem.W.fnOf "_law_deals" "_law_deals" (defArgs s_deals) (defBody s_deals) (defScope s_deals) .none kV13 dc13 pm13 an13 cd13 ct13), sl13⟩) (c13 : PySem.W.codeIn K cd13 "_law_deals" = true) (k13 : PySem.W.keepIn K (.ref f13) = true)
    (a14 : PySem.W.nsIn K mainGlobals "_law_wandered" = some (some (.ref f14))) (l14 : K.lookup f14 = some ⟨oc14, od14, .func (PySem.W.fnOf "_law_wandered" "_law_wandered" (defArgs s_wandered) (defBody s_wandered) (defScope s_wandered) .none kV14 dc14 pm14 an14 cd14 ct14), sl14⟩) (c14 : PySem.W.codeIn K cd14 "_law_wandered" = true) (k14 : PySem.W.keepIn K (.ref f14) = true)
    (a15 : PySem.W.nsIn K mainGlobals "_law_right" = some (some (.ref f15))) (l15 : K.lookup f15 = some ⟨oc15, od15, .func (PySem.W.fnOf "_law_right" "_law_right" (defArgs s_right) (defBody s_right) (defScope s_right) .none kV15 dc15 pm15 an15 cd15 ct15), sl15⟩) (c15 : PySem.W.codeIn K cd15 "_law_right" = true) (k15 : PySem.W.keepIn K (.ref f15) = true)
    (a16 : PySem.W.nsIn K mainGlobals "law" = some (some (.ref f16))) (l16 : K.lookup f16 = some ⟨oc16, od16, .func (PySem.W.fnOf "law" "law" (defArgs s_law) (defBody s_law) (defScope s_law) .none kV16 dc16 pm16 an16 cd16 ct16), sl16⟩) (c16 : PySem.W.codeIn K cd16 "law" = true) (k16 : PySem.W.keepIn K (.ref f16) = true)
    (z_abs : PySem.W.nsIn K mainGlobals "abs" = some none)
    (z_all : PySem.W.nsIn K mainGlobals "all" = some none)
    (z_any : PySem.W.nsIn K mainGlobals "any" = some none)
    (z_bool : PySem.W.nsIn K mainGlobals "bool" = some none)
    (z_enumerate : PySem.W.nsIn K mainGlobals "enumerate" = some none)
    (z_int : PySem.W.nsIn K mainGlobals "int" = some none)
    (z_isinstance : PySem.W.nsIn K mainGlobals "isinstance" = some none)
    (z_len : PySem.W.nsIn K mainGlobals "len" = some none)
    (z_list : PySem.W.nsIn K mainGlobals "list" = some none)
    (z_max : PySem.W.nsIn K mainGlobals "max" = some none)
    (z_min : PySem.W.nsIn K mainGlobals "min" = some none)
    (z_range : PySem.W.nsIn K mainGlobals "range" = some none)
    (z_repr : PySem.W.nsIn K mainGlobals "repr" = some none)
    (z_set : PySem.W.nsIn K mainGlobals "set" = some none)
    (z_sorted : PySem.W.nsIn K mainGlobals "sorted" = some none)
    (z_str : PySem.W.nsIn K mainGlobals "str" = some none)
    (z_sum : PySem.W.nsIn K mainGlobals "sum" = some none)
    (z_tuple : PySem.W.nsIn K mainGlobals "tuple" = some none)
    (z_zip : PySem.W.nsIn K mainGlobals "zip" = some none) :
    ∃ fd : FuncData, (∀ (s : Shared) (u : Value), BindsTo s fd ⟨[u], []⟩ [("_law_script", u)]) ∧ ∀ bs : Heap, K.In bs → bs.Ns mainGlobals mg → FnG l.prog w K mg bs (L2.CX l.prog w) 62 fa fd ["_law_script"] (spLaw K) := by
  have e := hfa.symm.trans (PySem.W.mg_of X G a16)
  cases e
  have Fb := fun_mk (st := s_box) l0 c0 k0
  have Fl := fun_mk (st := s_law) l16 c16 k16
  refine ⟨PySem.W.fnOf "law" "law" (defArgs s_law) (defBody s_law) (defScope s_law) .none kV16 dc16 pm16 an16 cd16 ct16, fun s v => .of_eq rfl, fun bs _ _ => ?_⟩
  have B : Bi mg := ⟨PySem.W.mg_none_of X G z_abs, PySem.W.mg_none_of X G z_all, PySem.W.mg_none_of X G z_any, PySem.W.mg_none_of X G z_bool, PySem.W.mg_none_of X G z_enumerate, PySem.W.mg_none_of X G z_int, PySem.W.mg_none_of X G z_isinstance, PySem.W.mg_none_of X G z_len, PySem.W.mg_none_of X G z_list, PySem.W.mg_none_of X G z_max, PySem.W.mg_none_of X G z_min, PySem.W.mg_none_of X G z_range, PySem.W.mg_none_of X G z_repr, PySem.W.mg_none_of X G z_set, PySem.W.mg_none_of X G z_sorted, PySem.W.mg_none_of X G z_str, PySem.W.mg_none_of X G z_sum, PySem.W.mg_none_of X G z_tuple, PySem.W.mg_none_of X G z_zip⟩
  exact all_ok B (df_mk X G (fun _ _ _ _ _ _ us hl => match us, hl with | [_, _], _ => rfl) a2 l2 c2 k2) (df_mk X G (fun _ _ _ _ _ _ us hl => match us, hl with | [_, _], _ => rfl) a3 l3 c3 k3) (df_mk X G (fun _ _ _ _ _ _ us hl => match us, hl with | [_], _ => rfl) a4 l4 c4 k4) (df_mk X G (fun _ _ _ _ _ _ us hl => match us, hl with | [_, _], _ => rfl) a5 l5 c5 k5) (df_mk X G (fun _ _ _ _ _ _ us hl => match us, hl with | [_, _], _ => rfl) a6 l6 c6 k6) (df_mk X G (fun _ _ _ _ _ _ us hl => match us, hl with | [_, _, _], _ => rfl) a7 l7 c7 k7) (df_mk X G (fun _ _ _ _ _ _ us hl => match us, hl with | [_, _, _], _ => rfl) a8 l8 c8 k8) (df_mk X G (fun _ _ _ _ _ _ us hl => match us, hl with | [_], _ => rfl) a9 l9 c9 k9) (df_mk X G (fun _ _ _ _ _ _ us hl => match us, hl with | [_, _, _], _ => rfl) a10 l10 c10 k10) (df_mk X G (fun _ _ _ _ _ _ us hl => match us, hl with | [_, _], _ => rfl) a11 l11 c11 k11) (df_mk X G (fun _ _ _ _ _ _ us hl => match us, hl with | [_, _], _ => rfl) a12 l12 c12 k12) (df_mk X G (fun _ _ _ _ _ _ us hl => match us, hl with | [_, _], _ => rfl) a13 l13 c13 k13) (df_mk X G (fun _ _ _ _ _ _ us hl => match us, hl with | [_, _, _, _], _ => rfl) a14 l14 c14 k14) (df_mk X G (fun _ _ _ _ _ _ us hl => match us, hl with | [_], _ => rfl) a15 l15 c15 k15) (df_mk X G (fun _ _ _ _ _ _ us hl => match us, hl with | [_, _], _ => rfl) a1 l1 c1 k1)   Fb (PySem.W.mg_of X G a0) (Fb.binds (ps := ["_law_script", "_law_k"]) fun _ _ _ _ _ _ us hl => match us, hl with | [_, _], _ => rfl) Fl
end SF

open PySem PySem.W PyProof.Rows
set_option maxRecDepth 100000 in
set_option maxHeartbeats 0 in
theorem PySem.Challenge.cw_spindlefit_k21_hulls_holds : PySem.Challenge.rw_spindlefit_k21_hulls.Holds := by
  w_on; o_law; k_head; (case hw => w_witness2)
  k_fill
  refine SF.walk_G (l := PySem.Challenge.rw_spindlefit_k21_hulls) (k := 62) (x := "_law_script") (sp := SF.spLaw) rfl rfl ⟨⟨rfl, by decide, by decide⟩, rfl⟩ (fun w h Y => PySem.W.kIn_of Y) ?F (fun K' H a ns hl hS => ⟨a, ns, rfl, hS, hl, fun _ => rfl⟩)
  case F =>
    intro w mg fa h KX G hmg
    refine' SF.all_mk KX G hmg ?a0 ?l0 ?c0 ?k0 ?a1 ?l1 ?c1 ?k1 ?a2 ?l2 ?c2 ?k2 ?a3 ?l3 ?c3 ?k3 ?a4 ?l4 ?c4 ?k4 ?a5 ?l5 ?c5 ?k5 ?a6 ?l6 ?c6 ?k6 ?a7 ?l7 ?c7 ?k7 ?a8 ?l8 ?c8 ?k8 ?a9 ?l9 ?c9 ?k9 ?a10 ?l10 ?c10 ?k10 ?a11 ?l11 ?c11 ?k11 ?a12 ?l12 ?c12 ?k12 ?a13 ?l13 ?c13 ?k13 ?a14 ?l14 ?c14 ?k14 ?a15 ?l15 ?c15 ?k15 ?a16 ?l16 ?c16 ?k16 ?z_abs ?z_all ?z_any ?z_bool ?z_enumerate ?z_int ?z_isinstance ?z_len ?z_list ?z_max ?z_min ?z_range ?z_repr ?z_set ?z_sorted ?z_str ?z_sum ?z_tuple ?z_zip
    (case a0 => k_is)
    (case l0 => k_is)
    (case c0 => k_is)
    (case k0 => k_is)
    (case a1 => k_is)
    (case l1 => k_is)
    (case c1 => k_is)
    (case k1 => k_is)
    (case a2 => k_is)
    (case l2 => k_is)
    (case c2 => k_is)
    (case k2 => k_is)
    (case a3 => k_is)
    (case l3 => k_is)
    (case c3 => k_is)
    (case k3 => k_is)
    (case a4 => k_is)
    (case l4 => k_is)
    (case c4 => k_is)
    (case k4 => k_is)
    (case a5 => k_is)
    (case l5 => k_is)
    (case c5 => k_is)
    (case k5 => k_is)
    (case a6 => k_is)
    (case l6 => k_is)
    (case c6 => k_is)
    (case k6 => k_is)
    (case a7 => k_is)
    (case l7 => k_is)
    (case c7 => k_is)
    (case k7 => k_is)
    (case a8 => k_is)
    (case l8 => k_is)
    (case c8 => k_is)
    (case k8 => k_is)
    (case a9 => k_is)
    (case l9 => k_is)
    (case c9 => k_is)
    (case k9 => k_is)
    (case a10 => k_is)
    (case l10 => k_is)
    (case c10 => k_is)
    (case k10 => k_is)
    (case a11 => k_is)
    (case l11 => k_is)
    (case c11 => k_is)
    (case k11 => k_is)
    (case a12 => k_is)
    (case l12 => k_is)
    (case c12 => k_is)
    (case k12 => k_is)
    (case a13 => k_is)
    (case l13 => k_is)
    (case c13 => k_is)
    (case k13 => k_is)
    (case a14 => k_is)
    (case l14 => k_is)
    (case c14 => k_is)
    (case k14 => k_is)
    (case a15 => k_is)
    (case l15 => k_is)
    (case c15 => k_is)
    (case k15 => k_is)
    (case a16 => k_is)
    (case l16 => k_is)
    (case c16 => k_is)
    (case k16 => k_is)
    (case z_abs => k_is)
    (case z_all => k_is)
    (case z_any => k_is)
    (case z_bool => k_is)
    (case z_enumerate => k_is)
    (case z_int => k_is)
    (case z_isinstance => k_is)
    (case z_len => k_is)
    (case z_list => k_is)
    (case z_max => k_is)
    (case z_min => k_is)
    (case z_range => k_is)
    (case z_repr => k_is)
    (case z_set => k_is)
    (case z_sorted => k_is)
    (case z_str => k_is)
    (case z_sum => k_is)
    (case z_tuple => k_is)
    (case z_zip => k_is)
