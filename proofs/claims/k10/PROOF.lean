import PyProof.Rows.All
import Wide.All
import OpenK.AllK
import Wide.FinOn
import HandS.ForMost
import HandS.ForExc
import HandS.Deep
import HandS.IsInst
import HandS.Flow
import HandS.Style
import HandS.TupAny
import HandS.Zip
import HandS.NoneIn
import HandS.Defaults
import HandS.SortInts
import KE.KDictKeyed
import KE.KeyNested
import HandS.Lambda
import HandS.More
import HandS.Remove
import PyProof.SeqIndex
import KE.KIndexOf
import HandS.SetFor
import HandS.Strs
import HandS.TupMul
import HandS.Conv
import KE.KExcSuper
import HandS.ExcIs
import HandS.ExcField
import HandS.ExcInit
import HandS.ExcValue
import HandS.ExcOwn
import KE.KExcIs
import PyProof.Rows.SortShellAny
import KE.GoesEnum
import KE.DataMinMax
import KE.SortData
import HandS.SetBool
import KE.KDictZip
import KE.KStar
import HandS.Dict
import KE.KDictDisplayH
import HandS.TupSets
import KE.KDictSum
import KE.KEqDict
import KE.DataCmp
import HandS.Finally
import HandS.EndTab
import HandS.FStr
import KE.KTryMore
import HandS.OwnEq
import HandS.Head0
import HandS.Head1
import HandS.Head2
import PySem.Challenge.RW_spindlefit_k10_rings_and_chains
set_option Elab.async false
set_option linter.all false
set_option maxRecDepth 100000
set_option maxHeartbeats 4000000
namespace SFH
open PySem PySem.W PySem.Calls PyProof.Rows
abbrev R : OpenRow := OpenLaw.row PySem.Challenge.rw_spindlefit_k10_rings_and_chains
abbrev qv : Program := view R.prog [26]
def nmP0 : List PySem.Str := ["__name__", "holder", "settled", "follow", "chains", "rings", "way", "_law_box", "_law_take", "_law_pick", "_law_same", "_law_lists", "_law_shuffled", "_law_gauges", "_law_span", "_law_plant", "_law_fits", "_law_store", "_law_after", "_law_deals", "_law_wandered", "_law_goal", "_law_rings", "_law_right"]
def names : List PySem.Str := nmP0
structure HD where
  K : Params → Frag
  as : List Addr
  e : ∀ P, as = (K P).map (·.1)
  z : False → PySem.Challenge.rw_spindlefit_k10_rings_and_chains.Holds
local macro_rules | `(tactic| o_head (kHook $K $as $e)) => `(tactic| (contradiction; exact $K; exact $as; exact $e))
set_option maxHeartbeats 0 in
noncomputable def hd : HD := by
  refine ⟨?K, ?as, ?e, fun z => ?z⟩
  rotate_left 3
  w_on; o_law; k_head
set_option maxHeartbeats 0 in
theorem hrun : ∀ w, HandSHeadRun.RunEq R qv (kHook SFH.hd.K SFH.hd.as SFH.hd.e) (fun s => List.map (HandSHeadRun.getT s) SFH.hd.as) 12000 names w := fun w os => by kernel_rfl
end SFH
namespace SF
open PySem PySem.Spec PyProof.Rows L2
abbrev D := PyData
abbrev St := L2.St
abbrev Fg := PySem.W.Frag
def noH : Hp := fun _ => none
def LsA (H : Hp) (O : List Addr) (a : Addr) (xs : List V) : Prop := H a = some (.lst xs) ∧ a ∉ O
def TpA (K : Fg) (H : Hp) (a : Addr) (xs : List V) : Prop := (∃ o, H a = some (.frz o (.tup xs)) ∧ o.dict = none) ∨ (SqT K noH a xs ∧ ∃ o, K.lookup a = some o ∧ o.dict = none)
mutual
inductive Rp (K : Fg) (H : Hp) (O : List Addr) : V → D → Prop
  | non : Rp K H O .non .none
  | bl (b : Bool) : Rp K H O (.bl b) (.bool b)
  | int (i : Int) : Rp K H O (.int i) (.int i)
  | str (x : Str) : Rp K H O (.str x) (.str x)
  | lst {a : Addr} {xs : List V} {ds : List D} : LsA H O a xs → RpL K H O xs ds → Rp K H O (.ref a) (.list ds)
  | tup {a : Addr} {xs : List V} {ds : List D} : TpA K H a xs → RpL K H O xs ds → Rp K H O (.ref a) (.tuple ds)
inductive RpL (K : Fg) (H : Hp) (O : List Addr) : List V → List D → Prop
  | nil : RpL K H O [] []
  | cons {v : V} {vs : List V} {d : D} {ds : List D} : Rp K H O v d → RpL K H O vs ds → RpL K H O (v :: vs) (d :: ds)
end
noncomputable def prt : HO → Bool
  | .lst _ => true
  | .dK _ => true
  | .ext f => @decide (¬ ∃ c q, HO.ext f = LamX.CodeO c q) (Classical.propDecidable _)
  | .ins _ _ _ => true
  | .tbl _ => true
  | _ => false
def LO (O : List Addr) (H : Hp) : Prop := ∀ p ∈ O, ∃ o, H p = some o ∧ prt o = true
def Keep (O : List Addr) (H H' : Hp) : Prop := ∀ a o, H a = some o → a ∉ O → H' a = some o
def Grow (O O' : List Addr) (H : Hp) : Prop := ∀ p ∈ O', p ∈ O ∨ H p = none
section
variable {K : Fg} {H H' : Hp} {O O' : List Addr}
theorem LsA.seq {a : Addr} {xs : List V} (h : LsA H O a xs) : SqL K H a xs := .inl (.inl h.1)
theorem Rd.keep {a : Addr} {u : HO} (k : Keep O H H') (n : a ∉ O) (h : Rd H a u) : Rd H' a u := by
  rcases h with h | ⟨o, h⟩
  · exact .inl (k _ _ h n)
  · exact .inr ⟨o, k _ _ h n⟩
theorem LsA.mv {a : Addr} {xs : List V} (k : Keep O H H') (g : Grow O O' H) (h : LsA H O a xs) : LsA H' O' a xs := by
  obtain ⟨h, n⟩ := h
  refine ⟨k _ _ h n, fun z => ?_⟩
  rcases g a z with z | z
  · exact n z
  · rw [h] at z; cases z
theorem TpA.seq {a : Addr} {xs : List V} (h : TpA K H a xs) : SqT K H a xs := by
  rcases h with ⟨o, h, _⟩ | ⟨h, _⟩
  · exact .inl (.inr ⟨o, h⟩)
  · rcases h with (h | ⟨_, h⟩) | h
    · cases h
    · cases h
    · exact .inr h
theorem TpA.mv {a : Addr} {xs : List V} (lo : LO O H) (k : Keep O H H') (h : TpA K H a xs) : TpA K H' a xs := by
  rcases h with ⟨o, h, d⟩ | h
  · refine .inl ⟨o, k _ _ h fun z => ?_, d⟩
    obtain ⟨ys, e, q⟩ := lo a z
    rw [e] at h; cases h; cases q
  · exact .inr h
theorem SqT.mv {a : Addr} {xs : List V} (lo : LO O H) (k : Keep O H H') (h : SqT K H a xs) : SqT K H' a xs := by
  rcases h with h | h
  · refine .inl (Rd.keep k (fun z => ?_) h)
    obtain ⟨ys, e, q⟩ := lo a z
    rcases h with h | ⟨o, h⟩
    · rw [e] at h; cases h; cases q
    · rw [e] at h; cases h; cases q
  · exact .inr h
mutual
theorem Rp.mv (lo : LO O H) (k : Keep O H H') (g : Grow O O' H) : ∀ {v : V} {d : D}, Rp K H O v d → Rp K H' O' v d
  | _, _, .non => .non
  | _, _, .bl b => .bl b
  | _, _, .int i => .int i
  | _, _, .str x => .str x
  | _, _, .lst h r => .lst (h.mv k g) (RpL.mv lo k g r)
  | _, _, .tup h r => .tup (TpA.mv lo k h) (RpL.mv lo k g r)
theorem RpL.mv (lo : LO O H) (k : Keep O H H') (g : Grow O O' H) : ∀ {vs : List V} {ds : List D}, RpL K H O vs ds → RpL K H' O' vs ds
  | _, _, .nil => .nil
  | _, _, .cons h r => .cons (Rp.mv lo k g h) (RpL.mv lo k g r)
end
mutual
theorem Rp.dp : ∀ {v : V} {d : D}, Rp K H O v d → Dp K H v d
  | _, _, .non => .non
  | _, _, .bl b => .bl b
  | _, _, .int i => .int i
  | _, _, .str x => .str x
  | _, _, .lst h r => .lst (LsA.seq h) (RpL.dp r)
  | _, _, .tup h r => .tup (TpA.seq h) (RpL.dp r)
theorem RpL.dp : ∀ {vs : List V} {ds : List D}, RpL K H O vs ds → DpAll K H vs ds
  | _, _, .nil => .nil
  | _, _, .cons h r => .cons (Rp.dp h) (RpL.dp r)
end
theorem RpL.length : ∀ {vs : List V} {ds : List D}, RpL K H O vs ds → vs.length = ds.length
  | _, _, .nil => rfl
  | _, _, .cons _ r => by rw [List.length_cons, List.length_cons, RpL.length r]
theorem RpL.get : ∀ {vs : List V} {ds : List D} {i : Nat} {d : D}, RpL K H O vs ds → ds[i]? = some d → ∃ v, vs[i]? = some v ∧ Rp K H O v d
  | _, _, _, _, .nil, e => by simp at e
  | _, _, 0, _, .cons h _, e => by simp at e; subst e; exact ⟨_, rfl, h⟩
  | _, _, i + 1, d, .cons _ r, e => by
    obtain ⟨v, h1, h2⟩ := RpL.get (i := i) (d := d) r (by simpa using e)
    exact ⟨v, by simpa using h1, h2⟩
theorem RpL.getV : ∀ {vs : List V} {ds : List D} {i : Nat} {v : V}, RpL K H O vs ds → vs[i]? = some v → ∃ d, ds[i]? = some d ∧ Rp K H O v d
  | _, _, _, _, .nil, e => by simp at e
  | _, _, 0, _, .cons h _, e => by simp at e; subst e; exact ⟨_, rfl, h⟩
  | _, _, i + 1, d, .cons _ r, e => by
    obtain ⟨v, h1, h2⟩ := RpL.getV (i := i) (v := d) r (by simpa using e)
    exact ⟨v, by simpa using h1, h2⟩
theorem RpL.append : ∀ {vs ws : List V} {ds es : List D}, RpL K H O vs ds → RpL K H O ws es → RpL K H O (vs ++ ws) (ds ++ es)
  | _, _, _, _, .nil, s => s
  | _, _, _, _, .cons h r, s => .cons h (RpL.append r s)
theorem RpL.take : ∀ {vs : List V} {ds : List D} (n : Nat), RpL K H O vs ds → RpL K H O (vs.take n) (ds.take n)
  | _, _, 0, _ => by simp only [List.take_zero]; exact .nil
  | _, _, _ + 1, .nil => by simp only [List.take_nil]; exact .nil
  | _, _, n + 1, .cons h r => by simp only [List.take_succ_cons]; exact .cons h (RpL.take n r)
theorem RpL.drop : ∀ {vs : List V} {ds : List D} (n : Nat), RpL K H O vs ds → RpL K H O (vs.drop n) (ds.drop n)
  | _, _, 0, r => by simpa only [List.drop_zero] using r
  | _, _, _ + 1, .nil => by simp only [List.drop_nil]; exact .nil
  | _, _, n + 1, .cons _ r => by simp only [List.drop_succ_cons]; exact RpL.drop n r
theorem RpL.set {v : V} {d : D} (h : Rp K H O v d) : ∀ {vs : List V} {ds : List D} (i : Nat), RpL K H O vs ds → RpL K H O (vs.set i v) (ds.set i d)
  | _, _, _, .nil => .nil
  | _, _, 0, .cons _ r => .cons h r
  | _, _, i + 1, .cons q r => .cons q (RpL.set h i r)
theorem RpL.erase : ∀ {vs : List V} {ds : List D} (i : Nat), RpL K H O vs ds → RpL K H O (vs.eraseIdx i) (ds.eraseIdx i)
  | _, _, _, .nil => .nil
  | _, _, 0, .cons _ r => r
  | _, _, i + 1, .cons q r => .cons q (RpL.erase i r)
theorem RpL.one {v : V} {d : D} (h : Rp K H O v d) : RpL K H O [v] [d] := .cons h .nil
end
mutual
def flat : D → Bool
  | .none => true
  | .bool _ => true
  | .int _ => true
  | .str _ => true
  | .tuple xs => flatL xs
  | .list _ => false
  | .dict _ => false
def flatL : List D → Bool
  | [] => true
  | d :: ds => flat d && flatL ds
end
section
variable {K : Fg} {H : Hp} {O O' : List Addr}
mutual
theorem Rp.flat : ∀ {v : V} {d : D}, Rp K H O v d → SF.flat d = true → Rp K H O' v d
  | _, _, .non, _ => .non
  | _, _, .bl b, _ => .bl b
  | _, _, .int i, _ => .int i
  | _, _, .str x, _ => .str x
  | _, _, .lst _ _, h => by simp [SF.flat] at h
  | _, _, .tup h r, f => .tup h (RpL.flat r (by simpa [SF.flat] using f))
theorem RpL.flat : ∀ {vs : List V} {ds : List D}, RpL K H O vs ds → SF.flatL ds = true → RpL K H O' vs ds
  | _, _, .nil, _ => .nil
  | _, _, .cons h r, f => by
    simp only [SF.flatL, Bool.and_eq_true] at f
    exact .cons (Rp.flat h f.1) (RpL.flat r f.2)
end
end
structure Ab where
  inn : List Addr
  at_ : Fg → Hp → List Addr → Addr → Prop
  mv : ∀ {K : Fg} {H H' : Hp} {O O' : List Addr} {p : Addr}, LO O H → Keep O H H' → Grow O O' H → (∀ q, q = p ∨ q ∈ inn → ∀ o, H q = some o → H' q = some o) → at_ K H O p → at_ K H' O' p
  less : ∀ {K : Fg} {H : Hp} {O O' : List Addr} {p : Addr}, (∀ q ∈ O', q ∈ O) → at_ K H O p → at_ K H O' p
  nd : ∀ {K : Fg} {H : Hp} {O : List Addr} {p : Addr}, at_ K H O p → (p :: inn).Nodup
  pr : ∀ {K : Fg} {H : Hp} {O : List Addr} {p : Addr}, at_ K H O p → ∀ q, q = p ∨ q ∈ inn → ∃ o, H q = some o ∧ prt o = true
inductive Mu where
  | lst (xs : List D)
  | dK (kvs : List (Int × D))
  | dT (kvs : List (D × D))
  | ab (A : Ab)
def innM : Mu → List Addr
  | .ab A => A.inn
  | _ => []
mutual
def nkD : D → Option NestedKey
  | .none => some .none
  | .bool b => some (.num (if b then 1 else 0))
  | .int i => some (.num i)
  | .tuple xs => (nkL xs).map .tup
  | _ => none
def nkL : List D → Option (List NestedKey)
  | [] => some []
  | x :: xs => match nkD x, nkL xs with
    | some k, some r => some (k :: r)
    | _, _ => none
end
def NdO (p : Addr) (es : List (NestedKey × Addr × V)) : HO := .ext fun h => ∃ (us : List (NestedKey × Addr × Value)) (w0 : World) (o : Obj) (ds : Array DictEntry) (ep : Nat), Paired (fun (e : NestedKey × Addr × V) (u : NestedKey × Addr × Value) => u.1 = e.1 ∧ u.2.1 = e.2.1 ∧ RelV e.2.2 u.2.2) es us ∧
  h.get? p = some o ∧ o.ExactDict ∧ o.data = .dict ds ep ∧ ds.toList = us.map (fun u => (⟨u.1.hash w0, .ref u.2.1, u.2.2⟩ : DictEntry)) ∧ (us.map (·.1)).Nodup ∧ (p == sysModules) = false ∧ ∀ e ∈ es, e.1.depth ≤ 8
theorem prt_nd {p : Addr} {es : List (NestedKey × Addr × V)} : prt (NdO p es) = true := by
  unfold NdO prt
  simp only [decide_eq_true_eq]
  rintro ⟨c, q, e⟩
  unfold LamX.CodeO at e
  have e := HO.ext.inj e
  have h1 : (Heap.mk (Array.replicate (max p c + 1) ⟨.none, none, .fields #[.none, (Value.str q 0)], #[]⟩) {}).get? c = some ⟨.none, none, .fields #[.none, (Value.str q 0)], #[]⟩ := by
    unfold Heap.get?
    rw [Array.getElem?_replicate, if_pos (by omega)]
  have h2 : (Heap.mk (Array.replicate (max p c + 1) ⟨.none, none, .fields #[.none, (Value.str q 0)], #[]⟩) {}).get? p = some ⟨.none, none, .fields #[.none, (Value.str q 0)], #[]⟩ := by
    unfold Heap.get?
    rw [Array.getElem?_replicate, if_pos (by omega)]
  have k := congrFun e (Heap.mk (Array.replicate (max p c + 1) ⟨.none, none, .fields #[.none, (Value.str q 0)], #[]⟩) {})
  have k2 := k.mpr ⟨_, _, _, h1, rfl, rfl⟩
  obtain ⟨us, w0, o, ds, ep, _, g, _, gd, _⟩ := k2
  rw [h2] at g
  cases g
  cases gd
def MuAt (K : Fg) (H : Hp) (O : List Addr) (p : Addr) : Mu → Prop
  | .lst xs => ∃ vs, H p = some (.lst vs) ∧ RpL K H O vs xs
  | .dK kvs => ∃ es : List (L2.Key × V), H p = some (.dK es) ∧ es.map (·.1) = kvs.map (fun kv => Sum.inl kv.1) ∧ RpL K H O (es.map (·.2)) (kvs.map (·.2))
  | .dT kvs => ∃ es : List (NestedKey × Addr × V), H p = some (NdO p es) ∧ kvs.map (fun kv => nkD kv.1) = es.map (fun e => some e.1) ∧ RpL K H O (es.map fun e => V.ref e.2.1) (kvs.map (·.1)) ∧ RpL K H O (es.map (·.2.2)) (kvs.map (·.2))
  | .ab A => A.at_ K H O p
theorem MuAt.mv {K : Fg} {H H' : Hp} {O O' : List Addr} {p : Addr} {c : Mu} (lo : LO O H) (k : Keep O H H') (g : Grow O O' H) (hp : ∀ q, q = p ∨ q ∈ innM c → ∀ o, H q = some o → H' q = some o) (h : MuAt K H O p c) : MuAt K H' O' p c := by
  cases c with
  | lst xs => obtain ⟨vs, h1, h2⟩ := h; exact ⟨vs, hp _ (.inl rfl) _ h1, RpL.mv lo k g h2⟩
  | dK kvs => obtain ⟨es, h1, h2, h3⟩ := h; exact ⟨es, hp _ (.inl rfl) _ h1, h2, RpL.mv lo k g h3⟩
  | dT kvs => obtain ⟨es, h1, h2, h3, h4⟩ := h; exact ⟨es, hp _ (.inl rfl) _ h1, h2, RpL.mv lo k g h3, RpL.mv lo k g h4⟩
  | ab A => exact A.mv lo k g hp h
theorem MuAt.prtA {K : Fg} {H : Hp} {O : List Addr} {p : Addr} {c : Mu} (h : MuAt K H O p c) {q : Addr} (hq : q = p ∨ q ∈ innM c) : ∃ o, H q = some o ∧ SF.prt o = true := by
  cases c with
  | lst xs => obtain ⟨vs, h1, h2⟩ := h; rcases hq with rfl | hq; · exact ⟨_, h1, rfl⟩
              · cases hq
  | dK kvs => obtain ⟨es, h1, h2, h3⟩ := h; rcases hq with rfl | hq; · exact ⟨_, h1, rfl⟩
              · cases hq
  | dT kvs => obtain ⟨es, h1, h2, h3, h4⟩ := h; rcases hq with rfl | hq; · exact ⟨_, h1, prt_nd⟩
              · cases hq
  | ab A => exact A.pr h q hq
theorem MuAt.nd {K : Fg} {H : Hp} {O : List Addr} {p : Addr} {c : Mu} (h : MuAt K H O p c) : (p :: innM c).Nodup := by
  cases c with
  | lst xs => exact List.nodup_cons.mpr ⟨by simp [innM], List.nodup_nil⟩
  | dK xs => exact List.nodup_cons.mpr ⟨by simp [innM], List.nodup_nil⟩
  | dT xs => exact List.nodup_cons.mpr ⟨by simp [innM], List.nodup_nil⟩
  | ab A => exact A.nd h
inductive DV where
  | d (x : D)
  | own (xs : List D)
  | box
  | mu (c : Mu) (p : Addr)
  | slot (i : Nat)
  | exc (nm : Str) (fo : Option (Str × D))
  | fd (c : Mu)
structure DS where
  sl : List (Option DV)
  n : Nat
def BoxAt (H : Hp) (p : Addr) (n : Nat) : Prop := ∃ x y c : Int, H p = some (.lst [.int x, .int y, .int c]) ∧ 0 ≤ x ∧ 0 ≤ y ∧ y < 4294967296 ∧ 0 ≤ c ∧ c + n ≤ 1099511627776
structure Fx where
  Hin : Hp
  B : List Addr
  O : List Addr
  M : List Addr := []
def isMut : DV → Prop
  | .own _ => True
  | .box => True
  | .mu _ _ => True
  | _ => False
def innD : DV → List Addr
  | .mu c _ => innM c
  | _ => []
def MutAt (σ : St) (ds : DS) (i : Nat) (p : Addr) : Prop := ∃ r, σ[i]? = some (some (.ref r)) ∧ ∃ dv, ds.sl[i]? = some (some dv) ∧ isMut dv ∧ (p = r ∨ p ∈ innD dv)
theorem mutAt {σ : St} {ds : DS} {i : Nat} {p : Addr} {dv : DV} (h1 : σ[i]? = some (some (.ref p))) (h2 : ds.sl[i]? = some (some dv)) (h : isMut dv) : MutAt σ ds i p := ⟨p, h1, dv, h2, h, .inl rfl⟩
theorem mutAtM {σ : St} {ds : DS} {i : Nat} {p q : Addr} {c : Mu} (h1 : σ[i]? = some (some (.ref p))) (h2 : ds.sl[i]? = some (some (.mu c p))) (h : q = p ∨ q ∈ innM c) : MutAt σ ds i q := ⟨p, h1, _, h2, trivial, h⟩
def Cl (K : Fg) (nm : Str) (c : Addr) : Prop := PySem.W.nsIn K mainGlobals nm = some (some (.ref c))
def XO (cv : Value) (od : Option Addr) (a : Addr) : HO := .ext fun h => ∃ (oe : Obj) (vs : Array Value), h.get? a = some oe ∧ Zc cv od oe ∧ oe.data = .fields vs
def Fld (K : Fg) (H : Hp) (O : List Addr) (od : Option Addr) : Option (Str × D) → Prop
  | some (fl, x) => ∃ d v, od = some d ∧ H d = some (.xd [(fl, v)]) ∧ Rp K H O v x
  | none => od = none
def ExS (K : Fg) (H : Hp) (O : List Addr) (v : V) (nm : Str) (fo : Option (Str × D)) : Prop := ∃ a c od, v = .ref a ∧ Cl K nm c ∧ (H a = some (XO (.ref c) od a) ∧ a ∉ O) ∧ Fld K H O od fo
section
variable {K : Fg} {H H' : Hp} {O O' : List Addr} {v : V} {nm : Str} {fo : Option (Str × D)}
theorem Fld.mv {od : Option Addr} (lo : LO O H) (k : Keep O H H') (g : Grow O O' H) (h : Fld K H O od fo) : Fld K H' O' od fo := by
  cases fo with
  | none => exact h
  | some q =>
    obtain ⟨fl, x⟩ := q
    obtain ⟨d, u, e, h1, h2⟩ := h
    refine ⟨d, u, e, k _ _ h1 fun z => ?_, Rp.mv lo k g h2⟩
    obtain ⟨ys, e', q⟩ := lo d z
    rw [h1] at e'; cases e'; cases q
theorem ExS.mv (lo : LO O H) (k : Keep O H H') (g : Grow O O' H) (h : ExS K H O v nm fo) : ExS K H' O' v nm fo := by
  obtain ⟨a, c, od, e, hc, ⟨h1, n1⟩, h2⟩ := h
  refine ⟨a, c, od, e, hc, ⟨k _ _ h1 n1, fun z => ?_⟩, h2.mv lo k g⟩
  rcases g a z with z | z
  · exact n1 z
  · rw [h1] at z; cases z
end
def FdAt (K : Fg) (H : Hp) (O : List Addr) (p : Addr) : Mu → Prop
  | .lst _ => False
  | .ab _ => False
  | .dK kvs => ∃ (o : Obj) (es : List (L2.Key × V)), H p = some (.frz o (.dK es)) ∧ es.map (·.1) = kvs.map (fun kv => Sum.inl kv.1) ∧ RpL K H O (es.map (·.2)) (kvs.map (·.2))
  | .dT kvs => ∃ (o : Obj) (es : List (NestedKey × Addr × V)), H p = some (.frz o (NdO p es)) ∧ kvs.map (fun kv => nkD kv.1) = es.map (fun e => some e.1) ∧ RpL K H O (es.map fun e => V.ref e.2.1) (kvs.map (·.1)) ∧ RpL K H O (es.map (·.2.2)) (kvs.map (·.2))
def FdS (K : Fg) (H : Hp) (O : List Addr) (v : V) (c : Mu) : Prop := ∃ p, v = .ref p ∧ p ∉ O ∧ FdAt K H O p c
theorem FdS.mv {K : Fg} {H H' : Hp} {O O' : List Addr} {v : V} {c : Mu} (lo : LO O H) (k : Keep O H H') (g : Grow O O' H) (h : FdS K H O v c) : FdS K H' O' v c := by
  obtain ⟨p, e, n, m⟩ := h
  have q : ∃ o, H p = some o := by
    cases c with
    | lst xs => exact m.elim
    | ab A => exact m.elim
    | dK kvs => obtain ⟨o, es, h1, _⟩ := m; exact ⟨_, h1⟩
    | dT kvs => obtain ⟨o, es, h1, _⟩ := m; exact ⟨_, h1⟩
  obtain ⟨o0, q⟩ := q
  refine ⟨p, e, fun z => ?_, ?_⟩
  · rcases g p z with z | z
    · exact n z
    · rw [q] at z; cases z
  · cases c with
    | lst xs => exact m.elim
    | ab A => exact m.elim
    | dK kvs => obtain ⟨o, es, h1, h2, h3⟩ := m; exact ⟨o, es, k p _ h1 n, h2, RpL.mv lo k g h3⟩
    | dT kvs => obtain ⟨o, es, h1, h2, h3, h4⟩ := m; exact ⟨o, es, k p _ h1 n, h2, RpL.mv lo k g h3, RpL.mv lo k g h4⟩
def RpS (K : Fg) (H : Hp) (O : List Addr) (n : Nat) (v : V) : DV → Prop
  | .d x => Rp K H O v x
  | .own xs => ∃ p vs, v = .ref p ∧ p ∈ O ∧ H p = some (.lst vs) ∧ RpL K H O vs xs
  | .box => ∃ p, v = .ref p ∧ p ∈ O ∧ BoxAt H p n
  | .mu c p => v = .ref p ∧ (∀ q, q = p ∨ q ∈ innM c → q ∈ O) ∧ MuAt K H O p c
  | .slot _ => False
  | .exc nm fo => ExS K H O v nm fo
  | .fd c => FdS K H O v c
def BoxS (σ : St) (ds : DS) (i : Nat) (p : Addr) : Prop := σ[i]? = some (some (.ref p)) ∧ ds.sl[i]? = some (some .box)
structure Rep (K : Fg) (F : Fx) (H : Hp) (O : List Addr) (σ : St) (ds : DS) : Prop where
  lo : LO O H
  sub : ∀ p ∈ F.O, p ∈ O
  ext : Keep F.B F.Hin H
  sl : ∀ (i : Nat) (dv : DV), ds.sl[i]? = some (some dv) → ∃ v, σ[i]? = some (some v) ∧ RpS K H O ds.n v dv
  mu : ∀ (i j : Nat) (p : Addr), MutAt σ ds i p → MutAt σ ds j p → i = j
  new : ∀ (i : Nat) (p : Addr), MutAt σ ds i p → F.Hin p = none ∨ p ∈ F.B
  newO : ∀ (i : Nat) (p : Addr) (xs : List D), σ[i]? = some (some (.ref p)) → ds.sl[i]? = some (some (.own xs)) → F.Hin p = none
  bx : ∀ p ∈ F.B, p ∈ F.M ∨ BoxAt H p ds.n
  bu : ∀ (i : Nat) (p : Addr), BoxS σ ds i p → ∀ q ∈ F.B, q = p ∨ q ∈ F.M
  b1 : ∀ (i j : Nat) (p q : Addr), BoxS σ ds i p → BoxS σ ds j q → i = j
  fo : ∀ p ∈ F.O, F.Hin p ≠ none
  bo : ∀ p ∈ F.B, p ∈ F.O
  len : ds.sl.length = σ.length
  nm : ∀ (i : Nat) (c : Mu) (p q : Addr), ds.sl[i]? = some (some (.mu c p)) → MutAt σ ds i q → F.Hin q = none ∨ q ∈ F.M
structure Step (σ : St) (H : Hp) (O : List Addr) (ds : DS) (H' : Hp) (O' : List Addr) (ds' : DS) : Prop where
  o1 : Grow O O' H
  o2 : ∀ p ∈ O, (∀ i, ¬ MutAt σ ds i p) → p ∈ O'
  kp : ∀ a o, H a = some o → (∀ i, ¬ MutAt σ ds i a) → H' a = some o
  dm : ∀ a, H a ≠ none → H' a ≠ none
  sl : ∀ (i : Nat) (dv : DV), ds.sl[i]? = some (some dv) → ∃ dv', ds'.sl[i]? = some (some dv')
  mu : ∀ i p, MutAt σ ds' i p → MutAt σ ds i p
  bx : ∀ i p, BoxS σ ds' i p → BoxS σ ds i p
def RpV (K : Fg) (F : Fx) (H : Hp) (O O' : List Addr) (σ : St) (ds : DS) (v : V) : DV → Prop
  | .d x => Rp K H O' v x
  | .own xs => ∃ p vs, v = .ref p ∧ p ∈ O' ∧ p ∉ O ∧ F.Hin p = none ∧ H p = some (.lst vs) ∧ RpL K H O' vs xs
  | .box => False
  | .mu c p => v = .ref p ∧ (∀ q, q = p ∨ q ∈ innM c → q ∈ O' ∧ q ∉ O ∧ F.Hin q = none) ∧ MuAt K H O' p c
  | .slot i => σ[i]? = some (some v) ∧ ∃ dv, ds.sl[i]? = some (some dv)
  | .exc _ _ => False
  | .fd c => FdS K H O' v c
section
variable {K : Fg} {F : Fx} {H H1 H2 : Hp} {O O1 O2 : List Addr} {σ : St} {ds ds1 ds2 : DS} {v : V} {dv : DV} {d : D}
theorem Rep.mutO (R : Rep K F H O σ ds) {i : Nat} {p : Addr} (h : MutAt σ ds i p) : p ∈ O := by
  obtain ⟨r, h1, dv, h2, h3, h4⟩ := h
  obtain ⟨v, e, rr⟩ := R.sl i dv h2
  rw [h1] at e
  cases e
  cases dv with
  | d x => exact h3.elim
  | own xs => obtain ⟨q, vs, e, h, _⟩ := rr; cases e; rcases h4 with rfl | h4; · exact h
              · cases h4
  | box => obtain ⟨q, e, h, _⟩ := rr; cases e; rcases h4 with rfl | h4; · exact h
           · cases h4
  | mu c q => obtain ⟨e, h, _⟩ := rr; cases e; exact h p h4
  | slot j => exact h3.elim
  | exc a b => exact h3.elim
  | fd xc => exact h3.elim
theorem Rep.mutP (R : Rep K F H O σ ds) {i : Nat} {c : Mu} {p q : Addr} (h : ds.sl[i]? = some (some (.mu c p))) (hq : q = p ∨ q ∈ innM c) : MutAt σ ds i q := by
  obtain ⟨v, e, rr⟩ := R.sl i _ h
  obtain ⟨e1, _⟩ := rr
  subst e1
  exact mutAtM e h hq
theorem Step.refl : Step σ H O ds H O ds := ⟨fun _ h => .inl h, fun _ h _ => h, fun _ _ h _ => h, fun _ h => h, fun _ _ h => ⟨_, h⟩, fun _ _ h => h, fun _ _ h => h⟩
theorem Step.trans (a : Step σ H O ds H1 O1 ds1) (b : Step σ H1 O1 ds1 H2 O2 ds2) : Step σ H O ds H2 O2 ds2 where
  o1 := fun p hp => by
    rcases b.o1 p hp with h | h
    · exact a.o1 p h
    · right
      cases e : H p with
      | none => rfl
      | some o => exact absurd h (a.dm p (by rw [e]; simp))
  o2 := fun p hp hn => b.o2 p (a.o2 p hp hn) fun i hi => hn i (a.mu i p hi)
  kp := fun x o h hn => b.kp x o (a.kp x o h hn) fun i hi => hn i (a.mu i x hi)
  dm := fun x h => b.dm x (a.dm x h)
  sl := fun i dv h => by
    obtain ⟨dv1, h1⟩ := a.sl i dv h
    exact b.sl i dv1 h1
  mu := fun i p h => a.mu i p (b.mu i p h)
  bx := fun i p h => a.bx i p (b.bx i p h)
theorem Step.keepO (R : Rep K F H1 O1 σ ds1) (s : Step σ H1 O1 ds1 H2 O2 ds2) : Keep O1 H1 H2 := fun a o h n => s.kp a o h fun _ hm => n (R.mutO hm)
theorem RpV.step (R : Rep K F H1 O1 σ ds1) (hO : ∀ p, (∃ i, MutAt σ ds1 i p) → p ∈ O) (h : RpV K F H1 O O1 σ ds1 v dv) (s : Step σ H1 O1 ds1 H2 O2 ds2) : RpV K F H2 O O2 σ ds2 v dv := by
  cases dv with
  | d x => exact Rp.mv R.lo (s.keepO R) s.o1 h
  | own xs =>
    obtain ⟨p, vs, e, h1, h2, h3, h4, h5⟩ := h
    have nm : ∀ i, ¬ MutAt σ ds1 i p := fun i hi => h2 (hO p ⟨i, hi⟩)
    exact ⟨p, vs, e, s.o2 p h1 nm, h2, h3, s.kp p _ h4 nm, RpL.mv R.lo (s.keepO R) s.o1 h5⟩
  | box => exact h.elim
  | mu c p =>
    obtain ⟨e, h1, h5⟩ := h
    have nm : ∀ q, q = p ∨ q ∈ innM c → ∀ i, ¬ MutAt σ ds1 i q := fun q hq i hi => (h1 q hq).2.1 (hO q ⟨i, hi⟩)
    exact ⟨e, fun q hq => ⟨s.o2 q (h1 q hq).1 (nm q hq), (h1 q hq).2⟩, MuAt.mv R.lo (s.keepO R) s.o1 (fun q hq o ho => s.kp q o ho (nm q hq)) h5⟩
  | slot i =>
    obtain ⟨h1, dv, h2⟩ := h
    exact ⟨h1, s.sl i dv h2⟩
  | exc a b => exact h.elim
  | fd xc => exact FdS.mv R.lo (s.keepO R) s.o1 h
end
abbrev DTE := DS → (DV → DS → Prop) → Prop
abbrev DTT := DS → (Bool → DS → Prop) → Prop
abbrev DTA := DS → (List DV → DS → Prop) → Prop
def OwnT (v : V) (dv : DV) (p : Addr) : Prop := match dv with
  | .own _ => v = .ref p
  | .mu c r => p = r ∨ p ∈ innM c
  | _ => False
def Apt (v : V) (x : DV) (w : V) (y : DV) : Prop := ∀ p, OwnT v x p → OwnT w y p → False
def RpVs (K : Fg) (F : Fx) (H : Hp) (O O' : List Addr) (σ : St) (ds : DS) (vs : List V) (dvs : List DV) : Prop :=
  Paired (RpV K F H O O' σ ds) vs dvs ∧ ∀ (i j : Nat) (v w : V) (x y : DV), i ≠ j → vs[i]? = some v → vs[j]? = some w → dvs[i]? = some x → dvs[j]? = some y → Apt v x w y
def lift (K : Fg) (F : Fx) (t : DTE) : TE := fun σ H Q => ∃ O ds Qa, Rep K F H O σ ds ∧ t ds Qa ∧
  ∀ dv ds' v H' O', Step σ H O ds H' O' ds' → Rep K F H' O' σ ds' → RpV K F H' O O' σ ds' v dv → Qa dv ds' → Q v H'
def liftT (K : Fg) (F : Fx) (t : DTT) : TT := fun σ H Q => ∃ O ds Qa, Rep K F H O σ ds ∧ t ds Qa ∧
  ∀ b ds' H' O', Step σ H O ds H' O' ds' → Rep K F H' O' σ ds' → Qa b ds' → Q b H'
def liftA (K : Fg) (F : Fx) (t : DTA) : TA := fun σ H Q => ∃ O ds Qa, Rep K F H O σ ds ∧ t ds Qa ∧
  ∀ dvs ds' vs H' O', Step σ H O ds H' O' ds' → Rep K F H' O' σ ds' → RpVs K F H' O O' σ ds' vs dvs → Qa dvs ds' → Q vs H'
abbrev DE (X : Cx) (F : Fx) (e : Expr) (t : DTE) : Prop := PE X e (lift X.K F t)
abbrev DT (X : Cx) (F : Fx) (e : Expr) (t : DTT) : Prop := PT X e (liftT X.K F t)
abbrev DA (X : Cx) (F : Fx) (es : List Expr) (t : DTA) : Prop := PA X es (liftA X.K F t)
theorem PE_imp {X : Cx} {e : Expr} {t t' : TE} (h : PE X e t) (hi : ∀ σ H Q, t' σ H Q → t σ H Q) : PE X e t' := ⟨fun pins s σ H Q I q => h.run pins s σ H Q I (hi _ _ _ q)⟩
theorem PT_imp {X : Cx} {e : Expr} {t t' : TT} (h : PT X e t) (hi : ∀ σ H Q, t' σ H Q → t σ H Q) : PT X e t' := ⟨fun pins s σ H Q I q => h.run pins s σ H Q I (hi _ _ _ q)⟩
theorem PA_imp {X : Cx} {es : List Expr} {t t' : TA} (h : PA X es t) (hi : ∀ σ H Q, t' σ H Q → t σ H Q) : PA X es t' := ⟨fun pos pins s σ H Q I q => h.run pos pins s σ H Q I (hi _ _ _ q)⟩
theorem PS_imp {X : Cx} {st : Stmt} {t t' : TS} (h : PS X st t) (hi : ∀ D σ H, t' D σ H → t D σ H) : PS X st t' := ⟨fun pins s σ H D I q => h.run pins s σ H D I (hi _ _ _ q)⟩
theorem PSs_imp {X : Cx} {st : List Stmt} {t t' : TS} (h : PSs X st t) (hi : ∀ D σ H, t' D σ H → t D σ H) : PSs X st t' := ⟨fun pins s σ H D I q => h.run pins s σ H D I (hi _ _ _ q)⟩
theorem PG_imp {X : Cx} {e : Expr} {t t' : TG} (h : PG X e t) (hi : ∀ v σ H Q, t' v σ H Q → t v σ H Q) : PG X e t' := ⟨fun pins s σ H v u Q I r q => h.run pins s σ H v u Q I r (hi _ _ _ _ q)⟩
section
variable {K : Fg} {F : Fx} {H H' H1 H2 : Hp} {O O' O1 O2 : List Addr} {σ : St} {ds ds1 ds2 : DS} {v : V} {dv : DV} {d : D}
theorem same_keep (sm : Same H H') : Keep O H H' := fun a o h _ => sm a o h
theorem RpS.grow {n : Nat} (lo : LO O H) (sm : Same H H') (g : Grow O O' H) (sub : ∀ p ∈ O, p ∈ O') : ∀ {v : V} {dv : DV}, RpS K H O n v dv → RpS K H' O' n v dv
  | _, .d x, h => Rp.mv lo (same_keep sm) g h
  | _, .own xs, ⟨p, vs, e, h1, h2, h3⟩ => ⟨p, vs, e, sub p h1, sm _ _ h2, RpL.mv lo (same_keep sm) g h3⟩
  | _, .box, ⟨p, e, h1, x, y, c, h2, h3⟩ => ⟨p, e, sub p h1, x, y, c, sm _ _ h2, h3⟩
  | _, .mu c p, ⟨e, h1, h2⟩ => ⟨e, fun q hq => sub q (h1 q hq), MuAt.mv lo (same_keep sm) g (fun q _ o h => sm q o h) h2⟩
  | _, .slot _, h => h
  | _, .exc _ _, h => ExS.mv lo (same_keep sm) g h
  | _, .fd _, h => FdS.mv lo (same_keep sm) g h
theorem Rep.grow (R : Rep K F H O σ ds) (sm : Same H H') (g : Grow O O' H) (sub : ∀ p ∈ O, p ∈ O') (lo : LO O' H') : Rep K F H' O' σ ds where
  lo := lo
  sub := fun p hp => sub p (R.sub p hp)
  ext := fun a o h n => sm a o (R.ext a o h n)
  sl := fun i dv h => by
    obtain ⟨v, e, r⟩ := R.sl i dv h
    exact ⟨v, e, RpS.grow R.lo sm g sub r⟩
  mu := R.mu
  new := R.new
  bx := fun p hp => by
    rcases R.bx p hp with h | ⟨x, y, c, h, r⟩
    · exact .inl h
    · exact .inr ⟨x, y, c, sm _ _ h, r⟩
  newO := R.newO
  bu := R.bu
  b1 := R.b1
  fo := R.fo
  bo := R.bo
  len := R.len
  nm := R.nm
theorem Step.grow (sm : Same H H') (g : Grow O O' H) (sub : ∀ p ∈ O, p ∈ O') : Step σ H O ds H' O' ds :=
  ⟨g, fun p h _ => sub p h, fun a o h _ => sm a o h, fun a h => by
    cases e : H a with
    | none => exact absurd e h
    | some o => rw [sm a o e]; simp, fun _ _ h => ⟨_, h⟩, fun _ _ h => h, fun _ _ h => h⟩
theorem same_new {p : Addr} {o : HO} (hp : H p = none) : Same H (upd H p o) := fun b u h => by rw [upd_ne (ne_of_none h hp)]; exact h
theorem grow_refl : Grow O O H := fun _ h => .inl h
theorem grow_new {p : Addr} (hp : H p = none) : Grow O (p :: O) H := fun q h => by
  rcases List.mem_cons.mp h with e | h
  · subst e; exact .inr hp
  · exact .inl h
theorem lo_same (lo : LO O H) (sm : Same H H') : LO O H' := fun p hp => by
  obtain ⟨xs, e, q⟩ := lo p hp
  exact ⟨xs, sm _ _ e, q⟩
theorem lo_new {p : Addr} {vs : List V} (lo : LO O H) (hp : H p = none) : LO (p :: O) (upd H p (.lst vs)) := fun q hq => by
  rcases List.mem_cons.mp hq with e | hq
  · subst e; exact ⟨_, upd_same, rfl⟩
  · exact lo_same lo (same_new hp) q hq
theorem Rep.hin (R : Rep K F H O σ ds) {p : Addr} (hp : H p = none) : F.Hin p = none := by
  cases e : F.Hin p with
  | none => rfl
  | some o =>
    by_cases hb : p ∈ F.B
    · obtain ⟨_, h, _⟩ := R.lo p (R.sub p (R.bo p hb))
      rw [hp] at h; cases h
    · rw [R.ext p o e hb] at hp; cases hp
theorem Step.fresh (R : Rep K F H O σ ds) (s : Step σ H O ds H' O' ds1) {p : Addr} (hp : H' p = none) : p ∉ O := fun h => by
  obtain ⟨xs, e, _⟩ := R.lo p h
  exact s.dm p (by rw [e]; simp) hp
theorem Step.mutO (R : Rep K F H O σ ds) (s : Step σ H O ds H' O' ds1) : ∀ p, (∃ i, MutAt σ ds1 i p) → p ∈ O := fun p ⟨i, h⟩ => R.mutO (s.mu i p h)
def peek (ds : DS) : DV → Option D
  | .d x => some x
  | .own xs => some (.list xs)
  | .box => none
  | .mu _ _ => none
  | .slot i => match ds.sl[i]? with
    | some (some (.d x)) => some x
    | some (some (.own xs)) => some (.list xs)
    | _ => none
  | .exc _ _ => none
  | .fd _ => none
def peekL (ds : DS) : List DV → Option (List D)
  | [] => some []
  | x :: xs => match peek ds x, peekL ds xs with
    | some d, some r => some (d :: r)
    | _, _ => none
def Vw (K : Fg) (H : Hp) (O : List Addr) (v : V) (d : D) : Prop := Rp K H O v d ∨ ∃ p vs xs, v = .ref p ∧ d = .list xs ∧ H p = some (.lst vs) ∧ RpL K H O vs xs
theorem RpV.vw (R : Rep K F H O' σ ds) (h : RpV K F H O O' σ ds v dv) (e : peek ds dv = some d) : Vw K H O' v d := by
  cases dv with
  | exc xa xb => first | exact h.elim | exact hw.elim | exact hr.elim | exact rr.elim | exact rx.elim | exact h3.elim | exact c3.elim | exact c.elim | exact hab.elim | exact q.elim | (simp [peek] at hp; done) | (simp [frz] at e; done) | (simp [frz] at e1; done) | (simp [argOf] at ax; done) | (simp [argOf] at e1; done) | (simp [isBx] at hab; done) | (simp [argOf] at h; done) | (simp [peek] at e; done) | (simp [isBx] at hbx; done) | exact h | exact hw | exact r | (cases e; done) | (cases e2; done) | rfl | (simp at e; done) | (simp at h; done)
  | fd xc => first | exact h.elim | exact hw.elim | exact hr.elim | exact rr.elim | exact rx.elim | exact h3.elim | exact c3.elim | exact c.elim | exact hab.elim | exact q.elim | (simp [peek] at hp; done) | (simp [frz] at e; done) | (simp [frz] at e1; done) | (simp [argOf] at ax; done) | (simp [argOf] at e1; done) | (simp [isBx] at hab; done) | (simp [argOf] at h; done) | (simp [peek] at e; done) | (simp [isBx] at hbx; done) | exact h | exact hw | exact r | (cases e; done) | (cases e2; done) | rfl | (simp at e; done) | (simp at h; done)
  | d x => cases e; exact .inl h
  | own xs =>
    cases e
    obtain ⟨p, vs, e, _, _, _, h1, h2⟩ := h
    exact .inr ⟨p, vs, xs, e, rfl, h1, h2⟩
  | box => exact h.elim
  | mu c q => cases e
  | slot i =>
    obtain ⟨h1, dv, h2⟩ := h
    obtain ⟨w, e1, r⟩ := R.sl i dv h2
    rw [h1] at e1
    cases e1
    simp only [peek, h2] at e
    cases dv with
    | exc xa xb => first | exact h.elim | exact hw.elim | exact hr.elim | exact rr.elim | exact rx.elim | exact h3.elim | exact c3.elim | exact c.elim | exact hab.elim | exact q.elim | (simp [peek] at hp; done) | (simp [frz] at e; done) | (simp [frz] at e1; done) | (simp [argOf] at ax; done) | (simp [argOf] at e1; done) | (simp [isBx] at hab; done) | (simp [argOf] at h; done) | (simp [peek] at e; done) | (simp [isBx] at hbx; done) | exact h | exact hw | exact r | (cases e; done) | (cases e2; done) | rfl | (simp at e; done) | (simp at h; done)
    | fd xc => first | exact h.elim | exact hw.elim | exact hr.elim | exact rr.elim | exact rx.elim | exact h3.elim | exact c3.elim | exact c.elim | exact hab.elim | exact q.elim | (simp [peek] at hp; done) | (simp [frz] at e; done) | (simp [frz] at e1; done) | (simp [argOf] at ax; done) | (simp [argOf] at e1; done) | (simp [isBx] at hab; done) | (simp [argOf] at h; done) | (simp [peek] at e; done) | (simp [isBx] at hbx; done) | exact h | exact hw | exact r | (cases e; done) | (cases e2; done) | rfl | (simp at e; done) | (simp at h; done)
    | d x => cases e; exact .inl r
    | own xs =>
      cases e
      obtain ⟨p, vs, e, _, h1, h2⟩ := r
      exact .inr ⟨p, vs, xs, e, rfl, h1, h2⟩
    | box => cases e
    | mu c q => cases e
    | slot j => cases e
def VwL (K : Fg) (H : Hp) (O : List Addr) : List V → List D → Prop := Paired (Vw K H O)
theorem RpVs.vw (R : Rep K F H O' σ ds) : ∀ {vs : List V} {dvs : List DV} {xs : List D}, Paired (RpV K F H O O' σ ds) vs dvs → peekL ds dvs = some xs → VwL K H O' vs xs
  | _, _, _, .nil, e => by cases e; exact .nil
  | _, _, xs, .cons (l₁ := vs) (l₂ := dvs) (a := v) (b := dv) h r, e => by
    simp only [peekL] at e
    cases e1 : peek ds dv with
    | none => rw [e1] at e; simp at e
    | some d =>
      cases e2 : peekL ds dvs with
      | none => rw [e1, e2] at e; simp at e
      | some r' =>
        rw [e1, e2] at e
        simp only [Option.some.injEq] at e
        subst e
        exact .cons (RpV.vw R h e1) (RpVs.vw R r e2)
theorem Vw.dp (h : Vw K H O v d) : Dp K H v d := by
  rcases h with h | ⟨p, vs, xs, e, e2, h1, h2⟩
  · exact Rp.dp h
  · subst e e2
    exact .lst (.inl (.inl h1)) (RpL.dp h2)
theorem Vw.int {i : Int} (h : Vw K H O v (.int i)) : v = .int i := by
  rcases h with h | ⟨p, vs, xs, e, e2, h1, h2⟩
  · cases h; rfl
  · cases e2
theorem Vw.bool {b : Bool} (h : Vw K H O v (.bool b)) : v = .bl b := by
  rcases h with h | ⟨p, vs, xs, e, e2, h1, h2⟩
  · cases h; rfl
  · cases e2
theorem Vw.str {x : Str} (h : Vw K H O v (.str x)) : v = .str x := by
  rcases h with h | ⟨p, vs, xs, e, e2, h1, h2⟩
  · cases h; rfl
  · cases e2
theorem Vw.none (h : Vw K H O v .none) : v = .non := by
  rcases h with h | ⟨p, vs, xs, e, e2, h1, h2⟩
  · cases h; rfl
  · cases e2
theorem Vw.list {xs : List D} (h : Vw K H O v (.list xs)) : ∃ a vs, v = .ref a ∧ H a = some (.lst vs) ∧ RpL K H O vs xs := by
  rcases h with h | ⟨p, vs, xs, e, e2, h1, h2⟩
  · cases h with
    | lst h r => exact ⟨_, _, rfl, h.1, r⟩
  · cases e2
    exact ⟨p, vs, e, h1, h2⟩
theorem Vw.rp {xs : List D} (h : Vw K H O v (.tuple xs)) : Rp K H O v (.tuple xs) := by
  rcases h with h | ⟨p, vs, xs, e, e2, h1, h2⟩
  · exact h
  · cases e2
theorem Vw.tup {xs : List D} (h : Vw K H O v (.tuple xs)) : ∃ a vs, v = .ref a ∧ TpA K H a vs ∧ RpL K H O vs xs := by
  cases h.rp with
  | tup h' r => exact ⟨_, _, rfl, h', r⟩
theorem Vw.tuple {xs : List D} (h : Vw K H O v (.tuple xs)) : ∃ a vs, v = .ref a ∧ SqT K H a vs ∧ RpL K H O vs xs := by
  obtain ⟨a, vs, e, h, r⟩ := h.tup
  exact ⟨a, vs, e, TpA.seq h, r⟩
structure Cont (K : Fg) (H : Hp) (O : List Addr) (Qa : DV → Prop) (Q : VK) : Prop where
  d : ∀ v x, Rp K H O v x → Qa (.d x) → Q v H
  lst : ∀ p vs xs, H p = none → RpL K H O vs xs → Qa (.own xs) → Q (.ref p) (upd H p (.lst vs))
  tup : ∀ p o vs xs, H p = none → o.dict = none → RpL K H O vs xs → Qa (.d (.tuple xs)) → Q (.ref p) (upd H p (.frz o (.tup vs)))
theorem mkCont {Qa : DV → DS → Prop} {Q : VK} (R : Rep K F H O σ ds) (s : Step σ H O ds H2 O2 ds2) (R2 : Rep K F H2 O2 σ ds2)
    (hq : ∀ dv ds' v H' O', Step σ H O ds H' O' ds' → Rep K F H' O' σ ds' → RpV K F H' O O' σ ds' v dv → Qa dv ds' → Q v H') : Cont K H2 O2 (fun r => Qa r ds2) Q where
  d := fun v x h q => hq (.d x) ds2 v H2 O2 s R2 h q
  lst := fun p vs xs hp h q => by
    have sm := same_new (o := .lst vs) hp
    have g := grow_new (O := O2) hp
    have sub : ∀ q ∈ O2, q ∈ p :: O2 := fun q h => List.mem_cons_of_mem _ h
    refine hq (.own xs) ds2 (.ref p) _ (p :: O2) (s.trans (Step.grow sm g sub)) (R2.grow sm g sub (lo_new R2.lo hp)) ?_ q
    exact ⟨p, vs, rfl, List.mem_cons_self, s.fresh R hp, R2.hin hp, upd_same, RpL.mv R2.lo (same_keep sm) g h⟩
  tup := fun p o vs xs hp hd h q => by
    have sm := same_new (o := .frz o (.tup vs)) hp
    have g : Grow O2 O2 H2 := grow_refl
    refine hq (.d (.tuple xs)) ds2 (.ref p) _ O2 (s.trans (Step.grow sm g fun _ h => h)) (R2.grow sm g (fun _ h => h) (lo_same R2.lo sm)) ?_ q
    exact .tup (.inl ⟨o, upd_same, hd⟩) (RpL.mv R2.lo (same_keep sm) g h)
end
section
variable {X : Cx} {F : Fx} {e : Expr} {ta tb tc : DTE}
def dVar (i : Nat) : DTE := fun ds Q => match ds.sl[i]? with
  | some (some (.d x)) => Q (.d x) ds
  | some (some (.own _)) => Q (.slot i) ds
  | some (some .box) => Q (.slot i) ds
  | some (some (.exc _ _)) => Q (.slot i) ds
  | some (some (.fd c)) => Q (.fd c) ds
  | _ => False
theorem de_var {i : Nat} (h : PE X e (tVar i)) : DE X F e (dVar i) := PE_imp h fun σ H Q ⟨O, ds, Qa, R, ht, hq⟩ => by
  unfold dVar at ht
  split at ht
  · rename_i x e
    obtain ⟨v, e1, r⟩ := R.sl i _ e
    exact ⟨v, e1, hq (.d x) ds v H O Step.refl R r ht⟩
  · rename_i x e
    obtain ⟨v, e1, r⟩ := R.sl i _ e
    exact ⟨v, e1, hq (.slot i) ds v H O Step.refl R ⟨e1, _, e⟩ ht⟩
  · rename_i e
    obtain ⟨v, e1, r⟩ := R.sl i _ e
    exact ⟨v, e1, hq (.slot i) ds v H O Step.refl R ⟨e1, _, e⟩ ht⟩
  · rename_i e
    obtain ⟨v, e1, r⟩ := R.sl i _ e
    exact ⟨v, e1, hq (.slot i) ds v H O Step.refl R ⟨e1, _, e⟩ ht⟩
  · rename_i c e
    obtain ⟨v, e1, r⟩ := R.sl i _ e
    exact ⟨v, e1, hq (.fd c) ds v H O Step.refl R r ht⟩
  · exact ht.elim
def dC (x : D) : DTE := fun ds Q => Q (.d x) ds
theorem de_c {v : V} {x : D} (h : PE X e (tC v)) (hr : ∀ H O, Rp X.K H O v x) : DE X F e (dC x) := PE_imp h fun σ H Q ⟨O, ds, Qa, R, ht, hq⟩ =>
  hq (.d x) ds v H O Step.refl R (hr H O) ht
theorem de_int {i : Int} {j pos} : DE X F (.Constant (.int i) j pos) (dC (.int i)) := de_c pe_int fun _ _ => .int i
theorem de_bl {b : Bool} {j pos} : DE X F (.Constant (.bool b) j pos) (dC (.bool b)) := de_c pe_bl fun _ _ => .bl b
theorem de_non {j pos} : DE X F (.Constant .none j pos) (dC .none) := de_c pe_non fun _ _ => .non
theorem de_str {x : Str} {j pos} : DE X F (.Constant (.str x) j pos) (dC (.str x)) := de_c pe_str fun _ _ => .str x
abbrev F2 := D → D → (DV → Prop) → Prop
abbrev F1 := D → (DV → Prop) → Prop
def OpD (K : Fg) (r : R2) (f : F2) : Prop := ∀ H O x y d e Qa Q, LO O H → Vw K H O x d → Vw K H O y e → f d e Qa → Cont K H O Qa Q → r x y H Q
def dOp2 (f : F2) (ta tb : DTE) : DTE := fun ds Q => ta ds fun x ds1 => tb ds1 fun y ds2 => match peek ds2 x, peek ds2 y with
  | some d, some e => f d e fun r => Q r ds2
  | _, _ => False
theorem de_op2 {r : R2} {f : F2} (h : PE X e (tOp r (lift X.K F ta) (lift X.K F tb))) (hf : OpD X.K r f) : DE X F e (dOp2 f ta tb) := PE_imp h fun σ H Q ⟨O, ds, Qa, R, ht, hq⟩ =>
  ⟨O, ds, _, R, ht, fun x ds1 v H1 O1 s1 R1 rx hx => ⟨O1, ds1, _, R1, hx, fun y ds2 w H2 O2 s2 R2 ry hy => by
    have rx2 := RpV.step R1 (s1.mutO R) rx s2
    split at hy
    · rename_i d e e1 e2
      exact hf H2 O2 v w d e _ Q R2.lo (RpV.vw R2 rx2 e1) (RpV.vw R2 ry e2) hy (mkCont R (s1.trans s2) R2 hq)
    · exact hy.elim⟩⟩
def UnD (K : Fg) (r : V → Hp → VK → Prop) (f : F1) : Prop := ∀ H O x d Qa Q, LO O H → Vw K H O x d → f d Qa → Cont K H O Qa Q → r x H Q
def dOp1 (f : F1) (ta : DTE) : DTE := fun ds Q => ta ds fun x ds1 => match peek ds1 x with
  | some d => f d fun r => Q r ds1
  | _ => False
theorem de_op1 {r : V → Hp → VK → Prop} {f : F1} (h : PE X e (tUn r (lift X.K F ta))) (hf : UnD X.K r f) : DE X F e (dOp1 f ta) := PE_imp h fun σ H Q ⟨O, ds, Qa, R, ht, hq⟩ =>
  ⟨O, ds, _, R, ht, fun x ds1 v H1 O1 s1 R1 rx hx => by
    split at hx
    · rename_i d e1
      exact hf H1 O1 v d _ Q R1.lo (RpV.vw R1 rx e1) hx (mkCont R s1 R1 hq)
    · exact hx.elim⟩
abbrev FN := List D → (DV → Prop) → Prop
def CallD (K : Fg) (r : List V → Hp → VK → Prop) (f : FN) : Prop := ∀ H O xs ds Qa Q, LO O H → VwL K H O xs ds → f ds Qa → Cont K H O Qa Q → r xs H Q
def dCB (f : FN) (ta : DTA) : DTE := fun ds Q => ta ds fun xs ds1 => match peekL ds1 xs with
  | some d => f d fun r => Q r ds1
  | _ => False
theorem de_cb {r : List V → Hp → VK → Prop} {f : FN} {ta : DTA} (h : PE X e (tCB r (liftA X.K F ta))) (hf : CallD X.K r f) : DE X F e (dCB f ta) := PE_imp h fun σ H Q ⟨O, ds, Qa, R, ht, hq⟩ =>
  ⟨O, ds, _, R, ht, fun xs ds1 vs H1 O1 s1 R1 rx hx => by
    split at hx
    · rename_i d e1
      exact hf H1 O1 vs d _ Q R1.lo (RpVs.vw R1 rx.1 e1) hx (mkCont R s1 R1 hq)
    · exact hx.elim⟩
def dNil : DTA := fun ds Q => Q [] ds
def dCons (ta : DTE) (tr : DTA) : DTA := fun ds Q => ta ds fun x ds1 => tr ds1 fun xs ds2 => Q (x :: xs) ds2
theorem da_nil : DA X F [] dNil := PA_imp pa_nil fun σ H Q ⟨O, ds, Qa, R, ht, hq⟩ => hq [] ds [] H O Step.refl R ⟨.nil, fun _ _ _ _ _ _ _ h => by simp at h⟩ ht
theorem RpV.old {K : Fg} {H : Hp} {O O1 O' : List Addr} {σ : St} {ds : DS} {v : V} {dv : DV} (h : RpV K F H O1 O' σ ds v dv) (sub : ∀ p ∈ O, p ∉ O1 → p ∉ O') : RpV K F H O O' σ ds v dv := by
  cases dv with
  | exc xa xb => first | exact h.elim | exact hw.elim | exact hr.elim | exact rr.elim | exact rx.elim | exact h3.elim | exact c3.elim | exact c.elim | exact hab.elim | exact q.elim | (simp [peek] at hp; done) | (simp [frz] at e; done) | (simp [frz] at e1; done) | (simp [argOf] at ax; done) | (simp [argOf] at e1; done) | (simp [isBx] at hab; done) | (simp [argOf] at h; done) | (simp [peek] at e; done) | (simp [isBx] at hbx; done) | exact h | exact hw | exact r | (cases e; done) | (cases e2; done) | rfl | (simp at e; done) | (simp at h; done)
  | fd xc => first | exact h.elim | exact hw.elim | exact hr.elim | exact rr.elim | exact rx.elim | exact h3.elim | exact c3.elim | exact c.elim | exact hab.elim | exact q.elim | (simp [peek] at hp; done) | (simp [frz] at e; done) | (simp [frz] at e1; done) | (simp [argOf] at ax; done) | (simp [argOf] at e1; done) | (simp [isBx] at hab; done) | (simp [argOf] at h; done) | (simp [peek] at e; done) | (simp [isBx] at hbx; done) | exact h | exact hw | exact r | (cases e; done) | (cases e2; done) | rfl | (simp at e; done) | (simp at h; done)
  | d x => exact h
  | own xs =>
    obtain ⟨p, vs, e, h1, h2, h3⟩ := h
    exact ⟨p, vs, e, h1, fun z => sub p z h2 h1, h3⟩
  | box => exact h
  | mu c p =>
    obtain ⟨e, h1, h2⟩ := h
    exact ⟨e, fun q hq => ⟨(h1 q hq).1, fun z => sub q z (h1 q hq).2.1 (h1 q hq).1, (h1 q hq).2.2⟩, h2⟩
  | slot i => exact h
theorem RpV.ownO {K : Fg} {H : Hp} {O O' : List Addr} {σ : St} {ds : DS} {v : V} {dv : DV} {p : Addr} (h : RpV K F H O O' σ ds v dv) (hp : OwnT v dv p) : p ∈ O' ∧ p ∉ O ∧ F.Hin p = none := by
  cases dv with
  | d x => exact hp.elim
  | box => exact hp.elim
  | slot i => exact hp.elim
  | exc a b => exact hp.elim
  | fd c => exact hp.elim
  | own xs =>
    obtain ⟨q, vs, e, h1, h2, h3, _⟩ := h
    have hp' : v = .ref p := hp
    rw [e] at hp'; cases hp'; exact ⟨h1, h2, h3⟩
  | mu c r => exact h.2.1 p hp
theorem Step.gone {K : Fg} {H1 H2 : Hp} {O O1 O2 : List Addr} {σ : St} {ds ds1 ds2 : DS} {H : Hp} (R : Rep K F H O σ ds) (s1 : Step σ H O ds H1 O1 ds1) (s2 : Step σ H1 O1 ds1 H2 O2 ds2) : ∀ p ∈ O, p ∉ O1 → p ∉ O2 := fun p h n z => by
  rcases s2.o1 p z with q | q
  · exact n q
  · exact s1.fresh R q h
theorem cons_lift {K : Fg} {tr : DTA} {σ : St} {H : Hp} {Q : List V → Hp → Prop} (h : liftA K F (dCons ta tr) σ H Q) : tCons (lift K F ta) (liftA K F tr) σ H Q := by
  obtain ⟨O, ds, Qa, R, ht, hq⟩ := h
  exact ⟨O, ds, _, R, ht, fun x ds1 v H1 O1 s1 R1 rx hx => ⟨O1, ds1, _, R1, hx, fun xs ds2 vs H2 O2 s2 R2 rxs hxs => by
    have rx2 := RpV.step R1 (s1.mutO R) rx s2
    have go := Step.gone R s1 s2
    refine hq (x :: xs) ds2 (v :: vs) H2 O2 (s1.trans s2) R2 ⟨.cons rx2 ?_, ?_⟩ hxs
    · have aux : ∀ {vs : List V} {dvs : List DV}, Paired (RpV K F H2 O1 O2 σ ds2) vs dvs → Paired (RpV K F H2 O O2 σ ds2) vs dvs := by
        intro vs dvs h
        induction h with
        | nil => exact .nil
        | cons h _ ih => exact .cons (RpV.old h go) ih
      exact aux rxs.1
    · have aux : ∀ {vs : List V} {dvs : List DV} (k : Nat) (w : V) (y : DV), Paired (RpV K F H2 O1 O2 σ ds2) vs dvs → vs[k]? = some w → dvs[k]? = some y → RpV K F H2 O1 O2 σ ds2 w y := by
        intro vs dvs k w y h
        induction h generalizing k with
        | nil => intro h; simp at h
        | cons h _ ih =>
          cases k with
          | zero => intro h1 h2; simp at h1 h2; subst h1 h2; exact h
          | succ k => intro h1 h2; exact ih k (by simpa using h1) (by simpa using h2)
      have key : ∀ (k : Nat) (w : V) (y : DV) (p : Addr), vs[k]? = some w → xs[k]? = some y → OwnT v x p → OwnT w y p → False := by
        intro k w y p hk hy h1 h2
        exact ((aux k w y rxs.1 hk hy).ownO h2).2.1 (rx.ownO h1).1
      intro i j v1 w1 x1 y1 hij h1 h2 h3 h4
      cases i with
      | zero =>
        cases j with
        | zero => exact (hij rfl).elim
        | succ j =>
          simp at h1 h2 h3 h4
          subst h1 h3
          exact fun p q1 q2 => key j w1 y1 p h2 h4 q1 q2
      | succ i =>
        cases j with
        | zero =>
          simp at h1 h2 h3 h4
          subst h2 h4
          exact fun p q1 q2 => key i v1 x1 p h1 h3 q2 q1
        | succ j => exact rxs.2 i j v1 w1 x1 y1 (fun z => hij (by rw [z])) (by simpa using h1) (by simpa using h2) (by simpa using h3) (by simpa using h4)⟩⟩
theorem da_cons {es : List Expr} {tr : DTA} (ha : DE X F e ta) (hr : DA X F es tr) (hs : starEach (e :: es) X.env = (false, eval e X.env) :: starEach es X.env := by rfl) : DA X F (e :: es) (dCons ta tr) :=
  PA_imp (pa_cons ha hr hs) fun σ H Q h => cons_lift h
end
def frz (ds : DS) : DV → Option (D × DS)
  | .d x => some (x, ds)
  | .own xs => some (.list xs, ds)
  | .box => none
  | .mu _ _ => none
  | .slot i => match ds.sl[i]? with
    | some (some (.d x)) => some (x, ds)
    | some (some (.own xs)) => some (.list xs, ⟨ds.sl.set i (some (.d (.list xs))), ds.n⟩)
    | _ => none
  | .exc _ _ => none
  | .fd _ => none
def frzL (ds : DS) : List DV → Option (List D × DS)
  | [] => some ([], ds)
  | x :: xs => match frz ds x with
    | some (d, ds1) => match frzL ds1 xs with
      | some (r, ds2) => some (d :: r, ds2)
      | none => none
    | none => none
section
variable {K : Fg} {F : Fx} {H H' H0 : Hp} {O O' : List Addr} {σ : St} {ds ds0 ds' : DS} {v : V} {dv : DV} {d : D}
theorem less_grow {O O'' : List Addr} (h : ∀ p ∈ O'', p ∈ O) : Grow O O'' H := fun p hp => .inl (h p hp)
theorem keep_refl : Keep O H H := fun _ _ h _ => h
theorem Rp.less {O'' : List Addr} (lo : LO O' H) (h : ∀ p ∈ O'', p ∈ O') (r : Rp K H O' v d) : Rp K H O'' v d := Rp.mv lo keep_refl (less_grow h) r
theorem ExS.less {O'' : List Addr} {nm : Str} {fo : Option (Str × D)} (lo : LO O' H) (h : ∀ p ∈ O'', p ∈ O') (r : ExS K H O' v nm fo) : ExS K H O'' v nm fo := ExS.mv lo keep_refl (less_grow h) r
theorem FdS.less {O'' : List Addr} {c : Mu} (lo : LO O' H) (h : ∀ p ∈ O'', p ∈ O') (r : FdS K H O' v c) : FdS K H O'' v c := FdS.mv lo keep_refl (less_grow h) r
theorem MuAt.less {O'' : List Addr} {p : Addr} {c : Mu} (r : MuAt K H O' p c) (lo : LO O' H) (h : ∀ p ∈ O'', p ∈ O') : MuAt K H O'' p c := MuAt.mv lo keep_refl (less_grow h) (fun _ _ _ e => e) r
theorem RpL.less {O'' : List Addr} {vs : List V} {xs : List D} (lo : LO O' H) (h : ∀ p ∈ O'', p ∈ O') (r : RpL K H O' vs xs) : RpL K H O'' vs xs := RpL.mv lo keep_refl (less_grow h) r
theorem sl_set_of {i j : Nat} {x dv : DV} {l : List (Option DV)} (h : (l.set i (some x))[j]? = some (some dv)) : (i = j ∧ x = dv) ∨ (i ≠ j ∧ l[j]? = some (some dv)) := by
  by_cases e : i = j
  · subst e
    by_cases hi : i < l.length
    · rw [List.getElem?_set_self hi] at h
      cases h
      exact .inl ⟨rfl, rfl⟩
    · rw [List.getElem?_eq_none (by simpa using hi)] at h; cases h
  · rw [List.getElem?_set_ne e] at h
    exact .inr ⟨e, h⟩
theorem Rep.drop (R : Rep K F H O' σ ds) {P : Addr → Prop} [DecidablePred P] {i : Nat} {p : Addr} {xs : List D} (h1 : σ[i]? = some (some (.ref p))) (h2 : ds.sl[i]? = some (some (.own xs))) :
    ∃ O'', (∀ q ∈ O'', q ∈ O') ∧ (∀ q ∈ O', q ≠ p → q ∈ O'') ∧ Rep K F H O'' σ ⟨ds.sl.set i (some (.d (.list xs))), ds.n⟩ ∧ Rp K H O'' (.ref p) (.list xs) := by
  obtain ⟨w, e, q, vs, e2, hO, hH, hL⟩ := R.sl i _ h2
  rw [h1] at e; cases e; cases e2
  have hlen : i < ds.sl.length := (List.getElem?_eq_some_iff.mp h2).1
  have mi : MutAt σ ds i p := mutAt h1 h2 trivial
  have pn := R.newO i p xs h1 h2
  have hs1 : ∀ q ∈ O'.filter (fun q => decide (q ≠ p)), q ∈ O' := fun q hq => (List.mem_filter.mp hq).1
  have hs2 : ∀ q ∈ O', q ≠ p → q ∈ O'.filter (fun q => decide (q ≠ p)) := fun q hq n => List.mem_filter.mpr ⟨hq, by simpa using n⟩
  have np : p ∉ O'.filter (fun q => decide (q ≠ p)) := fun z => by simpa using (List.mem_filter.mp z).2
  have rp : Rp K H (O'.filter (fun q => decide (q ≠ p))) (.ref p) (.list xs) := .lst ⟨hH, np⟩ (RpL.less R.lo hs1 hL)
  have mut_of : ∀ j q, MutAt σ ⟨ds.sl.set i (some (.d (.list xs))), ds.n⟩ j q → MutAt σ ds j q ∧ j ≠ i := fun j q ⟨a, b0, dv, b, c, e⟩ => by
    rcases sl_set_of b with ⟨e1, e2⟩ | ⟨e1, e2⟩
    · subst e2; exact c.elim
    · exact ⟨⟨a, b0, dv, e2, c, e⟩, fun z => e1 z.symm⟩
  have box_of : ∀ j q, BoxS σ ⟨ds.sl.set i (some (.d (.list xs))), ds.n⟩ j q → BoxS σ ds j q := fun j q ⟨a, b⟩ => by
    rcases sl_set_of b with ⟨e1, e2⟩ | ⟨e1, e2⟩
    · cases e2
    · exact ⟨a, e2⟩
  refine ⟨_, hs1, hs2, ?_, rp⟩
  refine ⟨fun q hq => R.lo q (hs1 q hq), fun q hq => hs2 q (R.sub q hq) fun z => ?_, R.ext, fun j dv hj => ?_, fun j k q a b => R.mu j k q (mut_of j q a).1 (mut_of k q b).1, fun j q a => R.new j q (mut_of j q a).1, fun j q ys a b => ?_, R.bx, fun j q hb => R.bu j q (box_of j q hb), fun j k q r h1 h2 => R.b1 j k q r (box_of j q h1) (box_of k r h2), R.fo, R.bo, by simpa using R.len, fun j c a q h hm => R.nm j c a q ?_ (mut_of j q hm).1⟩
  · subst z; exact R.fo _ hq pn
  · rcases sl_set_of hj with ⟨e1, e2⟩ | ⟨e1, e2⟩
    · subst e1 e2
      exact ⟨_, h1, rp⟩
    · obtain ⟨w, ew, r⟩ := R.sl j dv e2
      refine ⟨w, ew, ?_⟩
      cases dv with
      | exc xa xb => exact ExS.less R.lo hs1 r
      | fd xc => exact FdS.less R.lo hs1 r
      | d x => exact Rp.less R.lo hs1 r
      | own ys =>
        obtain ⟨q, us, e3, a1, a2, a3⟩ := r
        subst e3
        refine ⟨q, us, rfl, hs2 q a1 fun z => ?_, a2, RpL.less R.lo hs1 a3⟩
        subst z
        exact e1 (R.mu i j q mi (mutAt ew e2 trivial))
      | box =>
        obtain ⟨q, e3, a1, a2⟩ := r
        subst e3
        refine ⟨q, rfl, hs2 q a1 fun z => ?_, a2⟩
        subst z
        exact e1 (R.mu i j q mi (mutAt ew e2 trivial))
      | mu c q =>
        obtain ⟨e3, a1, a2⟩ := r
        subst e3
        refine ⟨rfl, fun u hu => hs2 u (a1 u hu) fun z => ?_, a2.less R.lo hs1⟩
        subst z
        exact e1 (R.mu i j u mi (mutAtM ew e2 hu))
      | slot k => exact r
  · rcases sl_set_of b with ⟨e1, e2⟩ | ⟨e1, e2⟩
    · cases e2
    · exact R.newO j q ys a e2
  · rcases sl_set_of h with ⟨e1, e2⟩ | ⟨e1, e2⟩
    · cases e2
    · exact e2
theorem Rep.tmp (R : Rep K F H O' σ ds) {p : Addr} (hp : F.Hin p = none) (hm : ∀ i, ¬ MutAt σ ds i p) : ∃ O'', (∀ q ∈ O'', q ∈ O') ∧ (∀ q ∈ O', q ≠ p → q ∈ O'') ∧ p ∉ O'' ∧ Rep K F H O'' σ ds := by
  have hs1 : ∀ q ∈ O'.filter (fun q => decide (q ≠ p)), q ∈ O' := fun q hq => (List.mem_filter.mp hq).1
  have hs2 : ∀ q ∈ O', q ≠ p → q ∈ O'.filter (fun q => decide (q ≠ p)) := fun q hq n => List.mem_filter.mpr ⟨hq, by simpa using n⟩
  have np : p ∉ O'.filter (fun q => decide (q ≠ p)) := fun z => by simpa using (List.mem_filter.mp z).2
  refine ⟨_, hs1, hs2, np, ⟨fun q hq => R.lo q (hs1 q hq), fun q hq => hs2 q (R.sub q hq) fun z => ?_, R.ext, fun j dv hj => ?_, R.mu, R.new, R.newO, R.bx, R.bu, R.b1, R.fo, R.bo, R.len, R.nm⟩⟩
  · subst z; exact R.fo _ hq hp
  · obtain ⟨w, ew, r⟩ := R.sl j dv hj
    refine ⟨w, ew, ?_⟩
    cases dv with
    | exc xa xb => exact ExS.less R.lo hs1 r
    | fd xc => exact FdS.less R.lo hs1 r
    | d x => exact Rp.less R.lo hs1 r
    | own ys =>
      obtain ⟨q, us, e3, a1, a2, a3⟩ := r
      subst e3
      exact ⟨q, us, rfl, hs2 q a1 fun z => by subst z; exact hm j (mutAt ew hj trivial), a2, RpL.less R.lo hs1 a3⟩
    | box =>
      obtain ⟨q, e3, a1, a2⟩ := r
      subst e3
      exact ⟨q, rfl, hs2 q a1 fun z => by subst z; exact hm j (mutAt ew hj trivial), a2⟩
    | mu c q =>
      obtain ⟨e3, a1, a2⟩ := r
      subst e3
      exact ⟨rfl, fun u hu => hs2 u (a1 u hu) fun z => by subst z; exact hm j (mutAtM ew hj hu), a2.less R.lo hs1⟩
    | slot k => exact r
theorem frz_ok (R0 : Rep K F H0 O σ ds0) (s : Step σ H0 O ds0 H O' ds) (R : Rep K F H O' σ ds) (h : RpV K F H O O' σ ds v dv) (e : frz ds dv = some (d, ds')) :
    ∃ O'', Step σ H0 O ds0 H O'' ds' ∧ Rep K F H O'' σ ds' ∧ Rp K H O'' v d ∧ (∀ p ∈ O'', p ∈ O') ∧
      ∀ w dw, RpV K F H O O' σ ds w dw → Apt v dv w dw → RpV K F H O O'' σ ds' w dw := by
  have same : frz ds dv = some (d, ds) → Rp K H O' v d → ds' = ds → ∃ O'', Step σ H0 O ds0 H O'' ds' ∧ Rep K F H O'' σ ds' ∧ Rp K H O'' v d ∧ (∀ p ∈ O'', p ∈ O') ∧
      ∀ w dw, RpV K F H O O' σ ds w dw → Apt v dv w dw → RpV K F H O O'' σ ds' w dw := fun _ r e => by
    subst e
    exact ⟨O', s, R, r, fun _ h => h, fun w dw h _ => h⟩
  cases dv with
  | exc xa xb => first | exact h.elim | exact hw.elim | exact hr.elim | exact rr.elim | exact rx.elim | exact h3.elim | exact c3.elim | exact c.elim | exact hab.elim | exact q.elim | (simp [peek] at hp; done) | (simp [frz] at e; done) | (simp [frz] at e1; done) | (simp [argOf] at ax; done) | (simp [argOf] at e1; done) | (simp [isBx] at hab; done) | (simp [argOf] at h; done) | (simp [peek] at e; done) | (simp [isBx] at hbx; done) | exact h | exact hw | exact r | (cases e; done) | (cases e2; done) | rfl | (simp at e; done) | (simp at h; done)
  | fd xc => first | exact h.elim | exact hw.elim | exact hr.elim | exact rr.elim | exact rx.elim | exact h3.elim | exact c3.elim | exact c.elim | exact hab.elim | exact q.elim | (simp [peek] at hp; done) | (simp [frz] at e; done) | (simp [frz] at e1; done) | (simp [argOf] at ax; done) | (simp [argOf] at e1; done) | (simp [isBx] at hab; done) | (simp [argOf] at h; done) | (simp [peek] at e; done) | (simp [isBx] at hbx; done) | exact h | exact hw | exact r | (cases e; done) | (cases e2; done) | rfl | (simp at e; done) | (simp at h; done)
  | d x =>
    have e' := e
    simp only [frz, Option.some.injEq, Prod.mk.injEq] at e'
    obtain ⟨e1, e2⟩ := e'
    subst e1
    exact same (by rw [e, e2]) h e2.symm
  | box => exact h.elim
  | mu c q => simp [frz] at e
  | own xs =>
    simp only [frz, Option.some.injEq, Prod.mk.injEq] at e
    obtain ⟨e1, e2⟩ := e
    subst e1 e2
    obtain ⟨p, vs, ev, h1, h2, h3, h4, h5⟩ := h
    subst ev
    have nm : ∀ i, ¬ MutAt σ ds i p := fun i hi => h2 (s.mutO R0 p ⟨i, hi⟩)
    obtain ⟨O'', a1, a2, a3, R'⟩ := R.tmp h3 nm
    refine ⟨O'', ⟨fun q hq => s.o1 q (a1 q hq), fun q hq n => a2 q (s.o2 q hq n) fun z => h2 (z ▸ hq), s.kp, s.dm, s.sl, s.mu, s.bx⟩, R', .lst ⟨h4, a3⟩ (RpL.less R.lo a1 h5), a1, fun w dw hw hne => ?_⟩
    cases dw with
    | exc xa xb => exact hw.elim
    | fd xc => exact FdS.less R.lo a1 hw
    | d x => exact Rp.less R.lo a1 hw
    | own ys =>
      obtain ⟨q, us, ew, b1, b2, b3, b4, b5⟩ := hw
      exact ⟨q, us, ew, a2 q b1 fun z => hne p rfl (show w = .ref p by rw [ew, z]), b2, b3, b4, RpL.less R.lo a1 b5⟩
    | box => exact hw
    | mu c q =>
      obtain ⟨ew, b1, b4⟩ := hw
      exact ⟨ew, fun u hu => ⟨a2 u (b1 u hu).1 fun z => hne p rfl (show p = q ∨ p ∈ innM c from z ▸ hu), (b1 u hu).2⟩, b4.less R.lo a1⟩
    | slot j => exact hw
  | slot i =>
    obtain ⟨h1, dw, h2⟩ := h
    obtain ⟨w, e1, r⟩ := R.sl i dw h2
    rw [h1] at e1; cases e1
    have e0 := e
    simp only [frz, h2] at e
    cases dw with
    | exc xa xb => first | exact h.elim | exact hw.elim | exact hr.elim | exact rr.elim | exact rx.elim | exact h3.elim | exact c3.elim | exact c.elim | exact hab.elim | exact q.elim | (simp [peek] at hp; done) | (simp [frz] at e; done) | (simp [frz] at e1; done) | (simp [argOf] at ax; done) | (simp [argOf] at e1; done) | (simp [isBx] at hab; done) | (simp [argOf] at h; done) | (simp [peek] at e; done) | (simp [isBx] at hbx; done) | exact h | exact hw | exact r | (cases e; done) | (cases e2; done) | rfl | (simp at e; done) | (simp at h; done)
    | fd xc => first | exact h.elim | exact hw.elim | exact hr.elim | exact rr.elim | exact rx.elim | exact h3.elim | exact c3.elim | exact c.elim | exact hab.elim | exact q.elim | (simp [peek] at hp; done) | (simp [frz] at e; done) | (simp [frz] at e1; done) | (simp [argOf] at ax; done) | (simp [argOf] at e1; done) | (simp [isBx] at hab; done) | (simp [argOf] at h; done) | (simp [peek] at e; done) | (simp [isBx] at hbx; done) | exact h | exact hw | exact r | (cases e; done) | (cases e2; done) | rfl | (simp at e; done) | (simp at h; done)
    | d x =>
      simp only [Option.some.injEq, Prod.mk.injEq] at e
      obtain ⟨q1, q2⟩ := e
      subst q1
      exact same (by rw [e0, q2]) r q2.symm
    | own xs =>
      simp only [Option.some.injEq, Prod.mk.injEq] at e
      obtain ⟨q1, q2⟩ := e
      subst q1 q2
      obtain ⟨p, vs, ev, b1, b2, b3⟩ := r
      subst ev
      obtain ⟨O'', a1, a2, R', rp⟩ := R.drop (P := fun q => q = p) h1 h2
      have mi : MutAt σ ds i p := mutAt h1 h2 trivial
      have hlen : i < ds.sl.length := (List.getElem?_eq_some_iff.mp h2).1
      refine ⟨O'', ⟨fun q hq => s.o1 q (a1 q hq), fun q hq n => a2 q (s.o2 q hq n) fun z => n i (z ▸ s.mu i p mi), s.kp, s.dm, fun j dv hj => ?_, fun j q hj => ?_, fun j q hj => ?_⟩, R', rp, a1, fun w dw hw hne => ?_⟩
      · obtain ⟨dv', hj'⟩ := s.sl j dv hj
        by_cases ej : i = j
        · subst ej
          exact ⟨.d (.list xs), by rw [List.getElem?_set_self hlen]⟩
        · exact ⟨dv', by rw [List.getElem?_set_ne ej]; exact hj'⟩
      · obtain ⟨c0, c1, dv, c2, c3, c4⟩ := hj
        rcases sl_set_of c2 with ⟨z1, z2⟩ | ⟨z1, z2⟩
        · subst z2; exact c3.elim
        · exact s.mu j q ⟨c0, c1, dv, z2, c3, c4⟩
      · obtain ⟨c1, c2⟩ := hj
        rcases sl_set_of c2 with ⟨z1, z2⟩ | ⟨z1, z2⟩
        · cases z2
        · exact s.bx j q ⟨c1, z2⟩
      · cases dw with
        | exc xa xb => exact hw.elim
        | fd xc => exact FdS.less R.lo a1 hw
        | d x => exact Rp.less R.lo a1 hw
        | own ys =>
          obtain ⟨q, us, ew, c1, c2, c3, c4, c5⟩ := hw
          exact ⟨q, us, ew, a2 q c1 fun z => c2 (s.mutO R0 q ⟨i, z ▸ mi⟩), c2, c3, c4, RpL.less R.lo a1 c5⟩
        | box => exact hw
        | mu c q =>
          obtain ⟨ew, c1, c4⟩ := hw
          exact ⟨ew, fun u hu => ⟨a2 u (c1 u hu).1 fun z => (c1 u hu).2.1 (s.mutO R0 u ⟨i, z ▸ mi⟩), (c1 u hu).2⟩, c4.less R.lo a1⟩
        | slot j =>
          obtain ⟨c1, dv, c2⟩ := hw
          refine ⟨c1, ?_⟩
          by_cases ej : i = j
          · subst ej
            exact ⟨.d (.list xs), by rw [List.getElem?_set_self hlen]⟩
          · exact ⟨dv, by rw [List.getElem?_set_ne ej]; exact c2⟩
    | box => simp at e
    | mu c q => simp at e
    | slot j => simp at e
theorem frzL_ok (R0 : Rep K F H0 O σ ds0) : ∀ {dvs : List DV} {vs : List V} {O' : List Addr} {ds ds' : DS} {xs : List D}, Step σ H0 O ds0 H O' ds → Rep K F H O' σ ds → RpVs K F H O O' σ ds vs dvs → frzL ds dvs = some (xs, ds') →
    ∃ O'', Step σ H0 O ds0 H O'' ds' ∧ Rep K F H O'' σ ds' ∧ RpL K H O'' vs xs ∧ ∀ p ∈ O'', p ∈ O'
  | [], vs, O', ds, ds', xs, s, R, h, e => by
    have h' := h.1
    cases h'
    simp only [frzL, Option.some.injEq, Prod.mk.injEq] at e
    obtain ⟨e1, e2⟩ := e
    subst e1 e2
    exact ⟨O', s, R, .nil, fun _ h => h⟩
  | dv :: dvs, vs, O', ds, ds', xs, s, R, h, e => by
    obtain ⟨hp, ha⟩ := h
    cases hp with
    | cons h1 h2 =>
      rename_i v vr
      simp only [frzL] at e
      cases e1 : frz ds dv with
      | none => rw [e1] at e; simp at e
      | some q =>
        obtain ⟨d, ds1⟩ := q
        rw [e1] at e
        simp only at e
        cases e2 : frzL ds1 dvs with
        | none => rw [e2] at e; simp at e
        | some q =>
          obtain ⟨r, ds2⟩ := q
          rw [e2] at e
          simp only [Option.some.injEq, Prod.mk.injEq] at e
          obtain ⟨q1, q2⟩ := e
          subst q1 q2
          obtain ⟨O1, s1, R1, r1, sub1, oth⟩ := frz_ok R0 s R h1 e1
          have hvs : RpVs K F H O O1 σ ds1 vr dvs := by
            refine ⟨?_, fun i j v' w' x y hij a b c d => ha (i + 1) (j + 1) v' w' x y (fun z => hij (by omega)) (by simpa using a) (by simpa using b) (by simpa using c) (by simpa using d)⟩
            have aux : ∀ {ws : List V} {dws : List DV}, Paired (RpV K F H O O' σ ds) ws dws → (∀ (k : Nat) (w : V) (dw : DV), ws[k]? = some w → dws[k]? = some dw → Apt v dv w dw) → Paired (RpV K F H O O1 σ ds1) ws dws := by
              intro ws dws hh
              induction hh with
              | nil => intro _; exact .nil
              | cons q _ ih =>
                intro hn
                exact .cons (oth _ _ q (hn 0 _ _ rfl rfl)) (ih fun k w dw a b => hn (k + 1) w dw (by simpa using a) (by simpa using b))
            exact aux h2 fun k w dw a b => ha 0 (k + 1) v w dv dw (by omega) rfl (by simpa using a) rfl (by simpa using b)
          obtain ⟨O2, s2, R2, r2, sub2⟩ := frzL_ok R0 s1 R1 hvs e2
          exact ⟨O2, s2, R2, .cons (Rp.less R1.lo sub2 r1) r2, fun p hp => sub1 p (sub2 p hp)⟩
end
section
variable {X : Cx} {F : Fx} {e a b c : Expr} {es : List Expr} {ta tb tc : DTE} {pos : Pos}
def tTupF (t : TA) : TE := fun σ H Q => t σ H fun xs H1 => xs.length ≤ sizeLine ∧ ∀ p o, H1 p = none → o.dict = none → Q (.ref p) (upd H1 p (.frz o (.tup xs)))
theorem pe_tupF {x1} {t : TA} (h : PA X es t) : PE X (.Tuple es x1 pos) (tTupF t) := by
  constructor
  intro pins s σ H Q I hq
  refine wpAny_Tuple_spliced (thn (h.run pos pins s σ H _ I hq) ?_)
  rintro us s1 ⟨xs, H1, I1, r, z, q⟩
  have hl := r.length
  refine ⟨by omega, .ref s1.heap.objs.size, _, I1.laid (o := .frz { cls := .type "tuple", data := .seq us.toArray } (.tup xs)) (t' := s1.toks) (fun b u e => Heap.get?_push_of_some _ e) (Nat.le_refl _) ?_, rfl, q _ _ I1.fresh rfl⟩
  have g := Heap.get?_push_size s1.heap (o := { cls := .type "tuple", data := .seq us.toArray }) rfl
  exact ⟨g, z, us, r, _, g, rfl, _, rfl⟩
def few (n : Nat) (P : Prop) : Prop := match Nat.ble n 1000 with
  | true => P
  | false => False
theorem few_le {n : Nat} {P : Prop} (h : few n P) : n ≤ 1000 ∧ P := by
  unfold few at h
  split at h
  · rename_i e; exact ⟨Nat.le_of_ble_eq_true e, h⟩
  · exact h.elim
theorem k_line : (1000 : Nat) ≤ sizeLine := by decide
def dTup (t : DTA) : DTE := fun ds Q => t ds fun xs ds1 => match frzL ds1 xs with
  | some (r, ds2) => few r.length (Q (.d (.tuple r)) ds2)
  | none => False
def dLst (t : DTA) : DTE := fun ds Q => t ds fun xs ds1 => match frzL ds1 xs with
  | some (r, ds2) => few r.length (Q (.own r) ds2)
  | none => False
theorem de_tup {x1} {t : DTA} (h : DA X F es t) : DE X F (.Tuple es x1 pos) (dTup t) := PE_imp (pe_tupF h) fun σ H Q ⟨O, ds, Qa, R, ht, hq⟩ =>
  ⟨O, ds, _, R, ht, fun xs ds1 vs H1 O1 s1 R1 rx hx => by
    cases e : frzL ds1 xs with
    | none => rw [e] at hx; exact hx.elim
    | some q =>
      obtain ⟨r, ds2⟩ := q
      rw [e] at hx
      obtain ⟨O2, s2, R2, rl, _⟩ := frzL_ok R s1 R1 rx e
      obtain ⟨hn, hx⟩ := few_le hx
      refine ⟨by have := rl.length; have := k_line; omega, fun p o hp ho => (mkCont R s2 R2 hq).tup p o vs r hp ho rl hx⟩⟩
theorem de_lst {t : DTA} (h : DA X F es t) : DE X F (.List es pos) (dLst t) := PE_imp (pe_lst h) fun σ H Q ⟨O, ds, Qa, R, ht, hq⟩ =>
  ⟨O, ds, _, R, ht, fun xs ds1 vs H1 O1 s1 R1 rx hx => by
    cases e : frzL ds1 xs with
    | none => rw [e] at hx; exact hx.elim
    | some q =>
      obtain ⟨r, ds2⟩ := q
      rw [e] at hx
      obtain ⟨O2, s2, R2, rl, _⟩ := frzL_ok R s1 R1 rx e
      obtain ⟨hn, hx⟩ := few_le hx
      refine ⟨by have := rl.length; have := k_line; omega, fun p hp => (mkCont R s2 R2 hq).lst p vs r hp rl hx⟩⟩
def truD : D → Option Bool
  | .none => some false
  | .bool b => some b
  | .int i => some (i != 0)
  | .list xs => some (!xs.isEmpty)
  | .tuple xs => some (!xs.isEmpty)
  | _ => none
def dTst (t : DTE) : DTT := fun ds Q => t ds fun x ds1 => match peek ds1 x with
  | some (.bool b) => Q b ds1
  | _ => False
theorem tst_lift {K : Fg} {σ : St} {H : Hp} {Q : Bool → Hp → Prop} {t : DTE} (h : liftT K F (dTst t) σ H Q) : lift K F t σ H fun x H' => ∃ k, x = .bl k ∧ Q k H' := by
  obtain ⟨O, ds, Qa, R, ht, hq⟩ := h
  refine ⟨O, ds, _, R, ht, fun x ds1 v H1 O1 s1 R1 rx hx => ?_⟩
  split at hx
  · rename_i b e
    exact ⟨b, (RpV.vw R1 rx e).bool, hq b ds1 H1 O1 s1 R1 hx⟩
  · exact hx.elim
def dTr (t : DTE) : DTT := fun ds Q => t ds fun x ds1 => match (peek ds1 x).bind truD with
  | some b => Q b ds1
  | _ => False
theorem dt_tru (h : DE X F e ta) (he : ∀ whole, isTrue e X.env whole = (do let v ← whole; standAt e.pos; holding [v] (truthy v)) := by intro _; rfl) : DT X F e (dTr ta) :=
  PT_imp (pt_truth h he) fun σ H Q ⟨O, ds, Qa, R, ht, hq⟩ => ⟨O, ds, _, R, ht, fun x ds1 v H1 O1 s1 R1 rx hx => by
    cases e : peek ds1 x with
    | none => rw [e] at hx; exact hx.elim
    | some d =>
      rw [e] at hx
      have w := RpV.vw R1 rx e
      cases d with
      | none => exact ⟨false, by rw [w.none]; rfl, hq _ ds1 H1 O1 s1 R1 hx⟩
      | bool b => exact ⟨b, by rw [w.bool]; rfl, hq _ ds1 H1 O1 s1 R1 hx⟩
      | int i => exact ⟨i != 0, by rw [w.int]; rfl, hq _ ds1 H1 O1 s1 R1 hx⟩
      | str s => exact hx.elim
      | list xs =>
        obtain ⟨p, vs, ev, h1, h2⟩ := w.list
        subst ev
        have hl := h2.length
        refine ⟨!vs.isEmpty, .inl ⟨vs, .inl (.inl h1), rfl⟩, hq _ ds1 H1 O1 s1 R1 ?_⟩
        have : vs.isEmpty = xs.isEmpty := by cases vs <;> cases xs <;> simp_all
        rw [this]
        exact hx
      | tuple xs =>
        obtain ⟨p, vs, ev, h1, h2⟩ := w.tuple
        subst ev
        have hl := h2.length
        refine ⟨!vs.isEmpty, .inr (.inl ⟨vs, h1, rfl⟩), hq _ ds1 H1 O1 s1 R1 ?_⟩
        have : vs.isEmpty = xs.isEmpty := by cases vs <;> cases xs <;> simp_all
        rw [this]
        exact hx
      | dict k => exact hx.elim⟩
def dNot (t : DTT) : DTT := fun ds Q => t ds fun b ds1 => Q (!b) ds1
theorem dt_not {t : DTT} (h : DT X F e t) : DT X F (.UnaryOp .Not e pos) (dNot t) := PT_imp (pt_not h) fun σ H Q ⟨O, ds, Qa, R, ht, hq⟩ => ⟨O, ds, _, R, ht, fun b ds1 H1 O1 s1 R1 hx => hq _ ds1 H1 O1 s1 R1 hx⟩
abbrev DW (X : Cx) (F : Fx) (e : Expr) (t : DTT) : Prop := PW X e (liftT X.K F t)
def dAnd (t u : DTT) : DTT := fun ds Q => t ds fun b ds1 => match b with
  | true => u ds1 Q
  | false => Q false ds1
def dOr (t u : DTT) : DTT := fun ds Q => t ds fun b ds1 => match b with
  | true => Q true ds1
  | false => u ds1 Q
theorem PW_imp {X : Cx} {e : Expr} {t t' : TT} (h : PW X e t) (hi : ∀ σ H Q, t' σ H Q → t σ H Q) : PW X e t' := ⟨fun wh pins s σ H Q I q => h.run wh pins s σ H Q I (hi _ _ _ q)⟩
theorem dw_and {rest : List Expr} {t u : DTT} (ha : DT X F a t) (hb : DW X F (.BoolOp .And (b :: rest) pos) u) : DW X F (.BoolOp .And (a :: b :: rest) pos) (dAnd t u) :=
  PW_imp (pw_and ha hb) fun σ H Q ⟨O, ds, Qa, R, ht, hq⟩ => ⟨O, ds, _, R, ht, fun b ds1 H1 O1 s1 R1 hx => by
    cases b with
    | true => exact iteT ⟨O1, ds1, _, R1, hx, fun b ds2 H2 O2 s2 R2 h2 => hq b ds2 H2 O2 (s1.trans s2) R2 h2⟩
    | false => exact iteF (hq _ ds1 H1 O1 s1 R1 hx)⟩
theorem dw_or {rest : List Expr} {t u : DTT} (ha : DT X F a t) (hb : DW X F (.BoolOp .Or (b :: rest) pos) u) : DW X F (.BoolOp .Or (a :: b :: rest) pos) (dOr t u) :=
  PW_imp (pw_or ha hb) fun σ H Q ⟨O, ds, Qa, R, ht, hq⟩ => ⟨O, ds, _, R, ht, fun b ds1 H1 O1 s1 R1 hx => by
    cases b with
    | true => exact iteT (hq _ ds1 H1 O1 s1 R1 hx)
    | false => exact iteF ⟨O1, ds1, _, R1, hx, fun b ds2 H2 O2 s2 R2 h2 => hq b ds2 H2 O2 (s1.trans s2) R2 h2⟩⟩
theorem dw_and1 {t : DTT} (ha : DT X F a t) : DW X F (.BoolOp .And [a] pos) t := pw_and1 ha
theorem dw_or1 {t : DTT} (ha : DT X F a t) : DW X F (.BoolOp .Or [a] pos) t := pw_or1 ha
def dAndV (ta tb : DTE) : DTE := fun ds Q => ta ds fun x ds1 => match peek ds1 x with
  | some (.bool true) => tb ds1 Q
  | some (.bool false) => Q (.d (.bool false)) ds1
  | _ => False
theorem lift_step {K : Fg} {σ : St} {H H1 : Hp} {O O1 : List Addr} {ds ds1 : DS} {Q : VK} {Qa : DV → DS → Prop} {t : DTE} (R : Rep K F H O σ ds) (s1 : Step σ H O ds H1 O1 ds1) (R1 : Rep K F H1 O1 σ ds1) (ht : t ds1 Qa)
    (hq : ∀ dv ds' v H' O', Step σ H O ds H' O' ds' → Rep K F H' O' σ ds' → RpV K F H' O O' σ ds' v dv → Qa dv ds' → Q v H') : lift K F t σ H1 Q :=
  ⟨O1, ds1, Qa, R1, ht, fun dv ds2 v H2 O2 s2 R2 rv h => hq dv ds2 v H2 O2 (s1.trans s2) R2 (RpV.old rv (Step.gone R s1 s2)) h⟩
theorem de_and {rest : List Expr} (ha : DE X F a ta) (hb : DE X F (.BoolOp .And (b :: rest) pos) tb) : DE X F (.BoolOp .And (a :: b :: rest) pos) (dAndV ta tb) :=
  PE_imp (pe_and ha hb) fun σ H Q ⟨O, ds, Qa, R, ht, hq⟩ => ⟨O, ds, _, R, ht, fun x ds1 v H1 O1 s1 R1 rx hx => by
    split at hx
    · rename_i e
      exact ⟨true, (RpV.vw R1 rx e).bool, iteT (lift_step R s1 R1 hx hq)⟩
    · rename_i e
      exact ⟨false, (RpV.vw R1 rx e).bool, iteF (hq (.d (.bool false)) ds1 (.bl false) H1 O1 s1 R1 (.bl false) hx)⟩
    · exact hx.elim⟩
theorem de_one {op : BoolOp} (ha : DE X F a ta) : DE X F (.BoolOp op [a] pos) ta := pe_one ha
def dIf (t : DTT) (ta tb : DTE) : DTE := fun ds Q => t ds fun b ds1 => match b with
  | true => ta ds1 Q
  | false => tb ds1 Q
theorem de_if {t : DTT} (hc : DT X F c t) (ha : DE X F a ta) (hb : DE X F b tb) : DE X F (.IfExp c a b pos) (dIf t ta tb) :=
  PE_imp (pe_ifExp hc ha hb) fun σ H Q ⟨O, ds, Qa, R, ht, hq⟩ => ⟨O, ds, _, R, ht, fun b ds1 H1 O1 s1 R1 hx => by
    cases b with
    | true => exact iteT (lift_step R s1 R1 hx hq)
    | false => exact iteF (lift_step R s1 R1 hx hq)⟩
end
structure DEn where
  nx : DS → Prop
  rt : DV → DS → Prop
  bk : DS → Prop := fun _ => False
  ct : DS → Prop := fun _ => False
abbrev DTS := DEn → DS → Prop
structure HS (O : List Addr) (H : Hp) (O' : List Addr) (H' : Hp) : Prop where
  kp : Keep O H H'
  gr : Grow O O' H
  dm : ∀ a, H a ≠ none → H' a ≠ none
def RpR (K : Fg) (F : Fx) (H : Hp) (v : V) : DV → Prop
  | .d x => Rp K H F.O v x
  | .own xs => ∃ p vs, v = .ref p ∧ F.Hin p = none ∧ H p = some (.lst vs) ∧ RpL K H (p :: F.O) vs xs
  | .box => False
  | .mu c p => v = .ref p ∧ (∀ q, q = p ∨ q ∈ innM c → F.Hin q = none) ∧ MuAt K H (p :: (innM c ++ F.O)) p c
  | .slot _ => False
  | .exc _ _ => False
  | .fd c => FdS K H F.O v c
def RpQ (K : Fg) (F : Fx) (H : Hp) (O : List Addr) (v : V) : DV → Prop
  | .d x => Rp K H O v x
  | .own xs => ∃ p vs, v = .ref p ∧ F.Hin p = none ∧ p ∈ O ∧ H p = some (.lst vs) ∧ RpL K H O vs xs
  | .box => False
  | .mu c p => v = .ref p ∧ (∀ q, q = p ∨ q ∈ innM c → F.Hin q = none ∧ q ∈ O) ∧ MuAt K H O p c
  | .slot _ => False
  | .exc _ _ => False
  | .fd c => FdS K H O v c
theorem RpQ.out {K : Fg} {F : Fx} {H : Hp} {O : List Addr} {v : V} {dv : DV} (lo : LO O H) (sub : ∀ p ∈ F.O, p ∈ O) (h : RpQ K F H O v dv) : RpR K F H v dv := by
  cases dv with
  | d x => exact Rp.less lo sub h
  | own xs =>
    obtain ⟨p, vs, ev, hi, ho, hp, hl⟩ := h
    exact ⟨p, vs, ev, hi, hp, RpL.less lo (fun q hq => (List.mem_cons.mp hq).elim (fun z => z ▸ ho) (sub q)) hl⟩
  | box => exact h.elim
  | mu c p =>
    obtain ⟨ev, h1, m⟩ := h
    exact ⟨ev, fun q hq => (h1 q hq).1, m.less lo fun q hq => (List.mem_cons.mp hq).elim (fun z => z ▸ (h1 p (.inl rfl)).2) fun z => (List.mem_append.mp z).elim (fun z => (h1 q (.inr z)).2) (sub q)⟩
  | slot i => exact h.elim
  | exc a b => exact h.elim
  | fd c => exact FdS.less lo sub h
structure Ok (K : Fg) (F : Fx) (O : List Addr) (H : Hp) (E : DEn) (D : Ends) : Prop where
  nx : ∀ O' ds' σ' H', HS O H O' H' → Rep K F H' O' σ' ds' → E.nx ds' → D.nx σ' H'
  rt : ∀ O' ds' σ' H' v dv, HS O H O' H' → Rep K F H' O' σ' ds' → RpQ K F H' O' v dv → E.rt dv ds' → D.rt v H'
  bk : ∀ O' ds' σ' H', HS O H O' H' → Rep K F H' O' σ' ds' → E.bk ds' → D.bk σ' H'
  ct : ∀ O' ds' σ' H', HS O H O' H' → Rep K F H' O' σ' ds' → E.ct ds' → D.ct σ' H'
def liftS (K : Fg) (F : Fx) (t : DTS) : TS := fun D σ H => ∃ O ds E, Rep K F H O σ ds ∧ t E ds ∧ Ok K F O H E D
abbrev DSt (X : Cx) (F : Fx) (st : Stmt) (t : DTS) : Prop := PS X st (liftS X.K F t)
abbrev DSs (X : Cx) (F : Fx) (st : List Stmt) (t : DTS) : Prop := PSs X st (liftS X.K F t)
section
variable {K : Fg} {F : Fx} {H H1 H2 : Hp} {O O1 O2 : List Addr} {σ : St} {ds ds1 : DS} {E : DEn} {D : Ends}
theorem HS.refl : HS O H O H := ⟨fun _ _ h _ => h, grow_refl, fun _ h => h⟩
theorem HS.trans (a : HS O H O1 H1) (b : HS O1 H1 O2 H2) : HS O H O2 H2 where
  kp := fun x o h n => b.kp x o (a.kp x o h n) fun z => by
    rcases a.gr x z with q | q
    · exact n q
    · rw [h] at q; cases q
  gr := fun p hp => by
    rcases b.gr p hp with h | h
    · exact a.gr p h
    · right
      cases e : H p with
      | none => rfl
      | some o => exact absurd h (a.dm p (by rw [e]; simp))
  dm := fun x h => b.dm x (a.dm x h)
theorem Step.hs (R : Rep K F H O σ ds) (s : Step σ H O ds H1 O1 ds1) : HS O H O1 H1 := ⟨s.keepO R, s.o1, s.dm⟩
theorem Ok.later (k : Ok K F O H E D) (h : HS O H O1 H1) : Ok K F O1 H1 E D :=
  ⟨fun O' ds' σ' H' a => k.nx O' ds' σ' H' (h.trans a), fun O' ds' σ' H' v dv a => k.rt O' ds' σ' H' v dv (h.trans a), fun O' ds' σ' H' a => k.bk O' ds' σ' H' (h.trans a), fun O' ds' σ' H' a => k.ct O' ds' σ' H' (h.trans a)⟩
end
section
variable {X : Cx} {F : Fx} {e c : Expr} {st : Stmt} {sts sts' : List Stmt} {te : DTE} {t u : DTS} {pos : Pos}
def dNext : DTS := fun E ds => E.nx ds
def dSeq (t u : DTS) : DTS := fun E ds => t { E with nx := u E } ds
theorem dss_nil : DSs X F [] dNext := PSs_imp pss_nil fun D σ H ⟨O, ds, E, R, ht, k⟩ => k.nx O ds σ H HS.refl R ht
theorem dss_cons (h1 : DSt X F st t) (h2 : DSs X F sts u) : DSs X F (st :: sts) (dSeq t u) := PSs_imp (pss_cons h1 h2) fun D σ H ⟨O, ds, E, R, ht, k⟩ =>
  ⟨O, ds, _, R, ht, ⟨fun O' ds' σ' H' a R' h => ⟨O', ds', E, R', h, k.later a⟩, k.rt, k.bk, k.ct⟩⟩
theorem dss_one (h1 : DSt X F st t) : DSs X F [st] t := pss_one h1
def dIfS (c : DTT) (t u : DTS) : DTS := fun E ds => c ds fun b ds1 => match b with
  | true => t E ds1
  | false => u E ds1
theorem ds_if {tc : DTT} (hc : DT X F c tc) (ha : DSs X F sts t) (hb : DSs X F sts' u) : DSt X F (.If c sts sts' pos) (dIfS tc t u) := PS_imp (ps_if hc ha hb) fun D σ H ⟨O, ds, E, R, ht, k⟩ =>
  ⟨O, ds, _, R, ht, fun b ds1 H1 O1 s1 R1 hx => by
    cases b with
    | true => exact iteT ⟨O1, ds1, E, R1, hx, k.later (s1.hs R)⟩
    | false => exact iteF ⟨O1, ds1, E, R1, hx, k.later (s1.hs R)⟩⟩
def dDrop (te : DTE) : DTS := fun E ds => te ds fun _ ds1 => E.nx ds1
theorem ds_expr (he : DE X F e te) (hs : swapsWith e none pos.line X.env = pure false := by rfl) : DSt X F (.Expr e pos) (dDrop te) := PS_imp (ps_expr he hs) fun D σ H ⟨O, ds, E, R, ht, k⟩ =>
  ⟨O, ds, _, R, ht, fun x ds1 v H1 O1 s1 R1 rx hx => k.nx O1 ds1 σ H1 (s1.hs R) R1 hx⟩
def retV (ds : DS) : DV → Option DV
  | .d x => some (.d x)
  | .own xs => some (.own xs)
  | .box => none
  | .mu _ _ => none
  | .slot i => match ds.sl[i]? with
    | some (some (.d x)) => some (.d x)
    | some (some (.own xs)) => some (.own xs)
    | _ => none
  | .exc _ _ => none
  | .fd c => some (.fd c)
def dRet (te : DTE) : DTS := fun E ds => te ds fun x ds1 => match retV ds1 x with
  | some r => E.rt r ds1
  | none => False
theorem RpV.ret {K : Fg} {H : Hp} {O O' : List Addr} {σ : St} {ds : DS} {v : V} {dv r : DV} (R : Rep K F H O' σ ds) (h : RpV K F H O O' σ ds v dv) (e : retV ds dv = some r) : RpQ K F H O' v r := by
  have own : ∀ p vs xs, v = .ref p → F.Hin p = none → p ∈ O' → H p = some (.lst vs) → RpL K H O' vs xs → RpQ K F H O' v (.own xs) := fun p vs xs ev hi ho hp hl => ⟨p, vs, ev, hi, ho, hp, hl⟩
  cases dv with
  | exc xa xb => first | exact h.elim | exact hw.elim | exact hr.elim | exact rr.elim | exact rx.elim | exact h3.elim | exact c3.elim | exact c.elim | exact hab.elim | exact q.elim | (simp [peek] at hp; done) | (simp [frz] at e; done) | (simp [frz] at e1; done) | (simp [argOf] at ax; done) | (simp [argOf] at e1; done) | (simp [isBx] at hab; done) | (simp [argOf] at h; done) | (simp [peek] at e; done) | (simp [isBx] at hbx; done) | exact h | exact hw | exact r | (cases e; done) | (cases e2; done) | rfl | (simp at e; done) | (simp at h; done)
  | fd xc => cases e; exact h
  | d x => cases e; exact h
  | own xs =>
    cases e
    obtain ⟨p, vs, ev, h1, h2, h3, h4, h5⟩ := h
    exact own p vs xs ev h3 h1 h4 h5
  | box => cases e
  | mu c q => cases e
  | slot i =>
    obtain ⟨h1, dw, h2⟩ := h
    obtain ⟨w, e1, q⟩ := R.sl i dw h2
    rw [h1] at e1; cases e1
    simp only [retV, h2] at e
    cases dw with
    | exc xa xb => first | exact h.elim | exact hw.elim | exact hr.elim | exact rr.elim | exact rx.elim | exact h3.elim | exact c3.elim | exact c.elim | exact hab.elim | exact q.elim | (simp [peek] at hp; done) | (simp [frz] at e; done) | (simp [frz] at e1; done) | (simp [argOf] at ax; done) | (simp [argOf] at e1; done) | (simp [isBx] at hab; done) | (simp [argOf] at h; done) | (simp [peek] at e; done) | (simp [isBx] at hbx; done) | exact h | exact hw | exact r | (cases e; done) | (cases e2; done) | rfl | (simp at e; done) | (simp at h; done)
    | fd xc => cases e
    | d x => cases e; exact q
    | own xs =>
      cases e
      obtain ⟨p, vs, ev, a1, a2, a3⟩ := q
      subst ev
      exact own p vs xs rfl (R.newO i p xs h1 h2) a1 a2 a3
    | box => cases e
    | mu c q => cases e
    | slot j => cases e
theorem ds_ret (he : DE X F e te) : DSt X F (.Return (some e) pos) (dRet te) := PS_imp (ps_ret he) fun D σ H ⟨O, ds, E, R, ht, k⟩ =>
  ⟨O, ds, _, R, ht, fun x ds1 v H1 O1 s1 R1 rx hx => by
    cases e : retV ds1 x with
    | none => rw [e] at hx; exact hx.elim
    | some r =>
      rw [e] at hx
      exact k.rt O1 ds1 σ H1 v r (s1.hs R) R1 (RpV.ret R1 rx e) hx⟩
def putV (ds : DS) (i : Nat) : DV → Option DS
  | .own xs => some ⟨ds.sl.set i (some (.own xs)), ds.n⟩
  | .mu c p => some ⟨ds.sl.set i (some (.mu c p)), ds.n⟩
  | .fd c => some ⟨ds.sl.set i (some (.fd c)), ds.n⟩
  | .slot j => match ds.sl[j]? with
    | some (some (.mu c p)) => some ⟨(ds.sl.set j none).set i (some (.mu c p)), ds.n⟩
    | _ => match frz ds (.slot j) with
      | some (d, ds') => some ⟨ds'.sl.set i (some (.d d)), ds'.n⟩
      | none => none
  | x => match frz ds x with
    | some (d, ds') => some ⟨ds'.sl.set i (some (.d d)), ds'.n⟩
    | none => none
theorem Rep.setFd {K : Fg} {H : Hp} {O : List Addr} {σ : St} {ds : DS} {v : V} {c : Mu} (R : Rep K F H O σ ds) (i : Nat) (h : FdS K H O v c) : Rep K F H O (σ.set i (some v)) ⟨ds.sl.set i (some (.fd c)), ds.n⟩ := by
  have mut_of : ∀ j q, MutAt (σ.set i (some v)) ⟨ds.sl.set i (some (.fd c)), ds.n⟩ j q → MutAt σ ds j q := fun j q ⟨a0, a, dv, b, c', e⟩ => by
    rcases sl_set_of b with ⟨e1, e2⟩ | ⟨e1, e2⟩
    · subst e2; exact c'.elim
    · rw [List.getElem?_set_ne e1] at a
      exact ⟨a0, a, dv, e2, c', e⟩
  have box_of : ∀ j q, BoxS (σ.set i (some v)) ⟨ds.sl.set i (some (.fd c)), ds.n⟩ j q → BoxS σ ds j q := fun j q ⟨a, b⟩ => by
    rcases sl_set_of b with ⟨e1, e2⟩ | ⟨e1, e2⟩
    · cases e2
    · rw [List.getElem?_set_ne e1] at a
      exact ⟨a, e2⟩
  refine ⟨R.lo, R.sub, R.ext, fun j dv hj => ?_, fun j k q a b => R.mu j k q (mut_of j q a) (mut_of k q b), fun j q a => R.new j q (mut_of j q a), fun j q ys a b => ?_, R.bx, fun j q hb => R.bu j q (box_of j q hb), fun j k q r h1 h2 => R.b1 j k q r (box_of j q h1) (box_of k r h2), R.fo, R.bo, by simpa using R.len, fun j c' a q h hm => R.nm j c' a q ?_ (mut_of j q hm)⟩
  · rcases sl_set_of hj with ⟨e1, e2⟩ | ⟨e1, e2⟩
    · subst e1 e2
      have hi : i < σ.length := by
        have q := (List.getElem?_eq_some_iff.mp hj).1
        have := R.len
        simp at q
        omega
      exact ⟨v, by rw [List.getElem?_set_self hi], h⟩
    · obtain ⟨w, ew, r⟩ := R.sl j dv e2
      exact ⟨w, by rw [List.getElem?_set_ne e1]; exact ew, r⟩
  · rcases sl_set_of b with ⟨e1, e2⟩ | ⟨e1, e2⟩
    · cases e2
    · rw [List.getElem?_set_ne e1] at a
      exact R.newO j q ys a e2
  · rcases sl_set_of h with ⟨e1, e2⟩ | ⟨e1, e2⟩
    · cases e2
    · exact e2
theorem Rep.setD {K : Fg} {H : Hp} {O : List Addr} {σ : St} {ds : DS} {v : V} {d : D} (R : Rep K F H O σ ds) (i : Nat) (h : Rp K H O v d) : Rep K F H O (σ.set i (some v)) ⟨ds.sl.set i (some (.d d)), ds.n⟩ := by
  have mut_of : ∀ j q, MutAt (σ.set i (some v)) ⟨ds.sl.set i (some (.d d)), ds.n⟩ j q → MutAt σ ds j q := fun j q ⟨a0, a, dv, b, c, e⟩ => by
    rcases sl_set_of b with ⟨e1, e2⟩ | ⟨e1, e2⟩
    · subst e2; exact c.elim
    · rw [List.getElem?_set_ne e1] at a
      exact ⟨a0, a, dv, e2, c, e⟩
  have box_of : ∀ j q, BoxS (σ.set i (some v)) ⟨ds.sl.set i (some (.d d)), ds.n⟩ j q → BoxS σ ds j q := fun j q ⟨a, b⟩ => by
    rcases sl_set_of b with ⟨e1, e2⟩ | ⟨e1, e2⟩
    · cases e2
    · rw [List.getElem?_set_ne e1] at a
      exact ⟨a, e2⟩
  refine ⟨R.lo, R.sub, R.ext, fun j dv hj => ?_, fun j k q a b => R.mu j k q (mut_of j q a) (mut_of k q b), fun j q a => R.new j q (mut_of j q a), fun j q ys a b => ?_, R.bx, fun j q hb => R.bu j q (box_of j q hb), fun j k q r h1 h2 => R.b1 j k q r (box_of j q h1) (box_of k r h2), R.fo, R.bo, by simpa using R.len, fun j c' a q h hm => R.nm j c' a q ?_ (mut_of j q hm)⟩
  · rcases sl_set_of hj with ⟨e1, e2⟩ | ⟨e1, e2⟩
    · subst e1 e2
      have hi : i < σ.length := by
        have q := (List.getElem?_eq_some_iff.mp hj).1
        have := R.len
        simp at q
        omega
      exact ⟨v, by rw [List.getElem?_set_self hi], h⟩
    · obtain ⟨w, ew, r⟩ := R.sl j dv e2
      exact ⟨w, by rw [List.getElem?_set_ne e1]; exact ew, r⟩
  · rcases sl_set_of b with ⟨e1, e2⟩ | ⟨e1, e2⟩
    · cases e2
    · rw [List.getElem?_set_ne e1] at a
      exact R.newO j q ys a e2
  · rcases sl_set_of h with ⟨e1, e2⟩ | ⟨e1, e2⟩
    · cases e2
    · exact e2
theorem Rep.setO {K : Fg} {H : Hp} {O : List Addr} {σ : St} {ds : DS} {p : Addr} {vs : List V} {xs : List D} (R : Rep K F H O σ ds) (i : Nat) (ho : p ∈ O) (hn : F.Hin p = none) (hm : ∀ j, ¬ MutAt σ ds j p) (hp : H p = some (.lst vs)) (hl : RpL K H O vs xs) : Rep K F H O (σ.set i (some (.ref p))) ⟨ds.sl.set i (some (.own xs)), ds.n⟩ := by
  have mut_of : ∀ j q, MutAt (σ.set i (some (.ref p))) ⟨ds.sl.set i (some (.own xs)), ds.n⟩ j q → (j = i ∧ q = p) ∨ (j ≠ i ∧ MutAt σ ds j q) := fun j q ⟨a0, a, dv, b, c, e⟩ => by
    rcases sl_set_of b with ⟨e1, e2⟩ | ⟨e1, e2⟩
    · subst e1 e2
      have hi : i < σ.length := by have := (List.getElem?_eq_some_iff.mp a).1; simpa using this
      rw [List.getElem?_set_self hi] at a
      cases a
      rcases e with e | e
      · exact .inl ⟨rfl, e⟩
      · cases e
    · rw [List.getElem?_set_ne e1] at a
      exact .inr ⟨fun z => e1 z.symm, a0, a, dv, e2, c, e⟩
  have box_of : ∀ j q, BoxS (σ.set i (some (.ref p))) ⟨ds.sl.set i (some (.own xs)), ds.n⟩ j q → BoxS σ ds j q := fun j q ⟨a, b⟩ => by
    rcases sl_set_of b with ⟨e1, e2⟩ | ⟨e1, e2⟩
    · cases e2
    · rw [List.getElem?_set_ne e1] at a
      exact ⟨a, e2⟩
  refine ⟨R.lo, R.sub, R.ext, fun j dv hj => ?_, fun j k q a b => ?_, fun j q a => ?_, fun j q ys a b => ?_, R.bx, fun j q hb => R.bu j q (box_of j q hb), fun j k q r h1 h2 => R.b1 j k q r (box_of j q h1) (box_of k r h2), R.fo, R.bo, by simpa using R.len, fun j c' a q h hq => ?_⟩
  · rcases sl_set_of hj with ⟨e1, e2⟩ | ⟨e1, e2⟩
    · subst e1 e2
      have hi : i < σ.length := by
        have q := (List.getElem?_eq_some_iff.mp hj).1
        have := R.len
        simp at q
        omega
      exact ⟨_, by rw [List.getElem?_set_self hi], p, vs, rfl, ho, hp, hl⟩
    · obtain ⟨w, ew, r⟩ := R.sl j dv e2
      exact ⟨w, by rw [List.getElem?_set_ne e1]; exact ew, r⟩
  · rcases mut_of j q a with ⟨a1, a2⟩ | ⟨a1, a2⟩
    · rcases mut_of k q b with ⟨b1, b2⟩ | ⟨b1, b2⟩
      · omega
      · subst a2; exact absurd b2 (hm k)
    · rcases mut_of k q b with ⟨b1, b2⟩ | ⟨b1, b2⟩
      · subst b2; exact absurd a2 (hm j)
      · exact R.mu j k q a2 b2
  · rcases mut_of j q a with ⟨a1, a2⟩ | ⟨a1, a2⟩
    · subst a2; exact .inl hn
    · exact R.new j q a2
  · rcases sl_set_of b with ⟨e1, e2⟩ | ⟨e1, e2⟩
    · subst e1
      have hi : i < σ.length := by have := (List.getElem?_eq_some_iff.mp a).1; simpa using this
      rw [List.getElem?_set_self hi] at a
      cases a
      exact hn
    · rw [List.getElem?_set_ne e1] at a
      exact R.newO j q ys a e2
  · rcases sl_set_of h with ⟨e1, e2⟩ | ⟨e1, e2⟩
    · cases e2
    · rcases mut_of j q hq with ⟨w1, w2⟩ | ⟨w1, w2⟩
      · exact (e1 w1.symm).elim
      · exact R.nm j c' a q e2 w2
theorem Rep.setM {K : Fg} {H : Hp} {O : List Addr} {σ : St} {ds : DS} {p : Addr} {c : Mu} (R : Rep K F H O σ ds) (i : Nat) (ho : ∀ q, q = p ∨ q ∈ innM c → q ∈ O ∧ (F.Hin q = none ∨ q ∈ F.B) ∧ (F.Hin q = none ∨ q ∈ F.M) ∧ ∀ j, ¬ MutAt σ ds j q) (hp : MuAt K H O p c) : Rep K F H O (σ.set i (some (.ref p))) ⟨ds.sl.set i (some (.mu c p)), ds.n⟩ := by
  have mut_of : ∀ j q, MutAt (σ.set i (some (.ref p))) ⟨ds.sl.set i (some (.mu c p)), ds.n⟩ j q → (j = i ∧ (q = p ∨ q ∈ innM c)) ∨ (j ≠ i ∧ MutAt σ ds j q) := fun j q ⟨a0, a, dv, b, c', e⟩ => by
    rcases sl_set_of b with ⟨e1, e2⟩ | ⟨e1, e2⟩
    · subst e1 e2
      have hi : i < σ.length := by have := (List.getElem?_eq_some_iff.mp a).1; simpa using this
      rw [List.getElem?_set_self hi] at a
      cases a
      exact .inl ⟨rfl, e⟩
    · rw [List.getElem?_set_ne e1] at a
      exact .inr ⟨fun z => e1 z.symm, a0, a, dv, e2, c', e⟩
  have box_of : ∀ j q, BoxS (σ.set i (some (.ref p))) ⟨ds.sl.set i (some (.mu c p)), ds.n⟩ j q → BoxS σ ds j q := fun j q ⟨a, b⟩ => by
    rcases sl_set_of b with ⟨e1, e2⟩ | ⟨e1, e2⟩
    · cases e2
    · rw [List.getElem?_set_ne e1] at a
      exact ⟨a, e2⟩
  refine ⟨R.lo, R.sub, R.ext, fun j dv hj => ?_, fun j k q a b => ?_, fun j q a => ?_, fun j q ys a b => ?_, R.bx, fun j q hb => R.bu j q (box_of j q hb), fun j k q r h1 h2 => R.b1 j k q r (box_of j q h1) (box_of k r h2), R.fo, R.bo, by simpa using R.len, fun j c' a q h hq => ?_⟩
  · rcases sl_set_of hj with ⟨e1, e2⟩ | ⟨e1, e2⟩
    · subst e1 e2
      have hi : i < σ.length := by
        have q := (List.getElem?_eq_some_iff.mp hj).1
        have := R.len
        simp at q
        omega
      exact ⟨_, by rw [List.getElem?_set_self hi], rfl, fun q hq => (ho q hq).1, hp⟩
    · obtain ⟨w, ew, r⟩ := R.sl j dv e2
      exact ⟨w, by rw [List.getElem?_set_ne e1]; exact ew, r⟩
  · rcases mut_of j q a with ⟨a1, a2⟩ | ⟨a1, a2⟩
    · rcases mut_of k q b with ⟨b1, b2⟩ | ⟨b1, b2⟩
      · omega
      · exact absurd b2 ((ho q a2).2.2.2 k)
    · rcases mut_of k q b with ⟨b1, b2⟩ | ⟨b1, b2⟩
      · exact absurd a2 ((ho q b2).2.2.2 j)
      · exact R.mu j k q a2 b2
  · rcases mut_of j q a with ⟨a1, a2⟩ | ⟨a1, a2⟩
    · exact (ho q a2).2.1
    · exact R.new j q a2
  · rcases sl_set_of b with ⟨e1, e2⟩ | ⟨e1, e2⟩
    · cases e2
    · rw [List.getElem?_set_ne e1] at a
      exact R.newO j q ys a e2
  · rcases mut_of j q hq with ⟨w1, w2⟩ | ⟨w1, w2⟩
    · exact (ho q w2).2.2.1
    · rcases sl_set_of h with ⟨e1, e2⟩ | ⟨e1, e2⟩
      · exact (w1 e1.symm).elim
      · exact R.nm j c' a q e2 w2
theorem sl_none_of {i j : Nat} {dv : DV} {l : List (Option DV)} (h : (l.set i none)[j]? = some (some dv)) : i ≠ j ∧ l[j]? = some (some dv) := by
  by_cases e : i = j
  · subst e
    by_cases hi : i < l.length
    · rw [List.getElem?_set_self hi] at h; cases h
    · rw [List.getElem?_eq_none (by simpa using hi)] at h; cases h
  · rw [List.getElem?_set_ne e] at h
    exact ⟨e, h⟩
theorem Rep.gone {K : Fg} {H : Hp} {O : List Addr} {σ : St} {ds : DS} (R : Rep K F H O σ ds) (i : Nat) : Rep K F H O σ ⟨ds.sl.set i none, ds.n⟩ := by
  have mut_of : ∀ j q, MutAt σ ⟨ds.sl.set i none, ds.n⟩ j q → MutAt σ ds j q := fun j q ⟨a0, a, dv, b, c⟩ => ⟨a0, a, dv, (sl_none_of b).2, c⟩
  have box_of : ∀ j q, BoxS σ ⟨ds.sl.set i none, ds.n⟩ j q → BoxS σ ds j q := fun j q ⟨a, b⟩ => ⟨a, (sl_none_of b).2⟩
  exact ⟨R.lo, R.sub, R.ext, fun j dv hj => R.sl j dv (sl_none_of hj).2, fun j k q a b => R.mu j k q (mut_of j q a) (mut_of k q b), fun j q a => R.new j q (mut_of j q a), fun j q ys a b => R.newO j q ys a (sl_none_of b).2, R.bx, fun j q hb => R.bu j q (box_of j q hb), fun j k q r h1 h2 => R.b1 j k q r (box_of j q h1) (box_of k r h2), R.fo, R.bo, by simpa using R.len, fun j c' a q h hm => R.nm j c' a q (sl_none_of h).2 (mut_of j q hm)⟩
theorem put_ok {K : Fg} {H H1 : Hp} {O O1 : List Addr} {σ : St} {ds ds1 ds2 : DS} {v : V} {x : DV} {i : Nat} (R : Rep K F H O σ ds) (s1 : Step σ H O ds H1 O1 ds1) (R1 : Rep K F H1 O1 σ ds1) (rx : RpV K F H1 O O1 σ ds1 v x) (e : putV ds1 i x = some ds2) :
    ∃ O2, HS O H O2 H1 ∧ Rep K F H1 O2 (σ.set i (some v)) ds2 := by
  have gen : (∃ d ds', frz ds1 x = some (d, ds') ∧ ds2 = ⟨ds'.sl.set i (some (.d d)), ds'.n⟩) → ∃ O2, HS O H O2 H1 ∧ Rep K F H1 O2 (σ.set i (some v)) ds2 := fun ⟨d, ds', e1, e2⟩ => by
    subst e2
    obtain ⟨O2, s2, R2, r, _, _⟩ := frz_ok R s1 R1 rx e1
    exact ⟨O2, s2.hs R, R2.setD i r⟩
  cases x with
  | own xs =>
    simp only [putV, Option.some.injEq] at e
    subst e
    obtain ⟨p, vs, ev, h1, h2, h3, h4, h5⟩ := rx
    subst ev
    exact ⟨O1, s1.hs R, R1.setO i h1 h3 (fun j hj => h2 (s1.mutO R p ⟨j, hj⟩)) h4 h5⟩
  | mu c p =>
    simp only [putV, Option.some.injEq] at e
    subst e
    obtain ⟨ev, h1, h4⟩ := rx
    subst ev
    exact ⟨O1, s1.hs R, R1.setM i (fun q hq => ⟨(h1 q hq).1, .inl (h1 q hq).2.2, .inl (h1 q hq).2.2, fun j hj => (h1 q hq).2.1 (s1.mutO R q ⟨j, hj⟩)⟩) h4⟩
  | exc xa xb => exact rx.elim
  | fd xc =>
    simp only [putV, Option.some.injEq] at e
    subst e
    exact ⟨O1, s1.hs R, R1.setFd i rx⟩
  | d y => simp only [putV, frz, Option.some.injEq] at e; exact gen ⟨y, ds1, rfl, e.symm⟩
  | box => simp [putV, frz] at e
  | slot j =>
    simp only [putV] at e
    split at e
    · rename_i c p em
      simp only [Option.some.injEq] at e
      subst e
      obtain ⟨ev, dw, ew⟩ := rx
      obtain ⟨w, ev2, r⟩ := R1.sl j _ em
      rw [ev] at ev2
      cases ev2
      obtain ⟨e3, h1, h2⟩ := r
      subst e3
      have mi : ∀ q, q = p ∨ q ∈ innM c → MutAt σ ds1 j q := fun q hq => mutAtM ev em hq
      refine ⟨O1, s1.hs R, (R1.gone j).setM i (fun q hq => ⟨h1 q hq, R1.new j q (mi q hq), R1.nm j c p q em (mi q hq), fun k hk => ?_⟩) h2⟩
      obtain ⟨a0, a, dv, b, c⟩ := hk
      obtain ⟨b1, b2⟩ := sl_none_of b
      exact b1 (R1.mu j k q (mi q hq) ⟨a0, a, dv, b2, c⟩)
    · cases e1 : frz ds1 (.slot j) with
      | none => rw [e1] at e; simp at e
      | some q =>
        obtain ⟨d, ds'⟩ := q
        rw [e1] at e
        simp only [Option.some.injEq] at e
        exact gen ⟨d, ds', e1, e.symm⟩
def dSet (i : Nat) (te : DTE) : DTS := fun E ds => te ds fun x ds1 => match putV ds1 i x with
  | some ds2 => E.nx ds2
  | none => False
theorem ds_asg {i : Nat} {st : Stmt} (h : PS X st (tAsg (lift X.K F te) (gName i))) : DSt X F st (dSet i te) := PS_imp h fun D σ H ⟨O, ds, E, R, ht, k⟩ =>
  ⟨O, ds, _, R, ht, fun x ds1 v H1 O1 s1 R1 rx hx => by
    cases e : putV ds1 i x with
    | none => rw [e] at hx; exact hx.elim
    | some ds2 =>
      rw [e] at hx
      obtain ⟨O2, hs, R2⟩ := put_ok R s1 R1 rx e
      exact k.nx O2 ds2 _ H1 hs R2 hx⟩
theorem ds_set {i : Nat} {x : Str} {pos' : Pos} (hN : X.N.Nodup) (hi : X.N[i]? = some x) (hx : Loc X.env.scope x) (he : DE X F e te) (hs : swapsWith e (some (.Name x pos')) pos.line X.env = pure false := by rfl)
    (hf : X.fn x = true ∨ X.env.scope.names.lookup x = some .local := by first | exact .inl rfl | exact .inr rfl | assumption) : DSt X F (.Assign [.Name x pos'] e pos) (dSet i te) := ds_asg (ps_set hN hi hx he hs hf)
def dWhile (c : DTT) (tb : DTS) : DTS := fun E ds => ∃ W : Nat → DS → Prop, (∃ m, W m ds) ∧ ∀ m ds, W m ds → c ds fun b ds1 => match b with
  | true => tb { E with nx := fun ds' => ∃ m', m' < m ∧ W m' ds', ct := fun ds' => ∃ m', m' < m ∧ W m' ds', bk := E.nx } ds1
  | false => E.nx ds1
theorem ds_while {tc : DTT} (hp : PassesOwn (model X.prog X.w) X.A X.env X.xe) (hc : DT X F c tc) (hb : DSs X F sts t) : DSt X F (.While c sts [] pos) (dWhile tc t) := PS_imp (ps_while hp hc hb) fun D σ H ⟨O, ds, E, R, ht, k⟩ => by
  obtain ⟨W, ⟨m, w0⟩, turn⟩ := ht
  refine ⟨fun m σ' H' => ∃ O' ds', HS O H O' H' ∧ Rep X.K F H' O' σ' ds' ∧ W m ds', ⟨m, O, ds, HS.refl, R, w0⟩, ?_⟩
  rintro m σ1 H1 ⟨O1, ds1, h1, R1, w1⟩
  refine ⟨O1, ds1, _, R1, turn m ds1 w1, fun b ds2 H2 O2 s2 R2 hx => ?_⟩
  have h2 := h1.trans (s2.hs R1)
  cases b with
  | true =>
    refine iteT ⟨fun σ' H' => ∃ m', m' < m ∧ ∃ O' ds', HS O H O' H' ∧ Rep X.K F H' O' σ' ds' ∧ W m' ds', fun σ' H' ⟨m', lt, w⟩ => ⟨m', lt, w⟩, O2, ds2, _, R2, hx, ?_⟩
    exact ⟨fun O' ds' σ' H' a R' ⟨m', lt, w⟩ => ⟨m', lt, O', ds', h2.trans a, R', w⟩, (k.later h2).rt, fun O' ds' σ' H' a R' q => (k.later h2).nx O' ds' σ' H' a R' q, fun O' ds' σ' H' a R' ⟨m', lt, w⟩ => ⟨m', lt, O', ds', h2.trans a, R', w⟩⟩
  | false => exact iteF ((k.later h2).nx O2 ds2 σ1 H2 HS.refl R2 hx)
end
theorem PI_imp {X : Cx} {tg it : Expr} {t t' : TI} (h : PI X tg it t) (hi : ∀ σ H R, t' σ H R → t σ H R) : PI X tg it t' := ⟨fun pins s σ H R I q => h.run pins s σ H R I (hi _ _ _ q)⟩
def Im (s : Bool) (K : Fg) (H : Hp) (O : List Addr) (v : V) (d : D) : Prop := match s with
  | true => Rp K H O v d
  | false => ∃ a vs xs, v = .ref a ∧ d = .tuple xs ∧ SqT K H a vs ∧ RpL K H O vs xs
theorem Im.tuple {s : Bool} {K : Fg} {H : Hp} {O : List Addr} {v : V} {xs : List D} (h : Im s K H O v (.tuple xs)) : ∃ a vs, v = .ref a ∧ SqT K H a vs ∧ RpL K H O vs xs := by
  cases s with
  | true => exact Vw.tuple (.inl h)
  | false =>
    obtain ⟨a, vs, ys, e, e2, h1, h2⟩ := h
    cases e2
    exact ⟨a, vs, e, h1, h2⟩
theorem Im.list {s : Bool} {K : Fg} {H : Hp} {O : List Addr} {v : V} {xs : List D} (h : Im s K H O v (.list xs)) : ∃ a vs, v = .ref a ∧ H a = some (.lst vs) ∧ RpL K H O vs xs := by
  cases s with
  | true => exact Vw.list (.inl h)
  | false =>
    obtain ⟨a, vs, ys, e, e2, h1, h2⟩ := h
    cases e2
structure ItOk (s : Bool) (K : Fg) (J : It) (its : List D) (O : List Addr) (H : Hp) : Prop where
  len : its.length ≤ sizeLine
  go : ∀ H2 O2, LO O2 H2 → HS O H O2 H2 → ∀ i, i < its.length → J.go i H2 ∧ ∀ x H3, J.yld i H2 x H3 → ∃ d, its[i]? = some d ∧ Same H2 H3 ∧ Im s K H3 O2 x d
  stop : ∀ H2 O2, LO O2 H2 → HS O H O2 H2 → J.stop its.length H2
abbrev DTI := DS → (List D → DS → Prop) → Prop
def liftI (s : Bool) (K : Fg) (F : Fx) (w : DTI) : TI := fun σ H R => ∃ O ds Qa, Rep K F H O σ ds ∧ w ds Qa ∧
  ∀ its ds' H' O' J, Step σ H O ds H' O' ds' → Rep K F H' O' σ ds' → ItOk s K J its O' H' → Qa its ds' → R J H'
abbrev DI (s : Bool) (X : Cx) (F : Fx) (tg it : Expr) (w : DTI) : Prop := PI X tg it (liftI s X.K F w)
section
variable {X : Cx} {F : Fx} {tg e a b : Expr} {te : DTE} {ta : DTA} {p pos : Pos}
def iSq (K : Fg) (tl : TE) : TI := fun σ H R => tl σ H fun x H1 => ∃ a xs, x = .ref a ∧ ((SqL K H1 a xs ∧ (xs.length ≤ sizeLine → R (Itl K a) H1)) ∨ (SqT K H1 a xs ∧ (xs.length ≤ sizeLine → R (Itt K a) H1)))
theorem pi_sq {l : Expr} {tl : TE} (hl : PE X l tl) : PI X tg l (iSq X.K tl) := by
  constructor
  intro pins s σ H R I h
  refine thn (hl.run pins s σ H _ I h) ?_
  rintro v s1 ⟨x, H1, I1, r1, a, xs, e, q⟩
  subst e
  cases r1
  have fp : ∀ b ∈ [s1.heap.objs.size], FpOk X pins H1 b := fun b hb => by
    obtain rfl : b = s1.heap.objs.size := by simpa using hb
    exact I1.fpOk (Nat.le_refl _) I1.fresh
  rcases q with ⟨hs, q⟩ | ⟨hs, q⟩
  · obtain ⟨its, rv, pl, hz⟩ := I1.list hs
    exact wpAny_pyIter_list pl.isList ⟨_, [s1.heap.objs.size], _, _, H1, rfl, I1.kept (t' := s1.toks) (fun b o e => Heap.get?_push_of_some _ e), turn_list a _, ⟨_, Heap.get?_push_size _ rfl, rfl, rfl⟩, fp, q hz⟩
  · obtain ⟨its, rv, pl, hz⟩ := I1.tuple hs
    exact wpAny_pyIter_tuple (show s1.heap.IsTuple a its.toArray from pl) ⟨_, [s1.heap.objs.size], _, _, H1, rfl, I1.kept (t' := s1.toks) (fun b o e => Heap.get?_push_of_some _ e), turn_tuple a _, ⟨_, Heap.get?_push_size _ rfl, rfl, rfl⟩, fp, q hz⟩
def seqD : D → Option (List D)
  | .list xs => some xs
  | .tuple xs => some xs
  | _ => none
def dSq (te : DTE) : DTI := fun ds Q => te ds fun x ds1 => match frz ds1 x with
  | some (.list xs, ds2) => Q xs ds2
  | some (.tuple xs, ds2) => Q xs ds2
  | _ => False
theorem hs_rp {K : Fg} {H H2 : Hp} {O O2 : List Addr} {v : V} {d : D} (lo : LO O H) (h : HS O H O2 H2) (r : Rp K H O v d) : Rp K H2 O2 v d := Rp.mv lo h.kp h.gr r
theorem hs_ex {K : Fg} {H H2 : Hp} {O O2 : List Addr} {v : V} {nm : Str} {fo : Option (Str × D)} (lo : LO O H) (h : HS O H O2 H2) (r : ExS K H O v nm fo) : ExS K H2 O2 v nm fo := ExS.mv lo h.kp h.gr r
theorem hs_fd {K : Fg} {H H2 : Hp} {O O2 : List Addr} {v : V} {c : Mu} (lo : LO O H) (h : HS O H O2 H2) (r : FdS K H O v c) : FdS K H2 O2 v c := FdS.mv lo h.kp h.gr r
theorem hs_rpl {K : Fg} {H H2 : Hp} {O O2 : List Addr} {vs : List V} {xs : List D} (lo : LO O H) (h : HS O H O2 H2) (r : RpL K H O vs xs) : RpL K H2 O2 vs xs := RpL.mv lo h.kp h.gr r
theorem itok_list {K : Fg} {H : Hp} {O : List Addr} {a : Addr} {vs : List V} {xs : List D} (lo : LO O H) (h : LsA H O a vs) (r : RpL K H O vs xs) (hz : vs.length ≤ sizeLine) : ItOk true K (Itl K a) xs O H where
  len := by have := r.length; omega
  go := fun H2 O2 lo2 hs i hi => by
    have h2 : SqL K H2 a vs := .inl (.inl (hs.kp a _ h.1 h.2))
    have r2 := hs_rpl lo hs r
    obtain ⟨v, ev, rv⟩ := r2.get (List.getElem?_eq_getElem hi)
    refine ⟨⟨vs, v, h2, ev⟩, fun x H3 ⟨e1, e2⟩ => ?_⟩
    subst e1
    have := e2 vs h2
    rw [ev] at this; cases this
    exact ⟨_, List.getElem?_eq_getElem hi, Same.refl _, rv⟩
  stop := fun H2 O2 lo2 hs => ⟨vs, .inl (.inl (hs.kp a _ h.1 h.2)), by have := r.length; omega⟩
theorem itok_tuple {K : Fg} {H : Hp} {O : List Addr} {a : Addr} {vs : List V} {xs : List D} (lo : LO O H) (h : SqT K H a vs) (r : RpL K H O vs xs) (hz : vs.length ≤ sizeLine) : ItOk true K (Itt K a) xs O H where
  len := by have := r.length; omega
  go := fun H2 O2 lo2 hs i hi => by
    have h2 : SqT K H2 a vs := SqT.mv lo hs.kp h
    have r2 := hs_rpl lo hs r
    obtain ⟨v, ev, rv⟩ := r2.get (List.getElem?_eq_getElem hi)
    refine ⟨⟨vs, v, h2, ev⟩, fun x H3 ⟨e1, e2⟩ => ?_⟩
    subst e1
    have := e2 vs h2
    rw [ev] at this; cases this
    exact ⟨_, List.getElem?_eq_getElem hi, Same.refl _, rv⟩
  stop := fun H2 O2 lo2 hs => ⟨vs, SqT.mv lo hs.kp h, by have := r.length; omega⟩
theorem di_sq (h : DE X F e te) : DI true X F tg e (dSq te) := PI_imp (pi_sq h) fun σ H Q ⟨O, ds, Qa, R, ht, hq⟩ => ⟨O, ds, _, R, ht, fun x ds1 v H1 O1 s1 R1 rx hx => by
  split at hx
  · rename_i xs ds2 e
    obtain ⟨O2, s2, R2, r, _, _⟩ := frz_ok R s1 R1 rx e
    cases r with
    | lst hl rl => exact ⟨_, _, rfl, .inl ⟨.inl (.inl hl.1), fun hz => hq xs ds2 H1 O2 _ s2 R2 (itok_list R2.lo hl rl hz) hx⟩⟩
  · rename_i xs ds2 e
    obtain ⟨O2, s2, R2, r, _, _⟩ := frz_ok R s1 R1 rx e
    cases r with
    | tup hl rl => exact ⟨_, _, rfl, .inr ⟨TpA.seq hl, fun hz => hq xs ds2 H1 O2 _ s2 R2 (itok_tuple R2.lo (TpA.seq hl) rl hz) hx⟩⟩
  · exact hx.elim⟩
def rangeD (lo : Int) (n : Nat) : List D := (List.range n).map fun i => .int (lo + (i : Nat))
theorem rangeD_get {lo : Int} {n i : Nat} (h : i < n) : (rangeD lo n)[i]? = some (.int (lo + (i : Nat))) := by
  unfold rangeD
  rw [List.getElem?_map, List.getElem?_range h]
  rfl
theorem rangeD_len {lo : Int} {n : Nat} : (rangeD lo n).length = n := by unfold rangeD; simp
theorem itok_range {K : Fg} {H : Hp} {O : List Addr} {lo : Int} {n : Nat} (hn : n ≤ 16777216) : ItOk true K (Itr lo n) (rangeD lo n) O H where
  len := by rw [rangeD_len, sizeLine_eq]; exact hn
  go := fun H2 O2 lo2 hs i hi => by
    rw [rangeD_len] at hi
    refine ⟨hi, fun x H3 ⟨e1, e2⟩ => ?_⟩
    subst e1 e2
    exact ⟨_, rangeD_get hi, Same.refl _, .int _⟩
  stop := fun H2 O2 lo2 hs => by rw [rangeD_len]; exact Nat.le_refl _
def dRng1 (ta : DTA) : DTI := fun ds Q => ta ds fun xs ds1 => match peekL ds1 xs with
  | some [.int j] => j ≤ 16777216 ∧ -4611686018427387904 ≤ j ∧ Q (rangeD 0 j.toNat) ds1
  | _ => False
def dRng2 (ta : DTA) : DTI := fun ds Q => ta ds fun xs ds1 => match peekL ds1 xs with
  | some [.int i, .int j] => (j - i ≤ 16777216 ∧ -4611686018427387904 ≤ i ∧ i < 4611686018427387904 ∧ -4611686018427387904 ≤ j ∧ j < 4611686018427387904) ∧ Q (rangeD i (j - i).toNat) ds1
  | _ => False
theorem di_range1 (hg : Gl X "range") (hm : X.mg "range" = none) (ha : DA X F [a] ta) (hs : starEach [a] X.env = [(false, eval a X.env)] := by rfl) : DI true X F tg (.Call (.Name "range" p) [a] [] pos) (dRng1 ta) :=
  PI_imp (pi_range1 hg hm ha hs) fun σ H Q ⟨O, ds, Qa, R, ht, hq⟩ => ⟨O, ds, _, R, ht, fun xs ds1 vs H1 O1 s1 R1 rx hx => by
    split at hx
    · rename_i j e
      have w := RpVs.vw R1 rx.1 e
      cases w with
      | cons w1 w2 =>
        cases w2
        rw [w1.int]
        refine ⟨j, rfl, by omega, by omega, hq _ ds1 H1 O1 _ s1 R1 (itok_range (by omega)) hx.2.2⟩
    · exact hx.elim⟩
theorem di_range2 (hg : Gl X "range") (hm : X.mg "range" = none) (ha : DA X F [a, b] ta) (hs : starEach [a, b] X.env = [(false, eval a X.env), (false, eval b X.env)] := by rfl) (hs2 : starEach [b] X.env = [(false, eval b X.env)] := by rfl) : DI true X F tg (.Call (.Name "range" p) [a, b] [] pos) (dRng2 ta) :=
  PI_imp (pi_range2 hg hm ha hs hs2) fun σ H Q ⟨O, ds, Qa, R, ht, hq⟩ => ⟨O, ds, _, R, ht, fun xs ds1 vs H1 O1 s1 R1 rx hx => by
    split at hx
    · rename_i i j e
      have w := RpVs.vw R1 rx.1 e
      cases w with
      | cons w1 w2 =>
        cases w2 with
        | cons w2 w3 =>
          cases w3
          rw [w1.int, w2.int]
          refine ⟨i, j, rfl, by omega, hq _ ds1 H1 O1 _ s1 R1 (itok_range (by omega)) hx.2⟩
    · exact hx.elim⟩
end
abbrev DTG := D → DS → (DS → Prop) → Prop
abbrev DTGs := List D → DS → (DS → Prop) → Prop
def Only' (T : List Nat) (σ σ' : St) : Prop := σ'.length = σ.length ∧ ∀ i : Nat, i ∉ T → σ'[i]? = σ[i]?
structure TgS (O : List Addr) (H : Hp) (O' : List Addr) (σ : St) (ds : DS) (σ' : St) (ds' : DS) : Prop where
  hs : HS O H O' H
  sub : ∀ p ∈ O, p ∈ O'
  mu : ∀ j p, MutAt σ' ds' j p → MutAt σ ds j p
  bx : ∀ j p, BoxS σ' ds' j p → BoxS σ ds j p
  n : ds'.n = ds.n
  sl : ∀ (i : Nat) dv, ds.sl[i]? = some (some dv) → ∃ dv', ds'.sl[i]? = some (some dv')
theorem TgS.refl {O : List Addr} {H : Hp} {σ : St} {ds : DS} : TgS O H O σ ds σ ds := ⟨HS.refl, fun _ h => h, fun _ _ h => h, fun _ _ h => h, rfl, fun _ dv h => ⟨dv, h⟩⟩
theorem TgS.trans {O O1 O2 : List Addr} {H : Hp} {σ σ1 σ2 : St} {ds ds1 ds2 : DS} (a : TgS O H O1 σ ds σ1 ds1) (b : TgS O1 H O2 σ1 ds1 σ2 ds2) : TgS O H O2 σ ds σ2 ds2 :=
  ⟨a.hs.trans b.hs, fun p h => b.sub p (a.sub p h), fun j p h => a.mu j p (b.mu j p h), fun j p h => a.bx j p (b.bx j p h), b.n.trans a.n, fun i dv h => by obtain ⟨dv1, h1⟩ := a.sl i dv h; exact b.sl i dv1 h1⟩
def liftG (s : Bool) (T : List Nat) (K : Fg) (F : Fx) (g : DTG) : TG := fun v σ H Q => ∃ O ds d Qa, Rep K F H O σ ds ∧ Im s K H O v d ∧ g d ds Qa ∧ ∀ O' ds' σ', TgS O H O' σ ds σ' ds' → Rep K F H O' σ' ds' → Only' T σ σ' → Qa ds' → Q σ' H
abbrev DG (s : Bool) (T : List Nat) (X : Cx) (F : Fx) (tg : Expr) (g : DTG) : Prop := PG X tg (liftG s T X.K F g)
def liftGs (T : List Nat) (K : Fg) (F : Fx) (g : DTGs) : TGs := fun vs σ H Q => ∃ O ds xs Qa, Rep K F H O σ ds ∧ RpL K H O vs xs ∧ g xs ds Qa ∧ ∀ O' ds' σ', TgS O H O' σ ds σ' ds' → Rep K F H O' σ' ds' → Only' T σ σ' → Qa ds' → Q σ' H
abbrev DGs (T : List Nat) (X : Cx) (F : Fx) (es : List Expr) (g : DTGs) : Prop := PGs X es (liftGs T X.K F g)
theorem PGs_imp {X : Cx} {es : List Expr} {t t' : TGs} (h : PGs X es t) (hi : ∀ v σ H Q, t' v σ H Q → t v σ H Q) : PGs X es t' := ⟨fun pins s σ H v u Q I r q => h.run pins s σ H v u Q I r (hi _ _ _ _ q)⟩
section
variable {X : Cx} {F : Fx} {e : Expr} {es : List Expr} {pos : Pos}
def gdName (i : Nat) : DTG := fun d ds Q => Q ⟨ds.sl.set i (some (.d d)), ds.n⟩
theorem dg_of {i : Nat} (h : PG X e (gName i)) : DG true [i] X F e (gdName i) := PG_imp h fun v σ H Q ⟨O, ds, d, Qa, R, r, hg, hq⟩ =>
  hq O ⟨ds.sl.set i (some (.d d)), ds.n⟩ (σ.set i (some v)) ⟨HS.refl, fun _ h => h, fun j p ⟨a0, a, dv, b, c, ce⟩ => by
    rcases sl_set_of b with ⟨e1, e2⟩ | ⟨e1, e2⟩
    · subst e2; exact c.elim
    · rw [List.getElem?_set_ne e1] at a
      exact ⟨a0, a, dv, e2, c, ce⟩, fun j p ⟨a, b⟩ => by
    rcases sl_set_of b with ⟨e1, e2⟩ | ⟨e1, e2⟩
    · cases e2
    · rw [List.getElem?_set_ne e1] at a
      exact ⟨a, e2⟩, rfl, fun j dv h => by
    by_cases e : i = j
    · subst e
      exact ⟨.d d, by rw [List.getElem?_set_self (List.getElem?_eq_some_iff.mp h).1]⟩
    · exact ⟨dv, by rw [List.getElem?_set_ne e]; exact h⟩⟩ (R.setD i r) ⟨by simp, fun j hj => by rw [List.getElem?_set_ne (fun z => hj (by simp [z]))]⟩ hg
theorem dg_name {i : Nat} {x : Str} (hN : X.N.Nodup) (hi : X.N[i]? = some x) (hx : Loc X.env.scope x) (hf : X.fn x = true ∨ X.env.scope.names.lookup x = some .local := by first | exact .inl rfl | exact .inr rfl | assumption) : DG true [i] X F (.Name x pos) (gdName i) :=
  dg_of (pg_name hN hi hx hf)
def gdNil : DTGs := fun xs ds Q => match xs with
  | [] => Q ds
  | _ => False
def gdCons (g : DTG) (r : DTGs) : DTGs := fun xs ds Q => match xs with
  | x :: ys => g x ds fun ds1 => r ys ds1 Q
  | [] => False
theorem dgs_nil : DGs [] X F [] gdNil := PGs_imp pgs_nil fun vs σ H Q ⟨O, ds, xs, Qa, R, r, hg, hq⟩ => by
  cases xs with
  | nil => cases r; exact ⟨rfl, hq O ds σ TgS.refl R ⟨rfl, fun _ _ => rfl⟩ hg⟩
  | cons x ys => exact hg.elim
theorem dgs_cons {T T' : List Nat} {g : DTG} {r : DTGs} (h1 : DG true T X F e g) (h2 : DGs T' X F es r) (hs : (assignEach (e :: es) X.env).map (·.2) = assign e X.env :: (assignEach es X.env).map (·.2) := by rfl) : DGs (T ++ T') X F (e :: es) (gdCons g r) :=
  PGs_imp (pgs_cons h1 h2 hs) fun vs σ H Q ⟨O, ds, xs, Qa, R, rl, hg, hq⟩ => by
    cases xs with
    | nil => exact hg.elim
    | cons x ys =>
      cases rl with
      | cons rv rr =>
        refine ⟨_, _, rfl, O, ds, x, _, R, rv, hg, fun O1 ds1 σ1 a1 R1 l1 h1 => ⟨O1, ds1, ys, _, R1, hs_rpl R.lo a1.hs rr, h1, fun O2 ds2 σ2 a2 R2 l2 h2 => ?_⟩⟩
        refine hq O2 ds2 σ2 (a1.trans a2) R2 ⟨l2.1.trans l1.1, fun i hi => ?_⟩ h2
        rw [l2.2 i fun z => hi (List.mem_append_right _ z), l1.2 i fun z => hi (List.mem_append_left _ z)]
theorem PG_or {t u : TG} (h : PG X e t) (h' : PG X e u) : PG X e (fun v σ H Q => t v σ H Q ∨ u v σ H Q) := ⟨fun pins s σ H v w Q I r q => by
  rcases q with q | q
  · exact h.run pins s σ H v w Q I r q
  · exact h'.run pins s σ H v w Q I r q⟩
def eqLen (n m : Nat) (P : Prop) : Prop := match Nat.beq n m with
  | true => P
  | false => False
theorem eqLen_ok {n m : Nat} {P : Prop} (h : eqLen n m P) : n = m ∧ P := by
  unfold eqLen at h
  split at h
  · rename_i e; exact ⟨Nat.eq_of_beq_eq_true e, h⟩
  · exact h.elim
def gdTup (n : Nat) (g : DTGs) : DTG := fun d ds Q => match d with
  | .tuple xs => eqLen xs.length n (g xs ds Q)
  | .list xs => eqLen xs.length n (g xs ds Q)
  | _ => False
theorem dg_tup {s : Bool} {T : List Nat} {k n : Nat} {g : DTGs} (hc : X.calm = true) (h : DGs T X F es g) (hn : (assignEach es X.env).length = n := by rfl) (hst : (assignEach es X.env).findIdx? (·.1) = none := by rfl) : DG s T X F (.Tuple es k pos) (gdTup n g) :=
  PG_imp (PG_or (pg_tup hc h hn hst) (pg_unl hc h hn hst)) fun v σ H Q ⟨O, ds, d, Qa, R, r, hg, hq⟩ => by
    cases d with
    | tuple xs =>
      obtain ⟨p, vs, e, h1, h2⟩ := r.tuple
      obtain ⟨hl, hg⟩ := eqLen_ok hg
      exact .inl ⟨p, vs, e, h1, by rw [h2.length]; exact hl, O, ds, xs, Qa, R, h2, hg, hq⟩
    | list xs =>
      obtain ⟨p, vs, e, h1, h2⟩ := r.list
      obtain ⟨hl, hg⟩ := eqLen_ok hg
      exact .inr ⟨p, vs, e, .inl (.inl h1), by rw [h2.length]; exact hl, O, ds, xs, Qa, R, h2, hg, hq⟩
    | _ => exact hg.elim
end
section
variable {X : Cx} {F : Fx} {tg it : Expr} {body : List Stmt} {pos : Pos}
def dFor (w : DTI) (g : DTG) (tb : DTS) : DTS := fun E ds => w ds fun its ds1 => ∃ W : Nat → DS → Prop, W 0 ds1 ∧
  (∀ (i : Nat) d ds2, its[i]? = some d → W i ds2 → g d ds2 fun ds3 => tb { E with nx := W (i + 1), ct := W (i + 1), bk := E.nx } ds3) ∧ ∀ ds2, W its.length ds2 → E.nx ds2
theorem ds_for {s : Bool} {T : List Nat} {w : DTI} {g : DTG} {tb : DTS} (hp : PassesOwn (model X.prog X.w) X.A X.env X.xe) (hc : X.calm = true) (hi : DI s X F tg it w) (hg : DG s T X F tg g) (hb : DSs X F body tb)
    (hs : ∀ x, foldedSetIterable it X.env x = pure x := by intro _; rfl) : DSt X F (.For tg it body [] pos) (dFor w g tb) := PS_imp (ps_for hp hc hi hg hb hs) fun D σ H ⟨O, ds, E, R, ht, k⟩ =>
  ⟨O, ds, _, R, ht, fun its ds1 H1 O1 J s1 R1 io ⟨W, w0, turn, fin⟩ => by
    have a1 := s1.hs R
    refine ⟨fun i m σ2 H2 => m = its.length - i ∧ i ≤ its.length ∧ ∃ O2 ds2, HS O1 H1 O2 H2 ∧ Rep X.K F H2 O2 σ2 ds2 ∧ W i ds2, ⟨its.length, by simp, Nat.zero_le _, O1, ds1, HS.refl, R1, w0⟩, ?_⟩
    rintro i m σ2 H2 ⟨rfl, hi, O2, ds2, a2, R2, w2⟩
    by_cases hlt : i < its.length
    · obtain ⟨go, yl⟩ := io.go H2 O2 R2.lo a2 i hlt
      refine .inr ⟨go, fun σ' H' => ∃ O' ds', HS O1 H1 O' H' ∧ Rep X.K F H' O' σ' ds' ∧ W (i + 1) ds', fun σ' H' ⟨O', ds', b1, b2, b3⟩ => ⟨its.length - (i + 1), by omega, rfl, hlt, O', ds', b1, b2, b3⟩, fun x H3 hy => ?_⟩
      obtain ⟨d, ed, sm, im⟩ := yl x H3 hy
      have R3 : Rep X.K F H3 O2 σ2 ds2 := R2.grow sm grow_refl (fun _ h => h) (lo_same R2.lo sm)
      have a3 : HS O2 H2 O2 H3 := (Step.grow (σ := σ2) (ds := ds2) sm grow_refl fun _ h => h).hs R2
      have a23 := a2.trans a3
      refine ⟨O2, ds2, d, _, R3, im, turn i d ds2 ed w2, fun O4 ds4 σ4 a4 R4 _ h4 => ⟨O4, ds4, _, R4, h4, ?_⟩⟩
      have a24 := a23.trans a4.hs
      have kk := k.later (a1.trans a24)
      exact ⟨fun O' ds' σ' H' b R' q => ⟨O', ds', a24.trans b, R', q⟩, kk.rt, kk.nx, fun O' ds' σ' H' b R' q => ⟨O', ds', a24.trans b, R', q⟩⟩
    · have e : i = its.length := by omega
      subst e
      exact .inl ⟨io.stop H2 O2 R2.lo a2, k.nx O2 ds2 σ2 H2 (a1.trans a2) R2 (fin ds2 w2)⟩⟩
def wipeD (sl : List (Option DV)) : List Nat → List (Option DV)
  | [] => sl
  | v :: vs => (wipeD sl vs).set v none
theorem wipeD_len (sl : List (Option DV)) : ∀ vs, (wipeD sl vs).length = sl.length
  | [] => rfl
  | v :: vs => by simp [wipeD, wipeD_len sl vs]
theorem wipeD_some {sl : List (Option DV)} {i : Nat} {x : DV} : ∀ {vs : List Nat}, (wipeD sl vs)[i]? = some (some x) → sl[i]? = some (some x) ∧ i ∉ vs
  | [], h => ⟨h, by simp⟩
  | v :: vs, h => by
    unfold wipeD at h
    by_cases e : v = i
    · subst e
      by_cases hv : v < (wipeD sl vs).length
      · rw [List.getElem?_set_self hv] at h; cases h
      · rw [List.getElem?_eq_none (by simpa using hv)] at h; cases h
    · rw [List.getElem?_set_ne e] at h
      obtain ⟨h1, h2⟩ := wipeD_some h
      exact ⟨h1, by simp [h2, Ne.symm e]⟩
theorem wipe_eq {σ σ2 : St} {vs : List Nat} (hl : σ2.length = σ.length) (h : ∀ i : Nat, i ∉ vs → σ2[i]? = σ[i]?) : wipe σ2 vs = wipe σ vs := by
  apply List.ext_getElem?
  intro i
  have inn : ∀ (σ : St) (vs : List Nat), i ∈ vs → i < σ.length → (wipe σ vs)[i]? = some none := by
    intro σ vs
    induction vs with
    | nil => intro h; simp at h
    | cons v vs ih =>
      intro hi hl
      unfold wipe
      by_cases e : v = i
      · subst e
        rw [List.getElem?_set_self (by rw [wipe_length]; exact hl)]
      · rw [List.getElem?_set_ne e]
        exact ih ((List.mem_cons.mp hi).resolve_left (Ne.symm e)) hl
  by_cases hi : i ∈ vs
  · by_cases hlt : i < σ.length
    · rw [inn σ vs hi hlt, inn σ2 vs hi (by omega)]
    · rw [List.getElem?_eq_none (by rw [wipe_length]; omega), List.getElem?_eq_none (by rw [wipe_length]; omega)]
  · rw [wipe_out hi, wipe_out hi, h i hi]
theorem Rep.fit {K : Fg} {H : Hp} {O : List Addr} {σ σ' : St} {ds : DS} (R : Rep K F H O σ ds) (vs : List Nat) (hl : σ'.length = σ.length) (h : ∀ i : Nat, i ∉ vs → σ'[i]? = σ[i]?) : Rep K F H O σ' ⟨wipeD ds.sl vs, ds.n⟩ := by
  have mut_of : ∀ j q, MutAt σ' ⟨wipeD ds.sl vs, ds.n⟩ j q → MutAt σ ds j q := fun j q ⟨a0, a, dv, b, c, ce⟩ => by
    obtain ⟨h1, h2⟩ := wipeD_some b
    rw [h j h2] at a
    exact ⟨a0, a, dv, h1, c, ce⟩
  have box_of : ∀ j q, BoxS σ' ⟨wipeD ds.sl vs, ds.n⟩ j q → BoxS σ ds j q := fun j q ⟨a, b⟩ => by
    obtain ⟨h1, h2⟩ := wipeD_some b
    rw [h j h2] at a
    exact ⟨a, h1⟩
  refine ⟨R.lo, R.sub, R.ext, fun j dv hj => ?_, fun j k q a b => R.mu j k q (mut_of j q a) (mut_of k q b), fun j q a => R.new j q (mut_of j q a), fun j q ys a b => ?_, R.bx, fun j q hb => R.bu j q (box_of j q hb), fun j k q r h1 h2 => R.b1 j k q r (box_of j q h1) (box_of k r h2), R.fo, R.bo, by rw [wipeD_len, R.len, hl], fun j c' a q h hm => R.nm j c' a q (wipeD_some h).1 (mut_of j q hm)⟩
  · obtain ⟨h1, h2⟩ := wipeD_some hj
    obtain ⟨w, ew, r⟩ := R.sl j dv h1
    exact ⟨w, by rw [h j h2]; exact ew, r⟩
  · obtain ⟨h1, h2⟩ := wipeD_some b
    rw [h j h2] at a
    exact R.newO j q ys a h1
def restD (sl old : List (Option DV)) : List Nat → List (Option DV)
  | [] => sl
  | v :: vs => (restD sl old vs).set v (old.getD v none)
theorem restD_len (sl old : List (Option DV)) : ∀ vs, (restD sl old vs).length = sl.length
  | [] => rfl
  | v :: vs => by simp [restD, restD_len sl old vs]
theorem restD_out {sl old : List (Option DV)} {i : Nat} : ∀ {vs : List Nat}, i ∉ vs → (restD sl old vs)[i]? = sl[i]?
  | [], _ => rfl
  | v :: vs, h => by
    unfold restD
    rw [List.getElem?_set_ne (fun z => h (by simp [z])), restD_out (fun z => h (List.mem_cons_of_mem _ z))]
theorem restD_in {sl old : List (Option DV)} {i : Nat} (hl : sl.length = old.length) : ∀ {vs : List Nat}, i ∈ vs → (restD sl old vs)[i]? = old[i]?
  | [], h => by simp at h
  | v :: vs, h => by
    unfold restD
    by_cases e : v = i
    · subst e
      by_cases hv : v < sl.length
      · rw [List.getElem?_set_self (by rw [restD_len]; exact hv), List.getD_eq_getElem?_getD, List.getElem?_eq_getElem (by omega)]
        rfl
      · rw [List.getElem?_eq_none (by rw [List.length_set, restD_len]; omega), List.getElem?_eq_none (by omega)]
    · rw [List.getElem?_set_ne e]
      exact restD_in hl ((List.mem_cons.mp h).resolve_left (Ne.symm e))
def noBox (sl : List (Option DV)) : List Nat → Bool
  | [] => true
  | v :: vs => (match sl.getD v none with | some .box => false | _ => true) && noBox sl vs
theorem noBox_ok {sl : List (Option DV)} {i : Nat} : ∀ {vs : List Nat}, noBox sl vs = true → i ∈ vs → sl[i]? ≠ some (some .box)
  | [], _, h => by simp at h
  | v :: vs, hb, h => by
    simp only [noBox, Bool.and_eq_true] at hb
    intro e
    rcases List.mem_cons.mp h with z | z
    · subst z
      have : sl.getD i none = some .box := by rw [List.getD_eq_getElem?_getD, e]; rfl
      rw [this] at hb
      simp at hb
    · exact noBox_ok hb.2 z e
@[irreducible] def dLc (w : DTI) (g : DTG) (tt : DTT) (te : DTE) (vs : List Nat) : DTE := fun ds Q => w ds fun its ds1 => match noBox ds1.sl vs with
  | false => False
  | true => ∃ P : Nat → List D → DS → Prop, P 0 [] ⟨wipeD ds1.sl vs, ds1.n⟩ ∧
    (∀ (i : Nat) d acc ds2, its[i]? = some d → P i acc ds2 → g d ds2 fun ds3 => tt ds3 fun b ds4 => match b with
      | true => te ds4 fun y ds5 => match frz ds5 y with
        | some (z, ds6) => P (i + 1) (acc ++ [z]) ⟨wipeD ds6.sl vs, ds6.n⟩
        | none => False
      | false => P (i + 1) acc ⟨wipeD ds4.sl vs, ds4.n⟩) ∧
    ∀ acc ds2, P its.length acc ds2 → Q (.own acc) ⟨restD ds2.sl ds1.sl vs, ds2.n⟩
theorem Rep.updT {K : Fg} {H : Hp} {O : List Addr} {σ : St} {ds : DS} {p : Addr} {ws : List V} (R : Rep K F H O σ ds) (ho : p ∈ O) (hm : ∀ j, ¬ MutAt σ ds j p) (hn : F.Hin p = none) : Rep K F (upd H p (.lst ws)) O σ ds ∧ Keep O H (upd H p (.lst ws)) := by
  have nb : ∀ q ∈ F.B, q ≠ p := fun q hq z => R.fo q (R.bo q hq) (z ▸ hn)
  have kp : Keep O H (upd H p (.lst ws)) := fun a o h n => by rw [upd_ne (fun z : a = p => n (z ▸ ho))]; exact h
  refine ⟨⟨fun q hq => ?_, R.sub, fun a o h n => ?_, fun j dv hj => ?_, R.mu, R.new, R.newO, fun q hq => ?_, R.bu, R.b1, R.fo, R.bo, R.len, R.nm⟩, kp⟩
  · by_cases e : q = p
    · subst e; exact ⟨_, upd_same, rfl⟩
    · rw [upd_ne e]; exact R.lo q hq
  · rw [upd_ne (fun z : a = p => by subst z; rw [hn] at h; cases h)]
    exact R.ext a o h n
  · obtain ⟨w, ew, r⟩ := R.sl j dv hj
    refine ⟨w, ew, ?_⟩
    cases dv with
    | exc xa xb => exact ExS.mv R.lo kp grow_refl r
    | fd xc => exact FdS.mv R.lo kp grow_refl r
    | d x => exact Rp.mv R.lo kp grow_refl r
    | own ys =>
      obtain ⟨q, us, e3, a1, a2, a3⟩ := r
      subst e3
      exact ⟨q, us, rfl, a1, by rw [upd_ne (fun z : q = p => hm j (mutAt (z ▸ ew) hj trivial))]; exact a2, RpL.mv R.lo kp grow_refl a3⟩
    | box =>
      obtain ⟨q, e3, a1, x, y, c, a2, a3⟩ := r
      subst e3
      exact ⟨q, rfl, a1, x, y, c, by rw [upd_ne (fun z : q = p => hm j (mutAt (z ▸ ew) hj trivial))]; exact a2, a3⟩
    | mu c q =>
      obtain ⟨e3, a1, a2⟩ := r
      subst e3
      exact ⟨rfl, a1, MuAt.mv R.lo kp grow_refl (fun u hu o ho => by rw [upd_ne (fun z : u = p => hm j (z ▸ mutAtM ew hj hu))]; exact ho) a2⟩
    | slot k => exact r
  · rcases R.bx q hq with h | ⟨x, y, c, h, r⟩
    · exact .inl h
    · exact .inr ⟨x, y, c, by rw [upd_ne (nb q hq)]; exact h, r⟩
end
section
variable {K : Fg} {F : Fx} {H H1 : Hp} {O O1 : List Addr} {σ : St} {ds ds1 : DS}
def Clear (vs : List Nat) (ds : DS) : Prop := ∀ i ∈ vs, ∀ dv, ds.sl[i]? ≠ some (some dv)
theorem wipeD_clear (sl : List (Option DV)) (n : Nat) (vs : List Nat) : Clear vs ⟨wipeD sl vs, n⟩ := fun i hi dv h => (wipeD_some h).2 hi
theorem wipeD_keep {sl : List (Option DV)} {i : Nat} : ∀ {vs : List Nat}, i ∉ vs → (wipeD sl vs)[i]? = sl[i]?
  | [], _ => rfl
  | v :: vs, h => by
    unfold wipeD
    rw [List.getElem?_set_ne (fun z => h (by simp [z])), wipeD_keep (fun z => h (List.mem_cons_of_mem _ z))]
theorem Step.fit {σ2 σw : St} {vs : List Nat} {ds0 ds3 ds6 : DS} {H6 : Hp} {O6 : List Addr} (s : Step σ2 H O ds3 H6 O6 ds6) (h : ∀ i : Nat, i ∉ vs → σ2[i]? = σw[i]?) (hc : Clear vs ds0)
    (hm : ∀ j p, MutAt σ2 ds3 j p → MutAt σw ds0 j p) (hb : ∀ j p, BoxS σ2 ds3 j p → BoxS σw ds0 j p) (hs : ∀ (i : Nat) dv, ds0.sl[i]? = some (some dv) → ∃ dv', ds3.sl[i]? = some (some dv')) : Step σw H O ds0 H6 O6 ⟨wipeD ds6.sl vs, ds6.n⟩ where
  o1 := s.o1
  o2 := fun p hp n => s.o2 p hp fun i hi => n i (hm i p hi)
  kp := fun a o ha n => s.kp a o ha fun i hi => n i (hm i a hi)
  dm := s.dm
  sl := fun i dv hi => by
    obtain ⟨dv1, h1⟩ := hs i dv hi
    obtain ⟨dv2, h2⟩ := s.sl i dv1 h1
    exact ⟨dv2, by show (wipeD ds6.sl vs)[i]? = _; rw [wipeD_keep (fun z => hc i z dv hi)]; exact h2⟩
  mu := fun i p ⟨a0, a, dv, b, c, ce⟩ => by
    obtain ⟨b1, b2⟩ := wipeD_some b
    rw [← h i b2] at a
    exact hm i p (s.mu i p ⟨a0, a, dv, b1, c, ce⟩)
  bx := fun i p ⟨a, b⟩ => by
    obtain ⟨b1, b2⟩ := wipeD_some b
    rw [← h i b2] at a
    exact hb i p (s.bx i p ⟨a, b1⟩)
end
section
variable {X : Cx} {F : Fx} {tg it elt : Expr} {pos : Pos}
theorem lc_lift {s : Bool} {T : List Nat} {w : DTI} {g : DTG} {tt : DTT} {te : DTE} {vs : List Nat} {K : Fg} (hT : ∀ i ∈ T, i ∈ vs) {σ : St} {H : Hp} {Q : VK} (h : lift K F (dLc w g tt te vs) σ H Q) :
    tLc (liftI s K F w) (liftG s T K F g) (liftT K F tt) (lift K F te) vs σ H Q := by
  obtain ⟨O, ds, Qa, R, ht, hq⟩ := h
  unfold dLc at ht
  refine ⟨O, ds, _, R, ht, fun its ds1 H1 O1 J s1 R1 io hx => ?_⟩
  intro D hD
  split at hx
  · exact hx.elim
  rename_i hbx
  obtain ⟨P, p0, turn, fin⟩ := hx
  have hDin := R1.hin hD
  have wl : (wipe σ vs).length = σ.length := wipe_length σ vs
  have wo : ∀ i : Nat, i ∉ vs → (wipe σ vs)[i]? = σ[i]? := fun i hi => wipe_out hi
  have sm := same_new (o := .lst []) hD
  have gr := grow_new (O := O1) hD
  have sub : ∀ q ∈ O1, q ∈ D :: O1 := fun q h => List.mem_cons_of_mem _ h
  have R1' := R1.grow sm gr sub (lo_new R1.lo hD)
  have Rw : Rep K F (upd H1 D (.lst [])) (D :: O1) (wipe σ vs) ⟨wipeD ds1.sl vs, ds1.n⟩ := R1'.fit vs wl wo
  have nD1 : ∀ j, ¬ MutAt σ ds1 j D := fun j hj => by
    obtain ⟨xs, e, _⟩ := R1.lo D (R1.mutO hj)
    rw [hD] at e; cases e
  have mw : ∀ j p, MutAt (wipe σ vs) ⟨wipeD ds1.sl vs, ds1.n⟩ j p → MutAt σ ds1 j p ∧ j ∉ vs := fun j p ⟨a0, a, dv, b, c, ce⟩ => by
    obtain ⟨b1, b2⟩ := wipeD_some b
    rw [wo j b2] at a
    exact ⟨⟨a0, a, dv, b1, c, ce⟩, b2⟩
  have nDw : ∀ j, ¬ MutAt (wipe σ vs) ⟨wipeD ds1.sl vs, ds1.n⟩ j D := fun j hj => nD1 j (mw j D hj).1
  have hs0 : HS O1 H1 (D :: O1) (upd H1 D (.lst [])) := (Step.grow (σ := σ) (ds := ds1) sm gr sub).hs R1
  refine ⟨fun i m H2 => m = its.length - i ∧ i ≤ its.length ∧ ∃ O2 ds2 acc av, Step (wipe σ vs) (upd H1 D (.lst [])) (D :: O1) ⟨wipeD ds1.sl vs, ds1.n⟩ (upd H2 D (.lst [])) O2 ds2 ∧ HS O1 H1 O2 H2 ∧ Rep K F H2 O2 (wipe σ vs) ds2 ∧ H2 D = some (.lst av) ∧ RpL K H2 O2 av acc ∧ acc.length ≤ i ∧ Clear vs ds2 ∧ P i acc ds2,
    ⟨its.length, by simp, Nat.zero_le _, D :: O1, _, [], [], by rw [upd_upd]; exact Step.refl, hs0, Rw, upd_same, .nil, Nat.le_refl _, wipeD_clear _ _ _, p0⟩, ?_⟩
  rintro i m H2 ⟨rfl, hi, O2, ds2, acc, av, st, a2, R2, eD, rl, hal, hcl, p2⟩
  have memD : D ∈ O2 := st.o2 D List.mem_cons_self nDw
  have nD2 : ∀ j, ¬ MutAt (wipe σ vs) ds2 j D := fun j hj => nDw j (st.mu j D hj)
  by_cases hlt : i < its.length
  · obtain ⟨go, yl⟩ := io.go H2 O2 R2.lo a2 i hlt
    refine .inr ⟨go, fun H' => ∃ O2 ds2 acc av, Step (wipe σ vs) (upd H1 D (.lst [])) (D :: O1) ⟨wipeD ds1.sl vs, ds1.n⟩ (upd H' D (.lst [])) O2 ds2 ∧ HS O1 H1 O2 H' ∧ Rep K F H' O2 (wipe σ vs) ds2 ∧ H' D = some (.lst av) ∧ RpL K H' O2 av acc ∧ acc.length ≤ i + 1 ∧ Clear vs ds2 ∧ P (i + 1) acc ds2,
      fun H' hN => ⟨its.length - (i + 1), by omega, rfl, hlt, hN⟩, fun x H3 hy => ?_⟩
    obtain ⟨d, ed, sm3, im⟩ := yl x H3 hy
    have R3 : Rep K F H3 O2 (wipe σ vs) ds2 := R2.grow sm3 grow_refl (fun _ h => h) (lo_same R2.lo sm3)
    have st3 : Step (wipe σ vs) H2 O2 ds2 H3 O2 ds2 := Step.grow sm3 grow_refl fun _ h => h
    have eD3 : H3 D = some (.lst av) := sm3 _ _ eD
    have rl3 : RpL K H3 O2 av acc := RpL.mv R2.lo (same_keep sm3) grow_refl rl
    refine ⟨O2, ds2, d, _, R3, im, turn i d acc ds2 ed p2, fun O4 ds4 σ4 tg4 R4 on4 h4 => ?_⟩
    have ag4 : ∀ j : Nat, j ∉ vs → σ4[j]? = (wipe σ vs)[j]? := fun j hj => on4.2 j fun z => hj (hT j z)
    have memD4 : D ∈ O4 := tg4.sub D memD
    have nD4 : ∀ j, ¬ MutAt σ4 ds4 j D := fun j hj => nD2 j (tg4.mu j D hj)
    have rl4 : RpL K H3 O4 av acc := hs_rpl R3.lo tg4.hs rl3
    refine ⟨wipe_eq (on4.1.trans wl) fun j hj => by rw [ag4 j hj, wo j hj], ?_⟩
    have bring : ∀ {H6 : Hp} {O6 : List Addr} {ds6 : DS}, Step σ4 H3 O4 ds4 H6 O6 ds6 → Rep K F H6 O6 σ4 ds6 →
        Step (wipe σ vs) (upd H1 D (.lst [])) (D :: O1) ⟨wipeD ds1.sl vs, ds1.n⟩ (upd H6 D (.lst [])) O6 ⟨wipeD ds6.sl vs, ds6.n⟩ ∧ HS O1 H1 O6 H6 ∧ Rep K F H6 O6 (wipe σ vs) ⟨wipeD ds6.sl vs, ds6.n⟩ ∧ H6 D = some (.lst av) ∧ RpL K H6 O6 av acc ∧ D ∈ O6 ∧ ∀ j, ¬ MutAt (wipe σ vs) ⟨wipeD ds6.sl vs, ds6.n⟩ j D := by
      intro H6 O6 ds6 s6 R6
      have s46 : Step (wipe σ vs) H3 O4 ds2 H6 O6 ⟨wipeD ds6.sl vs, ds6.n⟩ := s6.fit ag4 hcl tg4.mu tg4.bx tg4.sl
      have sT : Step (wipe σ vs) H3 O2 ds2 H3 O4 ds2 := ⟨tg4.hs.gr, fun p hp _ => tg4.sub p hp, fun _ _ h _ => h, fun _ h => h, fun _ dv h => ⟨dv, h⟩, fun _ _ h => h, fun _ _ h => h⟩
      have s26 := (st3.trans sT).trans s46
      have R6w := R6.fit (σ' := wipe σ vs) vs (by rw [on4.1]) fun j hj => (ag4 j hj).symm
      have eD6 := s26.kp D _ eD nD2
      have m6 : D ∈ O6 := s6.o2 D memD4 nD4
      refine ⟨⟨fun p hp => ?_, fun p hp n => ?_, fun a o ha n => ?_, fun a ha => ?_, fun j dv hj => ?_, fun j p hj => st.mu j p (s26.mu j p hj), fun j p hj => st.bx j p (s26.bx j p hj)⟩, a2.trans (s26.hs R2), R6w, eD6, ?_, m6, fun j hj => nD2 j (s26.mu j D hj)⟩
      · rcases s26.o1 p hp with h | h
        · exact st.o1 p h
        · right
          cases e : upd H1 D (.lst []) p with
          | none => rfl
          | some o =>
            have q := st.dm p (by rw [e]; simp)
            by_cases z : p = D
            · subst z; rw [eD] at h; cases h
            · rw [upd_ne z] at q; exact absurd h q
      · exact s26.o2 p (st.o2 p hp n) fun j hj => n j (st.mu j p hj)
      · by_cases z : a = D
        · subst z; rw [upd_same] at ha ⊢; exact ha
        · have q := st.kp a o ha n
          rw [upd_ne z] at q ⊢
          exact s26.kp a o q fun j hj => n j (st.mu j a hj)
      · by_cases z : a = D
        · subst z; rw [upd_same]; simp
        · have q := st.dm a ha
          rw [upd_ne z] at q ⊢
          exact s26.dm a q
      · obtain ⟨dv1, e1⟩ := st.sl j dv hj
        exact s26.sl j dv1 e1
      · exact RpL.mv R4.lo (s6.keepO R4) s6.o1 rl4
    refine ⟨O4, ds4, _, R4, h4, fun b ds5 H5 O5 s5 R5 h5 => ?_⟩
    cases b with
    | false =>
      refine iteF ?_
      obtain ⟨b1, b2, b3, b4, b5, b6, b7⟩ := bring s5 R5
      exact ⟨O5, _, acc, av, b1, b2, b3, b4, b5, by omega, wipeD_clear _ _ _, h5⟩
    | true =>
      refine iteT ⟨O5, ds5, _, R5, h5, fun y ds6 v H6 O6 s6 R6 ry h6 => ?_⟩
      cases e : frz ds6 y with
      | none => rw [e] at h6; exact h6.elim
      | some q =>
        obtain ⟨z, ds7⟩ := q
        rw [e] at h6
        obtain ⟨O7, s7, R7, rz, _, _⟩ := frz_ok R5 s6 R6 ry e
        obtain ⟨b1, b2, b3, b4, b5, b6, b7⟩ := bring (s5.trans s7) R7
        refine ⟨av, b4, ?_, ?_⟩
        · have h1 := b5.length
          have h2 := io.len
          omega
        · obtain ⟨R8, k8⟩ := b3.updT (ws := av ++ [v]) b6 b7 hDin
          refine ⟨O7, _, acc ++ [z], av ++ [v], by rw [upd_upd]; exact b1, b2.trans ⟨k8, grow_refl, fun a ha => ?_⟩, R8, upd_same, ?_, by rw [List.length_append, List.length_singleton]; omega, wipeD_clear _ _ _, h6⟩
          · by_cases za : a = D
            · subst za; rw [upd_same]; simp
            · rw [upd_ne za]; exact ha
          · exact RpL.mv b3.lo k8 grow_refl (RpL.append b5 (RpL.one rz))
  · have e : i = its.length := by omega
    subst e
    refine .inl ⟨io.stop H2 O2 R2.lo a2, ?_⟩
    have q := fin acc ds2 p2
    have l2 : ds2.sl.length = ds1.sl.length := by rw [R2.len, R1.len, wl]
    have ke : ∀ a o, H1 a = some o → (∀ j, ¬ MutAt (wipe σ vs) ⟨wipeD ds1.sl vs, ds1.n⟩ j a) → H2 a = some o := fun a o ha n => by
      have nz : a ≠ D := ne_of_none ha hD
      have q := st.kp a o (by rw [upd_ne nz]; exact ha) n
      rwa [upd_ne nz] at q
    have mo : ∀ j p, MutAt σ ⟨restD ds2.sl ds1.sl vs, ds2.n⟩ j p → MutAt σ ds1 j p := fun j p ⟨a0, a, dv, b, c, ce⟩ => by
      by_cases hj : j ∈ vs
      · have b' : (restD ds2.sl ds1.sl vs)[j]? = some (some dv) := b
        rw [restD_in l2 hj] at b'
        exact ⟨a0, a, dv, b', c, ce⟩
      · have b' : (restD ds2.sl ds1.sl vs)[j]? = some (some dv) := b
        rw [restD_out hj] at b'
        exact (mw j p (st.mu j p ⟨a0, by rw [wo j hj]; exact a, dv, b', c, ce⟩)).1
    have bo : ∀ j p, BoxS σ ⟨restD ds2.sl ds1.sl vs, ds2.n⟩ j p → BoxS σ ds1 j p := fun j p ⟨a, b⟩ => by
      have b' : (restD ds2.sl ds1.sl vs)[j]? = some (some .box) := b
      by_cases hj : j ∈ vs
      · rw [restD_in l2 hj] at b'
        exact ⟨a, b'⟩
      · rw [restD_out hj] at b'
        obtain ⟨b1, b2⟩ := st.bx j p ⟨by rw [wo j hj]; exact a, b'⟩
        exact ⟨a, (wipeD_some b2).1⟩
    have inw : ∀ j p, j ∈ vs → MutAt σ ds1 j p → ∀ k, ¬ MutAt (wipe σ vs) ⟨wipeD ds1.sl vs, ds1.n⟩ k p := fun j p hj hm k hk => by
      obtain ⟨h1, h2⟩ := mw k p hk
      exact h2 (R1.mu j k p hm h1 ▸ hj)
    have mO : ∀ j p, j ∈ vs → MutAt σ ds1 j p → p ∈ O2 := fun j p hj hm => st.o2 p (List.mem_cons_of_mem _ (R1.mutO hm)) (inw j p hj hm)
    refine hq (.own acc) ⟨restD ds2.sl ds1.sl vs, ds2.n⟩ (.ref D) H2 O2 (s1.trans ⟨a2.gr, fun p hp n => ?_, fun a o ha n => ke a o ha fun j hj => n j (mw j a hj).1, a2.dm, fun j dv hj => ?_, mo, bo⟩) ?_ ?_ q
    · exact st.o2 p (List.mem_cons_of_mem _ hp) fun j hj => n j (mw j p hj).1
    · by_cases hv : j ∈ vs
      · exact ⟨dv, by show (restD ds2.sl ds1.sl vs)[j]? = _; rw [restD_in l2 hv]; exact hj⟩
      · obtain ⟨dv', e'⟩ := st.sl j dv (by show (wipeD ds1.sl vs)[j]? = _; rw [wipeD_keep hv]; exact hj)
        exact ⟨dv', by show (restD ds2.sl ds1.sl vs)[j]? = _; rw [restD_out hv]; exact e'⟩
    · refine ⟨R2.lo, R2.sub, R2.ext, fun j dv hj => ?_, fun j k p h1 h2 => R1.mu j k p (mo j p h1) (mo k p h2), fun j p h1 => R1.new j p (mo j p h1), fun j p ys h1 h2 => ?_, R2.bx, fun j p hb => R1.bu j p (bo j p hb), fun j k p r h1 h2 => R1.b1 j k p r (bo j p h1) (bo k r h2), R2.fo, R2.bo, by show (restD ds2.sl ds1.sl vs).length = _; rw [restD_len, l2, R1.len], fun j c' p' q h hm => ?_⟩
      · by_cases hv : j ∈ vs
        · have hj' : (restD ds2.sl ds1.sl vs)[j]? = some (some dv) := hj
          rw [restD_in l2 hv] at hj'
          obtain ⟨w', ew, r⟩ := R1.sl j dv hj'
          refine ⟨w', ew, ?_⟩
          cases dv with
          | exc xa xb => exact hs_ex R1.lo a2 r
          | fd xc => exact hs_fd R1.lo a2 r
          | d y => exact hs_rp R1.lo a2 r
          | own ys =>
            obtain ⟨p, us, e3, c1, c2, c3⟩ := r
            subst e3
            have hm : MutAt σ ds1 j p := mutAt ew hj' trivial
            exact ⟨p, us, rfl, mO j p hv hm, ke p _ c2 (inw j p hv hm), hs_rpl R1.lo a2 c3⟩
          | box => exact absurd hj' (noBox_ok hbx hv)
          | mu c p =>
            obtain ⟨e3, c1, c2⟩ := r
            subst e3
            have hm : ∀ u, u = p ∨ u ∈ innM c → MutAt σ ds1 j u := fun u hu => mutAtM ew hj' hu
            exact ⟨rfl, fun u hu => mO j u hv (hm u hu), MuAt.mv R1.lo a2.kp a2.gr (fun u hu o ho => ke u o ho (inw j u hv (hm u hu))) c2⟩
          | slot k => exact r
        · have hj' : (restD ds2.sl ds1.sl vs)[j]? = some (some dv) := hj
          rw [restD_out hv] at hj'
          obtain ⟨w', ew, r⟩ := R2.sl j dv hj'
          exact ⟨w', by rw [← wo j hv]; exact ew, r⟩
      · by_cases hv : j ∈ vs
        · have hj' : (restD ds2.sl ds1.sl vs)[j]? = some (some (.own ys)) := h2
          rw [restD_in l2 hv] at hj'
          exact R1.newO j p ys h1 hj'
        · have hj' : (restD ds2.sl ds1.sl vs)[j]? = some (some (.own ys)) := h2
          rw [restD_out hv] at hj'
          exact R2.newO j p ys (by rw [wo j hv]; exact h1) hj'
      · by_cases hv : j ∈ vs
        · have hj' : (restD ds2.sl ds1.sl vs)[j]? = some (some (.mu c' p')) := h
          rw [restD_in l2 hv] at hj'
          exact R1.nm j c' p' q hj' (mo j q hm)
        · have hj' : (restD ds2.sl ds1.sl vs)[j]? = some (some (.mu c' p')) := h
          rw [restD_out hv] at hj'
          refine R2.nm j c' p' q hj' ?_
          obtain ⟨a0, a, dv, b, c, ce⟩ := hm
          have b' : (restD ds2.sl ds1.sl vs)[j]? = some (some dv) := b
          rw [restD_out hv] at b'
          exact ⟨a0, by rw [wo j hv]; exact a, dv, b', c, ce⟩
    · refine ⟨D, av, rfl, memD, s1.fresh R hD, hDin, eD, rl⟩
end
section
variable {X : Cx} {F : Fx} {tg it elt : Expr} {pos : Pos}
theorem PTs_imp {X : Cx} {es : List Expr} {t t' : TT} (h : PTs X es t) (hi : ∀ σ H Q, t' σ H Q → t σ H Q) : PTs X es t' := ⟨fun pins s σ H Q I q => h.run pins s σ H Q I (hi _ _ _ q)⟩
def dYes : DTT := fun ds Q => Q true ds
abbrev DTs (X : Cx) (F : Fx) (es : List Expr) (t : DTT) : Prop := PTs X es (liftT X.K F t)
theorem dts_nil : DTs X F [] dYes := PTs_imp pts_nil fun σ H Q ⟨O, ds, Qa, R, ht, hq⟩ => hq true ds H O Step.refl R ht
theorem dts_one {c : Expr} {t : DTT} (h : DT X F c t) : DTs X F [c] t := pts_one h
theorem de_lc {s : Bool} {T : List Nat} {w : DTI} {g : DTG} {tt : DTT} {te : DTE} {ifs : List Expr} {scope : Scope} {own : List (Str × Nat)} (hc : X.calm = true) (hN : X.N.Nodup) (hi : DI s X F tg it w) (ok : BlkOk X.N X.env.scope scope own)
    (hT : ∀ i ∈ T, i ∈ own.map (·.2))
    (hg : ∀ (s0 : Shared) (H : Hp) (C : Addr) (cl : List (Str × Addr)) (fp : List Addr), DG s T (X.blk s0 H scope (compEnvC scope cl C X.env) fp) F tg g)
    (ht : ∀ (s0 : Shared) (H : Hp) (C : Addr) (cl : List (Str × Addr)) (fp : List Addr), DTs (X.blk s0 H scope (compEnvC scope cl C X.env) fp) F ifs tt)
    (he : ∀ (s0 : Shared) (H : Hp) (C : Addr) (cl : List (Str × Addr)) (fp : List Addr), DE (X.blk s0 H scope (compEnvC scope cl C X.env) fp) F elt te)
    (hs : ∀ x, foldedSetIterable it X.env x = pure x := by intro _; rfl) : DE X F (.ListComp elt [⟨tg, it, ifs, 0⟩] scope pos) (dLc w g tt te (own.map (·.2))) :=
  PE_imp (pe_lc hc hN hi ok hg ht he hs) fun σ H Q h => lc_lift hT h
theorem ds_setLc {i : Nat} {y : Str} {py spos : Pos} {s : Bool} {T : List Nat} {w : DTI} {g : DTG} {tt : DTT} {te : DTE} {ifs : List Expr} {scope : Scope} {own : List (Str × Nat)} (hc : X.calm = true) (hN : X.N.Nodup) (hy : X.N[i]? = some y) (hyl : X.env.scope.names.lookup y = some .local)
    (hsw : swapsWith (.ListComp elt [⟨tg, it, ifs, 0⟩] scope pos) (some (.Name y py)) spos.line X.env = pure true) (hi : DI s X F tg it w) (ok : BlkOk X.N X.env.scope scope own)
    (hT : ∀ i ∈ T, i ∈ own.map (·.2))
    (hg : ∀ (s0 : Shared) (H : Hp) (C : Addr) (cl : List (Str × Addr)) (fp : List Addr), DG s T (X.blk s0 H scope (compEnvC scope cl C X.env) fp) F tg g)
    (ht : ∀ (s0 : Shared) (H : Hp) (C : Addr) (cl : List (Str × Addr)) (fp : List Addr), DTs (X.blk s0 H scope (compEnvC scope cl C X.env) fp) F ifs tt)
    (he : ∀ (s0 : Shared) (H : Hp) (C : Addr) (cl : List (Str × Addr)) (fp : List Addr), DE (X.blk s0 H scope (compEnvC scope cl C X.env) fp) F elt te)
    (hs : ∀ x, foldedSetIterable it X.env x = pure x := by intro _; rfl) : DSt X F (.Assign [.Name y py] (.ListComp elt [⟨tg, it, ifs, 0⟩] scope pos) spos) (dSet i (dLc w g tt te (own.map (·.2)))) :=
  ds_asg (PS_imp (ps_setLc hc hN hy hyl hsw hi ok hg ht he hs) fun D σ H h => lc_lift hT h)
end
theorem lc_in {w : DTI} {g : DTG} {tt : DTT} {te : DTE} {vs : List Nat} {ds ds1 : DS} {its : List D} {Q : DV → DS → Prop} (hw : ∀ K : List D → DS → Prop, K its ds1 → w ds K) (hb : noBox ds1.sl vs = true) (P : Nat → List D → DS → Prop) (h0 : P 0 [] ⟨wipeD ds1.sl vs, ds1.n⟩)
    (hs : ∀ (i : Nat) d acc ds2, its[i]? = some d → P i acc ds2 → g d ds2 fun ds3 => tt ds3 fun b ds4 => match b with
      | true => te ds4 fun y ds5 => match frz ds5 y with
        | some (z, ds6) => P (i + 1) (acc ++ [z]) ⟨wipeD ds6.sl vs, ds6.n⟩
        | none => False
      | false => P (i + 1) acc ⟨wipeD ds4.sl vs, ds4.n⟩)
    (hf : ∀ acc ds2, P its.length acc ds2 → Q (.own acc) ⟨restD ds2.sl ds1.sl vs, ds2.n⟩) : dLc w g tt te vs ds Q := by
  unfold dLc
  refine hw _ ?_
  rw [hb]
  exact ⟨P, h0, hs, hf⟩
structure RoomG (k : Nat) (A : Around) : Prop where
  rm : Room k A
  gd : A.guards = some []
theorem RoomG.mono {j k : Nat} {A : Around} (r : RoomG k A) (h : j ≤ k) : RoomG j A := ⟨r.rm.mono h, r.gd⟩
structure FnG (P : Program) (w : World) (K : Fg) (mg : Str → Option Value) (base : Heap) (CX : CXT) (k : Nat) (f : Addr) (fd : FuncData) (ps : List Str) (sp : Sp) : Prop where
  len : ∀ vs H Q E, sp vs H Q E → vs.length = ps.length
  run : ∀ (A : Around) (outer : List Env) (s : Shared) (H : Hp) (args : Args) (us : List Value) (vs : List V) (Q : VK) (E : XK), RoomG k A → Env0 P w K mg base A outer s H → BindsTo s fd args (ps.zip us) → Vals vs us → sp vs H Q E →
    codeAny (model P w) A (.call (.ref f) args) (CR CX outer P w H s Q E) s
theorem FnG.mono {P : Program} {w : World} {K : Fg} {mg : Str → Option Value} {base : Heap} {CX : CXT} {j k : Nat} {f : Addr} {fd : FuncData} {ps : List Str} {sp : Sp} (G : FnG P w K mg base CX j f fd ps sp) (h : j ≤ k) : FnG P w K mg base CX k f fd ps sp :=
  ⟨G.len, fun A outer s H args us vs Q E hr => G.run A outer s H args us vs Q E (hr.mono h)⟩
section
variable {P : Program} {w : World} {K : Fg} {mg : Str → Option Value} {base : Heap} {CX : CXT}
theorem fnG_of {x qual : Str} {st : Stmt} {f : Addr} {fd : FuncData} {N ps : List Str} {k : Nat} {sp : Sp} (Fu : Fun K x qual st f fd) (S : FnScope N ps (defScope st)) (len : ∀ vs H Q E, sp vs H Q E → vs.length = ps.length)
    (hbody : ∀ (cdv : Value) (A : Around) (outer : List Env) (s : Shared) (H : Hp) (vs : List V) (Q : VK) (E : XK), RoomG k (A.deeper (envOfC qual (defScope st) s.heap.objs.size f cdv)) → sp vs H Q E →
      ∃ t, PSs (cxOf CX P w K mg base N qual (defScope st) f cdv A outer s H E) (defBody st) t ∧ t { nx := fun _ H' => Q .non H', rt := Q } (start N vs) H) : FnG P w K mg base CX (k + 1) f fd ps sp := by
  obtain ⟨oc, od, kV, doc, pm, an, cdv, ct, osl, efd, lk, hcd⟩ := Fu.ex
  constructor
  · exact len
  intro A outer s H args us vs Q E hr e0 hb r hsp
  subst efd
  have old : ∀ b o, base.get? b = some o → s.heap.get? b = some o := fun b o e => (e0.bs b o e).1
  have KX : K.In s.heap := e0.mod.kin.keeps old
  have lim : s.heap.NoLimit := e0.mod.nolimit.keeps old
  refine codeAny_call_function hr.rm.depth (KX _ _ lk) rfl S.co S.gen rfl (PySem.W.codeRec_of KX hcd) (hb _ _ _ _ ?_)
  refine wpAny_newFunctionEnv_cells S.kind ?_ ?_
  · rintro ⟨n, v⟩ hy
    exact (S.par n (List.of_mem_zip hy).1).elim .inl fun q => .inr ⟨q, PySem.W.cellsFrom_some _ _ _ (.inl q)⟩
  rintro env rfl s1 x1
  obtain ⟨t, ht, hq⟩ := hbody cdv A outer s H vs Q E ⟨hr.rm.deeper _, hr.gd⟩ hsp
  have I := inv_start (CX := CX) (E := E) S hr.rm.hd e0 (len _ _ _ _ hsp) r x1
  refine ⟨lim.keeps x1.toInCall.keep, codeAny_func (wpAny_mono (ht.run [] s1 _ H _ I hq) ?_ fun e s' z => z)⟩
  intro fl s' hs
  cases fl with
  | ret u => obtain ⟨v, σ', H', J, rv, q⟩ := hs; exact ⟨v, H', J.os, J.bare, J.base, J.hok, rv, q⟩
  | next => obtain ⟨σ', H', J, q⟩ := hs; exact ⟨.non, H', J.os, J.bare, J.base, J.hok, rfl, q⟩
  | brk => obtain ⟨_, _, _, q⟩ := hs; exact q.elim
  | cont => obtain ⟨_, _, _, q⟩ := hs; exact q.elim
end
section
variable {X : Cx} {CX : CXT} {k : Nat} {f : Addr} {fd : FuncData} {ps ks : List Str} {sp : Sp} {E : XK} {x : Str} {p pos : Pos} {e : Expr} {es : List Expr} {kws : List Keyword} {t tk : TA}
theorem callG {pins : List (Addr × Obj)} {σ : St} {H : Hp} {s : Shared} {Q : VK} {us : List Value} {vs : List V} {args : Args} (G : FnG X.prog X.w X.K X.mg X.base CX k f fd ps sp) (hr : RoomG k X.A) (hx : Passes CX X E) (I : Inv X pins σ H s)
    (hb : BindsTo s fd args (ps.zip us)) (r : Vals vs us) (h : sp vs H Q E) : codeAny (model X.prog X.w) X.A (.call (.ref f) args) (fun r s' => match r with | .ok (.ret u) => EP X pins σ Q u s' | .ok _ => False | .error e => X.xe e s') s := by
  refine codeAny_mono (G.run X.A X.stack s H args us vs Q E hr I.env0 hb r h) ?_
  intro r s' hq
  cases r with
  | error e => exact hx pins σ H s e s' I hq
  | ok fl =>
    cases fl with
    | ret u => exact I.after hq
    | next => exact hq
    | brk => exact hq
    | cont => exact hq
theorem wp_callG {pins : List (Addr × Obj)} {σ : St} {H : Hp} {s : Shared} {Q : VK} {us : List Value} {kw : List (Str × Value)} {vs : List V} {bs : List Value} (G : FnG X.prog X.w X.K X.mg X.base CX k f fd ps sp) (hr : RoomG k X.A) (hx : Passes CX X E) (I : Inv X pins σ H s)
    (hb : BindsTo s fd ⟨us, kw⟩ (ps.zip bs)) (r : Vals vs bs) (h : sp vs H Q E) : wpAny (model X.prog X.w) X.A (call (.ref f) us kw) (EP X pins σ Q) X.xe s := by
  refine wpAny_call (codeAny_mono (callG G hr hx I hb r h) ?_)
  intro r s' hq
  cases r with
  | error e => exact hq
  | ok fl =>
    cases fl with
    | ret u => exact hq
    | next => exact hq.elim
    | brk => exact hq.elim
    | cont => exact hq.elim
theorem pe_callG {dvs : List V} {dd : List Value} (G : FnG X.prog X.w X.K X.mg X.base CX k f fd ps sp) (hr : RoomG k X.A) (hg : Gl X x) (hm : X.mg x = some (.ref f)) (hk : PySem.W.keepIn X.K (.ref f) = true) (hb : Binds X.K fd ps dd) (hd : Vals dvs dd) (hx : Passes CX X E)
    (ha : PA X (e :: es) t) (hdb : (x == ("__debug__" : Str)) = false := by decide) (he : starEach (e :: es) X.env = (false, eval e X.env) :: starEach es X.env := by rfl) (hpl : (backTo pos (starEach es X.env)).any (·.1) = false := by rfl) :
    PE X (.Call (.Name x p) (e :: es) [] pos) (tCall sp dvs E t) := by
  constructor
  intro pins s σ H Q I h
  refine wpAny_Call_Name_kw (ld_glob I hg hm (PySem.W.callWith_K (h₀ := X.base) I.ok.mod.kin hk (thn (ha.run pos pins s σ H _ I h) ?_) he hpl) hdb)
  rintro us s1 ⟨vs, H1, I1, r, q⟩
  have r2 := r.append hd
  exact ⟨I1.kIn, wp_callG G hr hx I1 (hb s1 us I1.kIn (by rw [← r2.length]; exact G.len _ _ _ _ q)) r2 q⟩
theorem pe_callGK0 {g : List Value → List Value} {gV : List V → List V} (G : FnG X.prog X.w X.K X.mg X.base CX k f fd ps sp) (hr : RoomG k X.A) (hg : Gl X x) (hm : X.mg x = some (.ref f)) (hk : PySem.W.keepIn X.K (.ref f) = true)
    (hto : ∀ (s : Shared) (ws : List Value), X.K.In s.heap → (g ws).length = ps.length → BindsTo s fd ⟨[], ks.zip ws⟩ (ps.zip (g ws))) (hrel : ∀ {zs : List V} {ws : List Value}, Vals zs ws → Vals (gV zs) (g ws)) (hx : Passes CX X E)
    (hkw : PK X kws tk) (hall : (backToKw pos (keywordEach kws X.env)).all (·.1.isSome) = true := by rfl) (hks : (backToKw pos (keywordEach kws X.env)).filterMap (·.1) = ks := by rfl)
    (hdb : (x == ("__debug__" : Str)) = false := by decide) (hpl : (backToKw pos (keywordEach kws X.env)).any (·.1.isNone) = false := by rfl) :
    PE X (.Call (.Name x p) [] kws pos) (fun σ H Q => tk σ H fun zs H2 => sp (gV zs) H2 Q E) := by
  constructor
  intro pins s σ H Q I h
  refine wpAny_Call_Name_kw (ld_glob I hg hm (PySem.W.callWith_KW0 (h₀ := X.base) I.ok.mod.kin hk hall (thn (hkw.run pos pins s σ H _ I h) ?_) hpl) hdb)
  rintro ws s2 ⟨zs, H2, I2, rz, q2⟩
  have r2 := hrel rz
  refine ⟨I2.kIn, ?_⟩
  rw [hks]
  exact wp_callG G hr hx I2 (hto s2 ws I2.kIn (by rw [← r2.length]; exact G.len _ _ _ _ q2)) r2 q2
end
theorem passX {X : Cx} : Passes (L2.CX X.prog X.w) X E0 := fun _ _ _ _ _ _ _ ⟨_, _, _, _, _, _, _, _, _, _, _, _, z⟩ => z.elim
abbrev DXK := Str → Option (Str × D) → Nat → Prop
abbrev DSp := List DV → Nat → (DV → Nat → Prop) → DXK → Prop
def ArgD (K : Fg) (H : Hp) (B O : List Addr) (v : V) : DV → Prop
  | .d x => Rp K H O v x
  | .box => ∃ b, B = [b] ∧ v = .ref b
  | .fd c => FdS K H O v c
  | _ => False
def XcAt (mg : Str → Option Value) (K : Fg) (H : Hp) (O : List Addr) (nm : Str) (fo : Option (Str × D)) (cv : Value) (od : Option Addr) : Prop :=
  ∃ c, Cl K nm c ∧ cv = .ref c ∧ Fld K H O od fo
def spD (K : Fg) (mg : Str → Option Value) (dsp : DSp) : Sp := fun vs H Q E => ∃ (B O : List Addr) (args : List DV) (n : Nat) (Qa : DV → Nat → Prop) (Ea : DXK),
  LO O H ∧ (∀ b ∈ B, b ∈ O ∧ BoxAt H b n) ∧ Paired (ArgD K H B O) vs args ∧ (∀ i j : Nat, args[i]? = some .box → args[j]? = some .box → i = j) ∧ dsp args n Qa Ea ∧
  (∀ r n' v H', Keep B H H' → (∀ b ∈ B, BoxAt H' b n') → RpR K ⟨H, B, O, []⟩ H' v r → Qa r n' → Q v H') ∧
  (∀ nm fo n' cv od H', Keep B H H' → (∀ b ∈ B, BoxAt H' b n') → XcAt mg K H' O nm fo cv od → Ea nm fo n' → E cv od H')
def startD (N : Nat) (args : List DV) (n : Nat) : DS := ⟨args.map some ++ List.replicate (N - args.length) none, n⟩
theorem paired_len {α β : Type} {R : α → β → Prop} : ∀ {l : List α} {l' : List β}, Paired R l l' → l.length = l'.length
  | _, _, .nil => rfl
  | _, _, .cons _ r => by rw [List.length_cons, List.length_cons, paired_len r]
theorem paired_get {α β : Type} {R : α → β → Prop} : ∀ {l : List α} {l' : List β} {i : Nat} {b : β}, Paired R l l' → l'[i]? = some b → ∃ a, l[i]? = some a ∧ R a b
  | _, _, _, _, .nil, e => by simp at e
  | _, _, 0, _, .cons h _, e => by simp at e; subst e; exact ⟨_, rfl, h⟩
  | _, _, i + 1, b, .cons _ r, e => by
    obtain ⟨v, h1, h2⟩ := paired_get (i := i) (b := b) r (by simpa using e)
    exact ⟨v, by simpa using h1, h2⟩
theorem BoxAt.some {H : Hp} {p : Addr} {n : Nat} (h : BoxAt H p n) : ∃ xs, H p = some (.lst xs) := by
  obtain ⟨x, y, c, h, _⟩ := h
  exact ⟨_, h⟩
theorem startD_get {N : Nat} {args : List DV} {n i : Nat} {dv : DV} (h : (startD N args n).sl[i]? = some (some dv)) : args[i]? = some dv := by
  unfold startD at h
  simp only at h
  by_cases hi : i < args.length
  · rw [List.getElem?_append_left (by simpa using hi), List.getElem?_map] at h
    cases e : args[i]? with
    | none => rw [e] at h; simp at h
    | some a => rw [e] at h; simp at h; rw [h]
  · rw [List.getElem?_append_right (by simpa using hi), List.getElem?_replicate] at h
    split at h <;> simp at h
theorem start_get {N : List Str} {vs : List V} {i : Nat} {v : V} (h : vs[i]? = some v) : (start N vs)[i]? = some (some v) := by
  unfold L2.start
  rw [List.getElem?_append_left (by rw [List.length_map]; exact (List.getElem?_eq_some_iff.mp h).1), List.getElem?_map, h]
  rfl
theorem rep_start {K : Fg} {H : Hp} {B O : List Addr} {N : List Str} {vs : List V} {args : List DV} {n : Nat} (lo : LO O H) (hb : ∀ b ∈ B, b ∈ O ∧ BoxAt H b n) (ha : Paired (ArgD K H B O) vs args)
    (h1 : ∀ i j : Nat, args[i]? = some .box → args[j]? = some .box → i = j) (hl : vs.length ≤ N.length) : Rep K ⟨H, B, O, []⟩ H O (start N vs) (startD N.length args n) := by
  have at_ : ∀ (i : Nat) dv, (startD N.length args n).sl[i]? = some (some dv) → ∃ v, (start N vs)[i]? = some (some v) ∧ args[i]? = some dv ∧ ArgD K H B O v dv := fun i dv h => by
    have e := startD_get h
    obtain ⟨v, e1, r⟩ := paired_get ha e
    exact ⟨v, start_get e1, e, r⟩
  have mut_of : ∀ i p, MutAt (start N vs) (startD N.length args n) i p → args[i]? = some .box ∧ B = [p] := fun i p ⟨a0, a, dv, b, c, ce⟩ => by
    obtain ⟨v, e1, e2, r⟩ := at_ i dv b
    rw [a] at e1; cases e1
    cases dv with
    | exc xa xb => first | exact h.elim | exact hw.elim | exact hr.elim | exact rr.elim | exact rx.elim | exact h3.elim | exact c3.elim | exact c.elim | exact hab.elim | exact q.elim | (simp [peek] at hp; done) | (simp [frz] at e; done) | (simp [frz] at e1; done) | (simp [argOf] at ax; done) | (simp [argOf] at e1; done) | (simp [isBx] at hab; done) | (simp [argOf] at h; done) | (simp [peek] at e; done) | (simp [isBx] at hbx; done) | exact h | exact hw | exact r | (cases e; done) | (cases e2; done) | rfl | (simp at e; done) | (simp at h; done)
    | fd xc => exact c.elim
    | d x => exact c.elim
    | slot j => exact c.elim
    | own xs => exact r.elim
    | box => obtain ⟨b', r1, r2⟩ := r; cases r2; rcases ce with rfl | ce; · exact ⟨e2, r1⟩
             · cases ce
    | mu c q => exact r.elim
  refine ⟨lo, fun _ h => h, fun _ _ h _ => h, fun i dv h => ?_, fun i j p a b => h1 i j (mut_of i p a).1 (mut_of j p b).1, fun i p a => ?_, fun i p xs a b => ?_, fun p hp => .inr (hb p hp).2, fun i p hb' q hq => ?_, fun i j p q a b => ?_, fun p hp => ?_, fun p hp => (hb p hp).1, ?_, fun i c p q h _ => by obtain ⟨v, e1, e2, r⟩ := at_ i _ h; exact r.elim⟩
  · obtain ⟨v, e1, e2, r⟩ := at_ i dv h
    refine ⟨v, e1, ?_⟩
    cases dv with
    | exc xa xb => exact r.elim
    | fd xc => exact r
    | d x => exact r
    | box =>
      obtain ⟨b, e, ev⟩ := r
      have hm := hb b (by rw [e]; simp)
      exact ⟨b, ev, hm.1, hm.2⟩
    | mu c q => exact r.elim
    | own xs => exact r.elim
    | slot j => exact r.elim
  · obtain ⟨_, e⟩ := mut_of i p a
    right
    show p ∈ B
    rw [e]; simp
  · obtain ⟨v, _, _, r⟩ := at_ i _ b
    exact r.elim
  · obtain ⟨_, e⟩ := mut_of i p (mutAt hb'.1 hb'.2 trivial)
    have hq' : q ∈ B := hq
    rw [e] at hq'
    exact .inl (by simpa using hq')
  · exact h1 i j (mut_of i p (mutAt a.1 a.2 trivial)).1 (mut_of j q (mutAt b.1 b.2 trivial)).1
  · obtain ⟨xs, e, _⟩ := lo p hp
    show H p ≠ none
    rw [e]; simp
  · have := paired_len ha
    unfold L2.start startD
    simp
    omega
section
variable {P : Program} {w : World} {K : Fg} {mg : Str → Option Value} {base : Heap}
theorem fnD_of {x qual : Str} {st : Stmt} {f : Addr} {fd : FuncData} {N ps : List Str} {k : Nat} {dsp : DSp} (Fu : Fun K x qual st f fd) (S : FnScope N ps (defScope st)) (len : ∀ args n Q E, dsp args n Q E → args.length = ps.length)
    (hbody : ∀ (cdv : Value) (A : Around) (outer : List Env) (s : Shared) (H : Hp) (E : XK) (F : Fx), RoomG k (A.deeper (envOfC qual (defScope st) s.heap.objs.size f cdv)) →
      ∃ t, DSs (cxOf (L2.CX P w) P w K mg base N qual (defScope st) f cdv A outer s H E).nox F (defBody st) t ∧ ∀ args n Qa Ea, dsp args n Qa Ea → t ⟨fun ds => Qa (.d .none) ds.n, fun r ds => Qa r ds.n, fun _ => False, fun _ => False⟩ (startD N.length args n)) :
    FnG P w K mg base (L2.CX P w) (k + 1) f fd ps (spD K mg dsp) := by
  have hlen : ∀ vs H Q E, spD K mg dsp vs H Q E → vs.length = ps.length := fun vs H Q E ⟨B, O, args, n, Qa, Ea, _, _, ha, _, hd, _⟩ => by rw [paired_len ha]; exact len _ _ _ _ hd
  refine fnG_of Fu S hlen fun cdv A outer s H vs Q E hr hsp => ?_
  have hl := hlen vs H Q E hsp
  obtain ⟨B, O, args, n, Qa, Ea, lo, hb, ha, h1, hd, hq, _⟩ := hsp
  obtain ⟨t, ht, hread⟩ := hbody cdv A outer s H E ⟨H, B, O, []⟩ hr
  have hpl : ps.length ≤ N.length := by have := congrArg List.length S.pre; rw [List.length_take] at this; omega
  refine ⟨_, ht.nox, O, _, _, rep_start lo hb ha h1 (by omega), hread args n Qa Ea hd, ?_⟩
  refine ⟨fun O' ds' σ' H' a R' q => ?_, fun O' ds' σ' H' v dv a R' r q => ?_, fun _ _ _ _ _ _ q => q, fun _ _ _ _ _ _ q => q⟩
  · exact hq (.d .none) ds'.n .non H' R'.ext (fun b hb => (R'.bx b hb).resolve_left (fun z => nomatch z)) .non q
  · exact hq dv ds'.n v H' R'.ext (fun b hb => (R'.bx b hb).resolve_left (fun z => nomatch z)) (r.out R'.lo R'.sub) q
end
def argOf (ds : DS) : DV → Option DV
  | .d x => some (.d x)
  | .own xs => some (.d (.list xs))
  | .box => none
  | .mu _ _ => none
  | .slot i => match ds.sl[i]? with
    | some (some (.d x)) => some (.d x)
    | some (some (.own xs)) => some (.d (.list xs))
    | some (some .box) => some .box
    | some (some (.fd c)) => some (.fd c)
    | _ => none
  | .exc _ _ => none
  | .fd c => some (.fd c)
def argsOf (ds : DS) : List DV → Option (List DV)
  | [] => some []
  | x :: xs => match argOf ds x, argsOf ds xs with
    | some a, some r => some (a :: r)
    | _, _ => none
def flatR : DV → Bool
  | .d x => flat x
  | .own xs => flatL xs
  | _ => false
def isBx : DV → Bool
  | .box => true
  | _ => false
def frzA (ds : DS) : List DV → DS
  | [] => ds
  | x :: xs => match frz ds x with
    | some (_, ds1) => frzA ds1 xs
    | none => frzA ds xs
def ownA (ds : DS) : List DV → Bool
  | [] => false
  | .slot i :: xs => (match ds.sl[i]? with | some (some (.own _)) => true | _ => false) || ownA ds xs
  | _ :: xs => ownA ds xs
theorem ownA_no {ds : DS} : ∀ {xs : List DV}, ownA ds xs = false → frzA ds xs = ds
  | [], _ => rfl
  | .d x :: xs, h => ownA_no (xs := xs) h
  | .own x :: xs, h => ownA_no (xs := xs) h
  | .box :: xs, h => ownA_no (xs := xs) h
  | .mu _ _ :: xs, h => ownA_no (xs := xs) h
  | .exc _ _ :: xs, h => ownA_no (xs := xs) h
  | .fd _ :: xs, h => ownA_no (xs := xs) h
  | .slot i :: xs, h => by
    simp only [ownA, Bool.or_eq_false_iff] at h
    obtain ⟨h1, h2⟩ := h
    have ih := ownA_no (xs := xs) h2
    simp only [frzA, frz]
    split
    · rename_i e
      split at e
      · cases e; exact ih
      · rename_i q; rw [q] at h1; cases h1
      · cases e
    · exact ih
def aftS (ds : DS) (xs : List DV) (r : DV) : List (Option DV) := match ownA ds xs with
  | false => ds.sl
  | true => match flatR r with
    | true => ds.sl
    | false => (frzA ds xs).sl
def aftN (args : List DV) (n n' : Nat) : Nat := match args.any isBx with
  | true => n'
  | false => n
def onceB (args : List DV) (P : Prop) : Prop := match Nat.ble (args.countP isBx) 1 with
  | true => P
  | false => False
def sameB (args args' : List DV) (P : Prop) : Prop := match args.any isBx, args'.any isBx with
  | true, true => P
  | false, false => P
  | _, _ => False
theorem sameB_ok {args args' : List DV} {P : Prop} (h : sameB args args' P) : args'.any isBx = args.any isBx ∧ P := by
  unfold sameB at h
  split at h
  · rename_i e1 e2; exact ⟨by rw [e1, e2], h⟩
  · rename_i e1 e2; exact ⟨by rw [e1, e2], h⟩
  · exact h.elim
def dCall (dsp : DSp) (m : List DV → List DV) (ta : DTA) : DTE := fun ds Q => ta ds fun xs ds1 => match argsOf ds1 xs with
  | some args => sameB args (m args) (onceB (m args) (dsp (m args) ds1.n (fun r n' => Q r ⟨aftS ds1 xs r, aftN (m args) ds1.n n'⟩) fun _ _ _ => False))
  | none => False
theorem onceB_ok {args : List DV} {P : Prop} (h : onceB args P) : (∀ i j : Nat, args[i]? = some .box → args[j]? = some .box → i = j) ∧ P := by
  unfold onceB at h
  split at h
  · rename_i e
    refine ⟨?_, h⟩
    have e := Nat.le_of_ble_eq_true e
    rename_i e0
    clear h e0
    induction args with
    | nil => intro i j hi; simp at hi
    | cons a r ih =>
      have none_of : ∀ {l : List DV}, l.countP isBx = 0 → ∀ k : Nat, l[k]? ≠ some .box := fun {l} hl k hk => by
        have := List.countP_eq_zero.mp hl .box (List.mem_of_getElem? hk)
        simp [isBx] at this
      intro i j hi hj
      rw [List.countP_cons] at e
      cases i with
      | zero =>
        simp at hi
        subst hi
        cases j with
        | zero => rfl
        | succ j =>
          simp [isBx] at e
          exact absurd (by simpa using hj) (none_of (List.countP_eq_zero.mpr (by simpa [isBx] using e)) j)
      | succ i =>
        cases j with
        | zero =>
          simp at hj
          subst hj
          simp [isBx] at e
          exact absurd (by simpa using hi) (none_of (List.countP_eq_zero.mpr (by simpa [isBx] using e)) i)
        | succ j =>
          have := ih (by omega) i j (by simpa using hi) (by simpa using hj)
          omega
  · exact h.elim
section
variable {K : Fg} {F : Fx} {H H' H0 : Hp} {O O' : List Addr} {σ : St} {ds ds0 ds' : DS} {v : V} {dv : DV} {d : D}
theorem argOf_frz {x y : DV} (e : frz ds x = some (d, ds')) : argOf ds' y = argOf ds y := by
  cases x with
  | exc xa xb => first | exact h.elim | exact hw.elim | exact hr.elim | exact rr.elim | exact rx.elim | exact h3.elim | exact c3.elim | exact c.elim | exact hab.elim | exact q.elim | (simp [peek] at hp; done) | (simp [frz] at e; done) | (simp [frz] at e1; done) | (simp [argOf] at ax; done) | (simp [argOf] at e1; done) | (simp [isBx] at hab; done) | (simp [argOf] at h; done) | (simp [peek] at e; done) | (simp [isBx] at hbx; done) | exact h | exact hw | exact r | (cases e; done) | (cases e2; done) | rfl | (simp at e; done) | (simp at h; done)
  | fd xc => first | exact h.elim | exact hw.elim | exact hr.elim | exact rr.elim | exact rx.elim | exact h3.elim | exact c3.elim | exact c.elim | exact hab.elim | exact q.elim | (simp [peek] at hp; done) | (simp [frz] at e; done) | (simp [frz] at e1; done) | (simp [argOf] at ax; done) | (simp [argOf] at e1; done) | (simp [isBx] at hab; done) | (simp [argOf] at h; done) | (simp [peek] at e; done) | (simp [isBx] at hbx; done) | exact h | exact hw | exact r | (cases e; done) | (cases e2; done) | rfl | (simp at e; done) | (simp at h; done)
  | d z => simp only [frz, Option.some.injEq, Prod.mk.injEq] at e; rw [e.2]
  | own z => simp only [frz, Option.some.injEq, Prod.mk.injEq] at e; rw [e.2]
  | box => simp [frz] at e
  | mu c q => simp [frz] at e
  | slot i =>
    simp only [frz] at e
    split at e
    · simp only [Option.some.injEq, Prod.mk.injEq] at e; rw [e.2]
    · rename_i xs ei
      simp only [Option.some.injEq, Prod.mk.injEq] at e
      obtain ⟨_, e2⟩ := e
      subst e2
      cases y with
      | exc xa xb => first | exact h.elim | exact hw.elim | exact hr.elim | exact rr.elim | exact rx.elim | exact h3.elim | exact c3.elim | exact c.elim | exact hab.elim | exact q.elim | (simp [peek] at hp; done) | (simp [frz] at e; done) | (simp [frz] at e1; done) | (simp [argOf] at ax; done) | (simp [argOf] at e1; done) | (simp [isBx] at hab; done) | (simp [argOf] at h; done) | (simp [peek] at e; done) | (simp [isBx] at hbx; done) | exact h | exact hw | exact r | (cases e; done) | (cases e2; done) | rfl | (simp at e; done) | (simp at h; done)
      | fd xc => first | exact h.elim | exact hw.elim | exact hr.elim | exact rr.elim | exact rx.elim | exact h3.elim | exact c3.elim | exact c.elim | exact hab.elim | exact q.elim | (simp [peek] at hp; done) | (simp [frz] at e; done) | (simp [frz] at e1; done) | (simp [argOf] at ax; done) | (simp [argOf] at e1; done) | (simp [isBx] at hab; done) | (simp [argOf] at h; done) | (simp [peek] at e; done) | (simp [isBx] at hbx; done) | exact h | exact hw | exact r | (cases e; done) | (cases e2; done) | rfl | (simp at e; done) | (simp at h; done)
      | d z => rfl
      | own z => rfl
      | box => rfl
      | mu c q => rfl
      | slot j =>
        simp only [argOf]
        by_cases ej : i = j
        · subst ej
          rw [List.getElem?_set_self (List.getElem?_eq_some_iff.mp ei).1, ei]
        · rw [List.getElem?_set_ne ej]
    · simp at e
theorem frz_arg {x : DV} (e : frz ds x = some (d, ds')) : argOf ds x = some (.d d) := by
  cases x with
  | exc xa xb => first | exact h.elim | exact hw.elim | exact hr.elim | exact rr.elim | exact rx.elim | exact h3.elim | exact c3.elim | exact c.elim | exact hab.elim | exact q.elim | (simp [peek] at hp; done) | (simp [frz] at e; done) | (simp [frz] at e1; done) | (simp [argOf] at ax; done) | (simp [argOf] at e1; done) | (simp [isBx] at hab; done) | (simp [argOf] at h; done) | (simp [peek] at e; done) | (simp [isBx] at hbx; done) | exact h | exact hw | exact r | (cases e; done) | (cases e2; done) | rfl | (simp at e; done) | (simp at h; done)
  | fd xc => first | exact h.elim | exact hw.elim | exact hr.elim | exact rr.elim | exact rx.elim | exact h3.elim | exact c3.elim | exact c.elim | exact hab.elim | exact q.elim | (simp [peek] at hp; done) | (simp [frz] at e; done) | (simp [frz] at e1; done) | (simp [argOf] at ax; done) | (simp [argOf] at e1; done) | (simp [isBx] at hab; done) | (simp [argOf] at h; done) | (simp [peek] at e; done) | (simp [isBx] at hbx; done) | exact h | exact hw | exact r | (cases e; done) | (cases e2; done) | rfl | (simp at e; done) | (simp at h; done)
  | d z => simp only [frz, Option.some.injEq, Prod.mk.injEq] at e; simp [argOf, e.1]
  | own z => simp only [frz, Option.some.injEq, Prod.mk.injEq] at e; simp [argOf, e.1]
  | box => simp [frz] at e
  | mu c q => simp [frz] at e
  | slot i =>
    simp only [frz] at e
    split at e
    · rename_i z ei
      simp only [Option.some.injEq, Prod.mk.injEq] at e; simp only [argOf, ei, e.1]
    · rename_i xs ei
      simp only [Option.some.injEq, Prod.mk.injEq] at e
      simp only [argOf, ei, e.1]
    · simp at e
theorem frz_none {x a : DV} (e : frz ds x = none) (h : argOf ds x = some a) : (a = .box ∧ ∃ i, x = .slot i ∧ ds.sl[i]? = some (some .box)) ∨ ∃ c, a = .fd c := by
  cases x with
  | exc xa xb => first | exact h.elim | exact hw.elim | exact hr.elim | exact rr.elim | exact rx.elim | exact h3.elim | exact c3.elim | exact c.elim | exact hab.elim | exact q.elim | (simp [peek] at hp; done) | (simp [frz] at e; done) | (simp [frz] at e1; done) | (simp [argOf] at ax; done) | (simp [argOf] at e1; done) | (simp [isBx] at hab; done) | (simp [argOf] at h; done) | (simp [peek] at e; done) | (simp [isBx] at hbx; done) | exact h | exact hw | exact r | (cases e; done) | (cases e2; done) | rfl | (simp at e; done) | (simp at h; done)
  | fd xc => simp only [argOf, Option.some.injEq] at h; exact .inr ⟨xc, h.symm⟩
  | d z => simp [frz] at e
  | own z => simp [frz] at e
  | box => simp [argOf] at h
  | mu c q => simp [argOf] at h
  | slot i =>
    simp only [frz] at e
    simp only [argOf] at h
    split at e
    · simp at e
    · simp at e
    · rename_i h1 h2
      split at h
      · rename_i z ei; exact absurd ei (h1 z)
      · rename_i z ei; exact absurd ei (h2 z)
      · rename_i ei
        simp only [Option.some.injEq] at h
        exact .inl ⟨h.symm, i, rfl, ei⟩
      · rename_i c ei
        simp only [Option.some.injEq] at h
        exact .inr ⟨c, h.symm⟩
      · simp at h
theorem rpv_fd {c : Mu} (R : Rep K F H O' σ ds) (h : RpV K F H O O' σ ds v dv) (e : argOf ds dv = some (.fd c)) : FdS K H O' v c := by
  cases dv with
  | exc xa xb => simp [argOf] at e
  | fd xc => simp only [argOf, Option.some.injEq, DV.fd.injEq] at e; rw [← e]; exact h
  | d z => simp [argOf] at e
  | own z => simp [argOf] at e
  | box => simp [argOf] at e
  | mu c q => simp [argOf] at e
  | slot i =>
    obtain ⟨q1, _⟩ := h
    simp only [argOf] at e
    split at e
    · simp at e
    · simp at e
    · simp at e
    · rename_i c' ei
      simp only [Option.some.injEq, DV.fd.injEq] at e
      obtain ⟨w, ew, r⟩ := R.sl i _ ei
      rw [q1] at ew
      cases ew
      rw [← e]; exact r
    · simp at e
def ArV (K : Fg) (H : Hp) (O : List Addr) (ds : DS) (v : V) (dv : DV) : Prop := (∀ x, argOf ds dv = some (.d x) → Rp K H O v x) ∧ ∀ c, argOf ds dv = some (.fd c) → FdS K H O v c
theorem frzA_ok (R0 : Rep K F H0 O σ ds0) : ∀ {dvs : List DV} {vs : List V} {O' : List Addr} {ds : DS}, Step σ H0 O ds0 H O' ds → Rep K F H O' σ ds → RpVs K F H O O' σ ds vs dvs →
    ∃ O'', Step σ H0 O ds0 H O'' (frzA ds dvs) ∧ Rep K F H O'' σ (frzA ds dvs) ∧ (∀ p ∈ O'', p ∈ O') ∧ (frzA ds dvs).n = ds.n ∧ Paired (ArV K H O'' ds) vs dvs
  | [], vs, O', ds, s, R, h => by
    have h' := h.1
    cases h'
    exact ⟨O', s, R, fun _ h => h, rfl, .nil⟩
  | dv :: dvs, vs, O', ds, s, R, h => by
    obtain ⟨hp, ha⟩ := h
    cases hp with
    | cons h1 h2 =>
      rename_i v vr
      have ha' : ∀ (i j : Nat) (v w : V) (x y : DV), i ≠ j → vr[i]? = some v → vr[j]? = some w → dvs[i]? = some x → dvs[j]? = some y → Apt v x w y :=
        fun i j v w x y hij a b c d => ha (i + 1) (j + 1) v w x y (fun z => hij (by omega)) (by simpa using a) (by simpa using b) (by simpa using c) (by simpa using d)
      cases e1 : frz ds dv with
      | none =>
        obtain ⟨O2, s2, R2, sub2, hn, pr⟩ := frzA_ok R0 s R ⟨h2, ha'⟩
        simp only [frzA, e1]
        refine ⟨O2, s2, R2, sub2, hn, .cons ⟨fun x hx => ?_, fun c hc => FdS.less R.lo sub2 (rpv_fd R h1 hc)⟩ pr⟩
        rcases frz_none e1 hx with ⟨z, _⟩ | ⟨c, z⟩ <;> cases z
      | some q =>
        obtain ⟨d, ds1⟩ := q
        obtain ⟨O1, s1, R1, r1, sub1, oth⟩ := frz_ok R0 s R h1 e1
        have hvs : RpVs K F H O O1 σ ds1 vr dvs := by
          refine ⟨?_, ha'⟩
          have aux : ∀ {ws : List V} {dws : List DV}, Paired (RpV K F H O O' σ ds) ws dws → (∀ (k : Nat) (w : V) (dw : DV), ws[k]? = some w → dws[k]? = some dw → Apt v dv w dw) → Paired (RpV K F H O O1 σ ds1) ws dws := by
            intro ws dws hh
            induction hh with
            | nil => intro _; exact .nil
            | cons q _ ih =>
              intro hn
              exact .cons (oth _ _ q (hn 0 _ _ rfl rfl)) (ih fun k w dw a b => hn (k + 1) w dw (by simpa using a) (by simpa using b))
          exact aux h2 fun k w dw a b => ha 0 (k + 1) v w dv dw (by omega) rfl (by simpa using a) rfl (by simpa using b)
        obtain ⟨O2, s2, R2, sub2, hn, pr⟩ := frzA_ok R0 s1 R1 hvs
        simp only [frzA, e1]
        have hn1 : ds1.n = ds.n := by
          cases dv with
          | exc xa xb => first | exact h.elim | exact hw.elim | exact hr.elim | exact rr.elim | exact rx.elim | exact h3.elim | exact c3.elim | exact c.elim | exact hab.elim | exact q.elim | (simp [peek] at hp; done) | (simp [frz] at e; done) | (simp [frz] at e1; done) | (simp [argOf] at ax; done) | (simp [argOf] at e1; done) | (simp [isBx] at hab; done) | (simp [argOf] at h; done) | (simp [peek] at e; done) | (simp [isBx] at hbx; done) | exact h | exact hw | exact r | (cases e; done) | (cases e2; done) | rfl | (simp at e; done) | (simp at h; done)
          | fd xc => first | exact h.elim | exact hw.elim | exact hr.elim | exact rr.elim | exact rx.elim | exact h3.elim | exact c3.elim | exact c.elim | exact hab.elim | exact q.elim | (simp [peek] at hp; done) | (simp [frz] at e; done) | (simp [frz] at e1; done) | (simp [argOf] at ax; done) | (simp [argOf] at e1; done) | (simp [isBx] at hab; done) | (simp [argOf] at h; done) | (simp [peek] at e; done) | (simp [isBx] at hbx; done) | exact h | exact hw | exact r | (cases e; done) | (cases e2; done) | rfl | (simp at e; done) | (simp at h; done)
          | d z => simp only [frz, Option.some.injEq, Prod.mk.injEq] at e1; rw [e1.2]
          | own z => simp only [frz, Option.some.injEq, Prod.mk.injEq] at e1; rw [e1.2]
          | box => simp [frz] at e1
          | mu c q => simp [frz] at e1
          | slot i =>
            simp only [frz] at e1
            split at e1
            · simp only [Option.some.injEq, Prod.mk.injEq] at e1; rw [e1.2]
            · simp only [Option.some.injEq, Prod.mk.injEq] at e1; rw [← e1.2]
            · simp at e1
        refine ⟨O2, s2, R2, fun p hp => sub1 p (sub2 p hp), hn.trans hn1, .cons ⟨fun x hx => ?_, fun c hc => ?_⟩ ?_⟩
        · rw [frz_arg e1] at hx
          cases hx
          exact Rp.less R1.lo sub2 r1
        · rw [frz_arg e1] at hc
          cases hc
        · have aux : ∀ {ws : List V} {dws : List DV}, Paired (ArV K H O2 ds1) ws dws → Paired (ArV K H O2 ds) ws dws := by
            intro ws dws hh
            induction hh with
            | nil => exact .nil
            | cons q _ ih => exact .cons ⟨fun x hx => q.1 x (by rw [argOf_frz e1]; exact hx), fun c hc => q.2 c (by rw [argOf_frz e1]; exact hc)⟩ ih
          exact aux pr
theorem Rep.called (R : Rep K F H O σ ds) {B : List Addr} {n' : Nat} (k : Keep B H H') (hB : ∀ b ∈ B, BoxAt H' b n' ∧ ∃ i, BoxS σ ds i b) (hn : B = [] → n' = ds.n) (O3 : List Addr) (g : Grow O O3 H) (sb : ∀ p ∈ O, p ∈ O3) (l3 : ∀ p ∈ O3, p ∉ O → ∃ o, H' p = some o ∧ prt o = true) :
    Rep K F H' O3 σ ⟨ds.sl, n'⟩ ∧ Step σ H O ds H' O3 ⟨ds.sl, n'⟩ := by
  have boxm : ∀ b ∈ B, ∃ i, MutAt σ ds i b := fun b hb => by
    obtain ⟨_, i, h1, h2⟩ := hB b hb
    exact ⟨i, mutAt h1 h2 trivial⟩
  have bO : ∀ b ∈ B, b ∈ O := fun b hb => by obtain ⟨i, hi⟩ := boxm b hb; exact R.mutO hi
  have kO : Keep O H H' := fun a o h n => k a o h fun z => n (bO a z)
  have dm : ∀ a, H a ≠ none → H' a ≠ none := fun a h => by
    by_cases hb : a ∈ B
    · obtain ⟨xs, e⟩ := (hB a hb).1.some
      rw [e]; simp
    · cases e : H a with
      | none => exact absurd e h
      | some o => rw [k a o e hb]; simp
  refine ⟨⟨fun p hp => ?_, fun p hp => sb p (R.sub p hp), fun a o h n => ?_, fun i dv hi => ?_, R.mu, R.new, R.newO, fun p hp => ?_, R.bu, R.b1, R.fo, R.bo, R.len, R.nm⟩, ⟨g, fun p hp _ => sb p hp, fun a o h n => k a o h fun z => ?_, dm, fun _ dv h => ⟨dv, h⟩, fun _ _ h => h, fun _ _ h => h⟩⟩
  · by_cases hb : p ∈ B
    · obtain ⟨xs, e⟩ := (hB p hb).1.some
      exact ⟨_, e, rfl⟩
    · by_cases ho : p ∈ O
      · obtain ⟨xs, e, q⟩ := R.lo p ho
        exact ⟨xs, k p _ e hb, q⟩
      · exact l3 p hp ho
  · by_cases hb : a ∈ B
    · obtain ⟨i, hi⟩ := boxm a hb
      rcases R.new i a hi with z | z
      · rw [h] at z; cases z
      · exact absurd z n
    · exact k a o (R.ext a o h n) hb
  · obtain ⟨w, ew, r⟩ := R.sl i dv hi
    refine ⟨w, ew, ?_⟩
    cases dv with
    | exc xa xb => exact ExS.mv R.lo kO g r
    | fd xc => exact FdS.mv R.lo kO g r
    | d x => exact Rp.mv R.lo kO g r
    | own ys =>
      obtain ⟨q, us, e3, a1, a2, a3⟩ := r
      subst e3
      refine ⟨q, us, rfl, sb q a1, k q _ a2 fun z => ?_, RpL.mv R.lo kO g a3⟩
      obtain ⟨_, j, h1, h2⟩ := hB q z
      have := R.mu i j q (mutAt (ew) hi trivial) (mutAt (h1) h2 trivial)
      subst this
      have h2' : ds.sl[i]? = some (some .box) := h2
      rw [hi] at h2'; cases h2'
    | box =>
      obtain ⟨q, e3, a1, a2⟩ := r
      subst e3
      refine ⟨q, rfl, sb q a1, ?_⟩
      by_cases hb : B = []
      · have e := hn hb
        subst hb
        obtain ⟨x, y, c, h1, h2⟩ := a2
        exact ⟨x, y, c, k q _ h1 (by simp), by rw [e]; exact h2⟩
      · obtain ⟨b, l, e⟩ := List.exists_cons_of_ne_nil hb
        have hbm : b ∈ B := by rw [e]; simp
        obtain ⟨h0, j, h1, h2⟩ := hB b hbm
        have := R.b1 i j q b ⟨ew, hi⟩ ⟨h1, h2⟩
        subst this
        rw [ew] at h1; cases h1
        exact h0
    | mu c q =>
      obtain ⟨e3, a1, a2⟩ := r
      subst e3
      refine ⟨rfl, fun u hu => sb u (a1 u hu), MuAt.mv R.lo kO g (fun u hu o ho => k u o ho fun z => ?_) a2⟩
      obtain ⟨_, j, h1, h2⟩ := hB u z
      have := R.mu i j u (mutAtM ew hi hu) (mutAt (h1) h2 trivial)
      subst this
      have h2' : ds.sl[i]? = some (some .box) := h2
      rw [hi] at h2'; cases h2'
    | slot j => exact r
  · by_cases hb : B = []
    · have e := hn hb
      subst hb
      rcases R.bx p hp with h | ⟨x, y, c, h1, h2⟩
      · exact .inl h
      · exact .inr ⟨x, y, c, k p _ h1 (by simp), by rw [e]; exact h2⟩
    · obtain ⟨b, l, e⟩ := List.exists_cons_of_ne_nil hb
      have hbm : b ∈ B := by rw [e]; simp
      obtain ⟨h0, j, h1⟩ := hB b hbm
      rcases R.bu j b h1 p hp with z | z
      · rw [z]; exact .inr h0
      · exact .inl z
  · obtain ⟨i, hi⟩ := boxm a z
    exact n i hi
end
section
variable {K : Fg} {F : Fx} {H H1 : Hp} {O O1 : List Addr} {σ : St} {ds ds1 : DS}
theorem argsOf_get : ∀ {xs args : List DV} {i : Nat} {a : DV}, argsOf ds xs = some args → args[i]? = some a → ∃ x, xs[i]? = some x ∧ argOf ds x = some a
  | [], _, i, a, e, h => by simp only [argsOf, Option.some.injEq] at e; subst e; simp at h
  | x :: xs, args, i, a, e, h => by
    simp only [argsOf] at e
    cases e1 : argOf ds x with
    | none => rw [e1] at e; simp at e
    | some b =>
      cases e2 : argsOf ds xs with
      | none => rw [e1, e2] at e; simp at e
      | some r =>
        rw [e1, e2] at e
        simp only [Option.some.injEq] at e
        subst e
        cases i with
        | zero => simp at h; subst h; exact ⟨x, rfl, e1⟩
        | succ i =>
          obtain ⟨y, h1, h2⟩ := argsOf_get e2 (by simpa using h)
          exact ⟨y, by simpa using h1, h2⟩
theorem args_paired {B O'' : List Addr} (hb : ∀ (v : V) (i : Nat), σ[i]? = some (some v) → ds.sl[i]? = some (some .box) → ∃ b, B = [b] ∧ v = .ref b) (hp : ∀ {vs : List V} {xs : List DV}, Paired (RpV K F H O O1 σ ds) vs xs → Paired (RpV K F H O O1 σ ds) vs xs) :
    ∀ {vs : List V} {xs args : List DV}, Paired (RpV K F H O O1 σ ds) vs xs → Paired (ArV K H O'' ds) vs xs → argsOf ds xs = some args → Paired (ArgD K H B O'') vs args
  | _, _, _, .nil, .nil, e => by simp only [argsOf, Option.some.injEq] at e; subst e; exact .nil
  | _, _, _, .cons (l₁ := vs) (l₂ := xs) (a := v) (b := x) h r, .cons h' r', e => by
    simp only [argsOf] at e
    cases e1 : argOf ds x with
    | none => rw [e1] at e; simp at e
    | some b =>
      cases e2 : argsOf ds xs with
      | none => rw [e1, e2] at e; simp at e
      | some rr =>
        rw [e1, e2] at e
        simp only [Option.some.injEq] at e
        subst e
        refine .cons ?_ (args_paired hb hp r r' e2)
        cases b with
        | exc xa xb =>
          cases x with
          | exc xa xb => simp [argOf] at e1
          | fd xc => simp [argOf] at e1
          | d z => simp [argOf] at e1
          | own z => simp [argOf] at e1
          | box => simp [argOf] at e1
          | mu c q => simp [argOf] at e1
          | slot i => simp only [argOf] at e1; split at e1 <;> simp at e1
        | fd xc => exact h'.2 xc e1
        | d y => exact h'.1 y e1
        | box =>
          cases x with
          | exc xa xb => first | exact h.elim | exact hw.elim | exact hr.elim | exact rr.elim | exact rx.elim | exact h3.elim | exact c3.elim | exact c.elim | exact hab.elim | exact q.elim | (simp [peek] at hp; done) | (simp [frz] at e; done) | (simp [frz] at e1; done) | (simp [argOf] at ax; done) | (simp [argOf] at e1; done) | (simp [isBx] at hab; done) | (simp [argOf] at h; done) | (simp [peek] at e; done) | (simp [isBx] at hbx; done) | exact h | exact hw | exact r | (cases e; done) | (cases e2; done) | rfl | (simp at e; done) | (simp at h; done)
          | fd xc => first | exact h.elim | exact hw.elim | exact hr.elim | exact rr.elim | exact rx.elim | exact h3.elim | exact c3.elim | exact c.elim | exact hab.elim | exact q.elim | (simp [peek] at hp; done) | (simp [frz] at e; done) | (simp [frz] at e1; done) | (simp [argOf] at ax; done) | (simp [argOf] at e1; done) | (simp [isBx] at hab; done) | (simp [argOf] at h; done) | (simp [peek] at e; done) | (simp [isBx] at hbx; done) | exact h | exact hw | exact r | (cases e; done) | (cases e2; done) | rfl | (simp at e; done) | (simp at h; done)
          | d z => simp [argOf] at e1
          | own z => simp [argOf] at e1
          | box => simp [argOf] at e1
          | mu c q => simp [argOf] at e1
          | slot i =>
            obtain ⟨q1, _⟩ := h
            simp only [argOf] at e1
            split at e1
            · simp at e1
            · simp at e1
            · rename_i ei; exact hb v i q1 ei
            · simp at e1
            · simp at e1
        | own z =>
          cases x with
          | exc xa xb => first | exact h.elim | exact hw.elim | exact hr.elim | exact rr.elim | exact rx.elim | exact h3.elim | exact c3.elim | exact c.elim | exact hab.elim | exact q.elim | (simp [peek] at hp; done) | (simp [frz] at e; done) | (simp [frz] at e1; done) | (simp [argOf] at ax; done) | (simp [argOf] at e1; done) | (simp [isBx] at hab; done) | (simp [argOf] at h; done) | (simp [peek] at e; done) | (simp [isBx] at hbx; done) | exact h | exact hw | exact r | (cases e; done) | (cases e2; done) | rfl | (simp at e; done) | (simp at h; done)
          | fd xc => first | exact h.elim | exact hw.elim | exact hr.elim | exact rr.elim | exact rx.elim | exact h3.elim | exact c3.elim | exact c.elim | exact hab.elim | exact q.elim | (simp [peek] at hp; done) | (simp [frz] at e; done) | (simp [frz] at e1; done) | (simp [argOf] at ax; done) | (simp [argOf] at e1; done) | (simp [isBx] at hab; done) | (simp [argOf] at h; done) | (simp [peek] at e; done) | (simp [isBx] at hbx; done) | exact h | exact hw | exact r | (cases e; done) | (cases e2; done) | rfl | (simp at e; done) | (simp at h; done)
          | d z => simp [argOf] at e1
          | own z => simp [argOf] at e1
          | box => simp [argOf] at e1
          | mu c q => simp [argOf] at e1
          | slot i => simp only [argOf] at e1; split at e1 <;> simp at e1
        | mu cz qz =>
          cases x with
          | exc xa xb => first | exact h.elim | exact hw.elim | exact hr.elim | exact rr.elim | exact rx.elim | exact h3.elim | exact c3.elim | exact c.elim | exact hab.elim | exact q.elim | (simp [peek] at hp; done) | (simp [frz] at e; done) | (simp [frz] at e1; done) | (simp [argOf] at ax; done) | (simp [argOf] at e1; done) | (simp [isBx] at hab; done) | (simp [argOf] at h; done) | (simp [peek] at e; done) | (simp [isBx] at hbx; done) | exact h | exact hw | exact r | (cases e; done) | (cases e2; done) | rfl | (simp at e; done) | (simp at h; done)
          | fd xc => first | exact h.elim | exact hw.elim | exact hr.elim | exact rr.elim | exact rx.elim | exact h3.elim | exact c3.elim | exact c.elim | exact hab.elim | exact q.elim | (simp [peek] at hp; done) | (simp [frz] at e; done) | (simp [frz] at e1; done) | (simp [argOf] at ax; done) | (simp [argOf] at e1; done) | (simp [isBx] at hab; done) | (simp [argOf] at h; done) | (simp [peek] at e; done) | (simp [isBx] at hbx; done) | exact h | exact hw | exact r | (cases e; done) | (cases e2; done) | rfl | (simp at e; done) | (simp at h; done)
          | d z => simp [argOf] at e1
          | own z => simp [argOf] at e1
          | box => simp [argOf] at e1
          | mu c q => simp [argOf] at e1
          | slot i => simp only [argOf] at e1; split at e1 <;> simp at e1
        | slot z =>
          cases x with
          | exc xa xb => first | exact h.elim | exact hw.elim | exact hr.elim | exact rr.elim | exact rx.elim | exact h3.elim | exact c3.elim | exact c.elim | exact hab.elim | exact q.elim | (simp [peek] at hp; done) | (simp [frz] at e; done) | (simp [frz] at e1; done) | (simp [argOf] at ax; done) | (simp [argOf] at e1; done) | (simp [isBx] at hab; done) | (simp [argOf] at h; done) | (simp [peek] at e; done) | (simp [isBx] at hbx; done) | exact h | exact hw | exact r | (cases e; done) | (cases e2; done) | rfl | (simp at e; done) | (simp at h; done)
          | fd xc => first | exact h.elim | exact hw.elim | exact hr.elim | exact rr.elim | exact rx.elim | exact h3.elim | exact c3.elim | exact c.elim | exact hab.elim | exact q.elim | (simp [peek] at hp; done) | (simp [frz] at e; done) | (simp [frz] at e1; done) | (simp [argOf] at ax; done) | (simp [argOf] at e1; done) | (simp [isBx] at hab; done) | (simp [argOf] at h; done) | (simp [peek] at e; done) | (simp [isBx] at hbx; done) | exact h | exact hw | exact r | (cases e; done) | (cases e2; done) | rfl | (simp at e; done) | (simp at h; done)
          | d z => simp [argOf] at e1
          | own z => simp [argOf] at e1
          | box => simp [argOf] at e1
          | mu c q => simp [argOf] at e1
          | slot i => simp only [argOf] at e1; split at e1 <;> simp at e1
theorem keepB (i : Nat) : ∀ (ys : List DV) (d0 : DS), d0.sl[i]? = some (some .box) → (frzA d0 ys).sl[i]? = some (some .box) := by
  intro ys
  induction ys with
  | nil => intro d0 h; exact h
  | cons y ys ih =>
    intro d0 h
    simp only [frzA]
    cases e : frz d0 y with
    | none => exact ih d0 h
    | some q =>
      obtain ⟨d, d1⟩ := q
      refine ih d1 ?_
      cases y with
      | exc xa xb => first | exact h.elim | exact hw.elim | exact hr.elim | exact rr.elim | exact rx.elim | exact h3.elim | exact c3.elim | exact c.elim | exact hab.elim | exact q.elim | (simp [peek] at hp; done) | (simp [frz] at e; done) | (simp [frz] at e1; done) | (simp [argOf] at ax; done) | (simp [argOf] at e1; done) | (simp [isBx] at hab; done) | (simp [argOf] at h; done) | (simp [peek] at e; done) | (simp [isBx] at hbx; done) | exact h | exact hw | exact r | (cases e; done) | (cases e2; done) | rfl | (simp at e; done) | (simp at h; done)
      | fd xc => first | exact h.elim | exact hw.elim | exact hr.elim | exact rr.elim | exact rx.elim | exact h3.elim | exact c3.elim | exact c.elim | exact hab.elim | exact q.elim | (simp [peek] at hp; done) | (simp [frz] at e; done) | (simp [frz] at e1; done) | (simp [argOf] at ax; done) | (simp [argOf] at e1; done) | (simp [isBx] at hab; done) | (simp [argOf] at h; done) | (simp [peek] at e; done) | (simp [isBx] at hbx; done) | exact h | exact hw | exact r | (cases e; done) | (cases e2; done) | rfl | (simp at e; done) | (simp at h; done)
      | d z => simp only [frz, Option.some.injEq, Prod.mk.injEq] at e; rw [← e.2]; exact h
      | own z => simp only [frz, Option.some.injEq, Prod.mk.injEq] at e; rw [← e.2]; exact h
      | box => simp [frz] at e
      | mu c q => simp [frz] at e
      | slot j =>
        simp only [frz] at e
        split at e
        · simp only [Option.some.injEq, Prod.mk.injEq] at e; rw [← e.2]; exact h
        · rename_i ej
          simp only [Option.some.injEq, Prod.mk.injEq] at e
          rw [← e.2]
          show (d0.sl.set j _)[i]? = _
          rw [List.getElem?_set_ne (fun z => by subst z; rw [h] at ej; cases ej)]
          exact h
        · simp at e
structure Perm' (K : Fg) (gV : List V → List V) (m : List DV → List DV) : Prop where
  pr : ∀ {H : Hp} {B O : List Addr} {vs : List V} {args : List DV}, Paired (ArgD K H B O) vs args → Paired (ArgD K H B O) (gV vs) (m args)
theorem call_coreX {mg : Str → Option Value} {dsp : DSp} {m : List DV → List DV} {gV : List V → List V} {vs : List V} {xs args : List DV} {Q : VK} {Qa : DV → DS → Prop} {E : XK} {Ea : Str → Option (Str × D) → DS → Prop} (hm : Perm' K gV m) (R : Rep K F H O σ ds) (s1 : Step σ H O ds H1 O1 ds1) (R1 : Rep K F H1 O1 σ ds1)
    (rx : RpVs K F H1 O O1 σ ds1 vs xs) (ea : argsOf ds1 xs = some args) (hd : sameB args (m args) (onceB (m args) (dsp (m args) ds1.n (fun r n' => Qa r ⟨aftS ds1 xs r, aftN (m args) ds1.n n'⟩) fun nm fo n' => Ea nm fo ⟨(frzA ds1 xs).sl, aftN (m args) ds1.n n'⟩)))
    (hq : ∀ dv ds' v H' O', Step σ H O ds H' O' ds' → Rep K F H' O' σ ds' → RpV K F H' O O' σ ds' v dv → Qa dv ds' → Q v H')
    (hE : ∀ nm fo ds' cv od H' O', Step σ H O ds H' O' ds' → Rep K F H' O' σ ds' → XcAt mg K H' O' nm fo cv od → Ea nm fo ds' → E cv od H') : spD K mg dsp (gV vs) H1 Q E := by
  obtain ⟨hbm, hd⟩ := sameB_ok hd
  obtain ⟨once, hd⟩ := onceB_ok hd
  obtain ⟨O2, s2, R2, sub2, n2, pr⟩ := frzA_ok R s1 R1 rx
  have hB : ∃ B : List Addr, (∀ (v : V) (i : Nat), σ[i]? = some (some v) → ds1.sl[i]? = some (some .box) → args.any isBx = true → ∃ b, B = [b] ∧ v = .ref b) ∧ (∀ b ∈ B, ∃ i, BoxS σ ds1 i b) ∧ (B = [] ↔ args.any isBx = false) := by
    cases hb : args.any isBx with
    | false => exact ⟨[], fun _ _ _ _ h => by simp at h, fun b hb => by simp at hb, by simp⟩
    | true =>
      obtain ⟨a, ha, hab⟩ := List.any_eq_true.mp hb
      cases a with
      | exc xa xb => first | exact h.elim | exact hw.elim | exact hr.elim | exact rr.elim | exact rx.elim | exact h3.elim | exact c3.elim | exact c.elim | exact hab.elim | exact q.elim | (simp [peek] at hp; done) | (simp [frz] at e; done) | (simp [frz] at e1; done) | (simp [argOf] at ax; done) | (simp [argOf] at e1; done) | (simp [isBx] at hab; done) | (simp [argOf] at h; done) | (simp [peek] at e; done) | (simp [isBx] at hbx; done) | exact h | exact hw | exact r | (cases e; done) | (cases e2; done) | rfl | (simp at e; done) | (simp at h; done)
      | fd xc => first | exact h.elim | exact hw.elim | exact hr.elim | exact rr.elim | exact rx.elim | exact h3.elim | exact c3.elim | exact c.elim | exact hab.elim | exact q.elim | (simp [peek] at hp; done) | (simp [frz] at e; done) | (simp [frz] at e1; done) | (simp [argOf] at ax; done) | (simp [argOf] at e1; done) | (simp [isBx] at hab; done) | (simp [argOf] at h; done) | (simp [peek] at e; done) | (simp [isBx] at hbx; done) | exact h | exact hw | exact r | (cases e; done) | (cases e2; done) | rfl | (simp at e; done) | (simp at h; done)
      | d x => simp [isBx] at hab
      | own x => simp [isBx] at hab
      | slot x => simp [isBx] at hab
      | mu c q => simp [isBx] at hab
      | box =>
        obtain ⟨k, hk⟩ := List.getElem?_of_mem ha
        obtain ⟨x, hx, ax⟩ := argsOf_get ea hk
        cases x with
        | exc xa xb => first | exact h.elim | exact hw.elim | exact hr.elim | exact rr.elim | exact rx.elim | exact h3.elim | exact c3.elim | exact c.elim | exact hab.elim | exact q.elim | (simp [peek] at hp; done) | (simp [frz] at e; done) | (simp [frz] at e1; done) | (simp [argOf] at ax; done) | (simp [argOf] at e1; done) | (simp [isBx] at hab; done) | (simp [argOf] at h; done) | (simp [peek] at e; done) | (simp [isBx] at hbx; done) | exact h | exact hw | exact r | (cases e; done) | (cases e2; done) | rfl | (simp at e; done) | (simp at h; done)
        | fd xc => first | exact h.elim | exact hw.elim | exact hr.elim | exact rr.elim | exact rx.elim | exact h3.elim | exact c3.elim | exact c.elim | exact hab.elim | exact q.elim | (simp [peek] at hp; done) | (simp [frz] at e; done) | (simp [frz] at e1; done) | (simp [argOf] at ax; done) | (simp [argOf] at e1; done) | (simp [isBx] at hab; done) | (simp [argOf] at h; done) | (simp [peek] at e; done) | (simp [isBx] at hbx; done) | exact h | exact hw | exact r | (cases e; done) | (cases e2; done) | rfl | (simp at e; done) | (simp at h; done)
        | d x => simp [argOf] at ax
        | own x => simp [argOf] at ax
        | box => simp [argOf] at ax
        | mu c q => simp [argOf] at ax
        | slot i =>
          have ei : ds1.sl[i]? = some (some .box) := by
            simp only [argOf] at ax
            split at ax
            · simp at ax
            · simp at ax
            · assumption
            · simp at ax
            · simp at ax
          obtain ⟨v, ev, p, e1, e2, e3⟩ := R1.sl i _ ei
          subst e1
          refine ⟨[p], fun v' j h1 h2 _ => ⟨p, rfl, ?_⟩, fun b hb => ⟨i, ?_⟩, by simp⟩
          · obtain ⟨v2, ev2, q, f1, _⟩ := R1.sl j _ h2
            subst f1
            have := R1.b1 i j p q ⟨ev, ei⟩ ⟨ev2, h2⟩
            subst this
            rw [ev] at h1; cases h1; rfl
          · have : b = p := by simpa using hb
            subst this
            exact ⟨ev, ei⟩
  obtain ⟨B, hB1, hB2, hB3⟩ := hB
  have hb1 : ∀ b ∈ B, b ∈ O2 ∧ BoxAt H1 b ds1.n := fun b hb => by
    obtain ⟨i, h1, h2⟩ := hB2 b hb
    obtain ⟨v, ev, p, e1, e2, e3⟩ := R1.sl i _ h2
    rw [h1] at ev; cases ev; cases e1
    refine ⟨?_, e3⟩
    have hx : ∃ k : Nat, xs[k]? = some (.slot i) := by
      have hne : B ≠ [] := fun z => by rw [z] at hb; simp at hb
      have : args.any isBx = true := by
        cases hh : args.any isBx with
        | true => rfl
        | false => exact absurd (hB3.mpr hh) hne
      obtain ⟨a, ha, hab⟩ := List.any_eq_true.mp this
      cases a with
      | exc xa xb => first | exact h.elim | exact hw.elim | exact hr.elim | exact rr.elim | exact rx.elim | exact h3.elim | exact c3.elim | exact c.elim | exact hab.elim | exact q.elim | (simp [peek] at hp; done) | (simp [frz] at e; done) | (simp [frz] at e1; done) | (simp [argOf] at ax; done) | (simp [argOf] at e1; done) | (simp [isBx] at hab; done) | (simp [argOf] at h; done) | (simp [peek] at e; done) | (simp [isBx] at hbx; done) | exact h | exact hw | exact r | (cases e; done) | (cases e2; done) | rfl | (simp at e; done) | (simp at h; done)
      | fd xc => first | exact h.elim | exact hw.elim | exact hr.elim | exact rr.elim | exact rx.elim | exact h3.elim | exact c3.elim | exact c.elim | exact hab.elim | exact q.elim | (simp [peek] at hp; done) | (simp [frz] at e; done) | (simp [frz] at e1; done) | (simp [argOf] at ax; done) | (simp [argOf] at e1; done) | (simp [isBx] at hab; done) | (simp [argOf] at h; done) | (simp [peek] at e; done) | (simp [isBx] at hbx; done) | exact h | exact hw | exact r | (cases e; done) | (cases e2; done) | rfl | (simp at e; done) | (simp at h; done)
      | d x => simp [isBx] at hab
      | own x => simp [isBx] at hab
      | slot x => simp [isBx] at hab
      | mu c q => simp [isBx] at hab
      | box =>
        obtain ⟨k, hk⟩ := List.getElem?_of_mem ha
        obtain ⟨x, hx, ax⟩ := argsOf_get ea hk
        cases x with
        | exc xa xb => first | exact h.elim | exact hw.elim | exact hr.elim | exact rr.elim | exact rx.elim | exact h3.elim | exact c3.elim | exact c.elim | exact hab.elim | exact q.elim | (simp [peek] at hp; done) | (simp [frz] at e; done) | (simp [frz] at e1; done) | (simp [argOf] at ax; done) | (simp [argOf] at e1; done) | (simp [isBx] at hab; done) | (simp [argOf] at h; done) | (simp [peek] at e; done) | (simp [isBx] at hbx; done) | exact h | exact hw | exact r | (cases e; done) | (cases e2; done) | rfl | (simp at e; done) | (simp at h; done)
        | fd xc => first | exact h.elim | exact hw.elim | exact hr.elim | exact rr.elim | exact rx.elim | exact h3.elim | exact c3.elim | exact c.elim | exact hab.elim | exact q.elim | (simp [peek] at hp; done) | (simp [frz] at e; done) | (simp [frz] at e1; done) | (simp [argOf] at ax; done) | (simp [argOf] at e1; done) | (simp [isBx] at hab; done) | (simp [argOf] at h; done) | (simp [peek] at e; done) | (simp [isBx] at hbx; done) | exact h | exact hw | exact r | (cases e; done) | (cases e2; done) | rfl | (simp at e; done) | (simp at h; done)
        | d x => simp [argOf] at ax
        | own x => simp [argOf] at ax
        | box => simp [argOf] at ax
        | mu c q => simp [argOf] at ax
        | slot j =>
          have ej : ds1.sl[j]? = some (some .box) := by
            simp only [argOf] at ax
            split at ax
            · simp at ax
            · simp at ax
            · assumption
            · simp at ax
            · simp at ax
          obtain ⟨v2, ev2, q, f1, _⟩ := R1.sl j _ ej
          subst f1
          have := R1.b1 i j b q ⟨h1, h2⟩ ⟨ev2, ej⟩
          subst this
          exact ⟨k, hx⟩
    have bO : b ∈ O1 := e2
    have h2' := keepB i xs ds1 h2
    exact R2.mutO (i := i) (mutAt h1 h2' trivial)
  refine ⟨B, O2, m args, ds1.n, _, _, R2.lo, hb1, ?_, once, hd, ?_, ?_⟩
  · refine hm.pr ?_
    cases hb : args.any isBx with
    | true => exact args_paired (fun v i h1 h2 => hB1 v i h1 h2 hb) (fun h => h) rx.1 pr ea
    | false =>
      have aux : ∀ {vs : List V} {xs args : List DV}, Paired (RpV K F H1 O O1 σ ds1) vs xs → Paired (ArV K H1 O2 ds1) vs xs → argsOf ds1 xs = some args → args.any isBx = false → Paired (ArgD K H1 B O2) vs args := by
        intro vs xs args h1
        induction h1 generalizing args with
        | nil => intro h2 e _; simp only [argsOf, Option.some.injEq] at e; subst e; exact .nil
        | cons q _ ih =>
          rename_i v x vs' xs' _
          intro h2 e hbx
          cases h2 with
          | cons h2 h3 =>
            simp only [argsOf] at e
            cases e1 : argOf ds1 x with
            | none => rw [e1] at e; simp at e
            | some b =>
              cases e2 : argsOf ds1 xs' with
              | none => rw [e1, e2] at e; simp at e
              | some rr =>
                rw [e1, e2] at e
                simp only [Option.some.injEq] at e
                subst e
                simp only [List.any_cons, Bool.or_eq_false_iff] at hbx
                refine .cons ?_ (ih h3 e2 hbx.2)
                cases b with
                | exc xa xb =>
                  cases x with
                  | exc xa xb => simp [argOf] at e1
                  | fd xc => simp [argOf] at e1
                  | d z => simp [argOf] at e1
                  | own z => simp [argOf] at e1
                  | box => simp [argOf] at e1
                  | mu c q => simp [argOf] at e1
                  | slot i => simp only [argOf] at e1; split at e1 <;> simp at e1
                | fd xc => exact h2.2 xc e1
                | d y => exact h2.1 y e1
                | box => simp [isBx] at hbx
                | own z =>
                  cases x with
                  | exc xa xb => first | exact h.elim | exact hw.elim | exact hr.elim | exact rr.elim | exact rx.elim | exact h3.elim | exact c3.elim | exact c.elim | exact hab.elim | exact q.elim | (simp [peek] at hp; done) | (simp [frz] at e; done) | (simp [frz] at e1; done) | (simp [argOf] at ax; done) | (simp [argOf] at e1; done) | (simp [isBx] at hab; done) | (simp [argOf] at h; done) | (simp [peek] at e; done) | (simp [isBx] at hbx; done) | exact h | exact hw | exact r | (cases e; done) | (cases e2; done) | rfl | (simp at e; done) | (simp at h; done)
                  | fd xc => first | exact h.elim | exact hw.elim | exact hr.elim | exact rr.elim | exact rx.elim | exact h3.elim | exact c3.elim | exact c.elim | exact hab.elim | exact q.elim | (simp [peek] at hp; done) | (simp [frz] at e; done) | (simp [frz] at e1; done) | (simp [argOf] at ax; done) | (simp [argOf] at e1; done) | (simp [isBx] at hab; done) | (simp [argOf] at h; done) | (simp [peek] at e; done) | (simp [isBx] at hbx; done) | exact h | exact hw | exact r | (cases e; done) | (cases e2; done) | rfl | (simp at e; done) | (simp at h; done)
                  | d z => simp [argOf] at e1
                  | own z => simp [argOf] at e1
                  | box => simp [argOf] at e1
                  | mu c q => simp [argOf] at e1
                  | slot i => simp only [argOf] at e1; split at e1 <;> simp at e1
                | mu cz qz =>
                  cases x with
                  | exc xa xb => first | exact h.elim | exact hw.elim | exact hr.elim | exact rr.elim | exact rx.elim | exact h3.elim | exact c3.elim | exact c.elim | exact hab.elim | exact q.elim | (simp [peek] at hp; done) | (simp [frz] at e; done) | (simp [frz] at e1; done) | (simp [argOf] at ax; done) | (simp [argOf] at e1; done) | (simp [isBx] at hab; done) | (simp [argOf] at h; done) | (simp [peek] at e; done) | (simp [isBx] at hbx; done) | exact h | exact hw | exact r | (cases e; done) | (cases e2; done) | rfl | (simp at e; done) | (simp at h; done)
                  | fd xc => first | exact h.elim | exact hw.elim | exact hr.elim | exact rr.elim | exact rx.elim | exact h3.elim | exact c3.elim | exact c.elim | exact hab.elim | exact q.elim | (simp [peek] at hp; done) | (simp [frz] at e; done) | (simp [frz] at e1; done) | (simp [argOf] at ax; done) | (simp [argOf] at e1; done) | (simp [isBx] at hab; done) | (simp [argOf] at h; done) | (simp [peek] at e; done) | (simp [isBx] at hbx; done) | exact h | exact hw | exact r | (cases e; done) | (cases e2; done) | rfl | (simp at e; done) | (simp at h; done)
                  | d z => simp [argOf] at e1
                  | own z => simp [argOf] at e1
                  | box => simp [argOf] at e1
                  | mu c q => simp [argOf] at e1
                  | slot i => simp only [argOf] at e1; split at e1 <;> simp at e1
                | slot z =>
                  cases x with
                  | exc xa xb => first | exact h.elim | exact hw.elim | exact hr.elim | exact rr.elim | exact rx.elim | exact h3.elim | exact c3.elim | exact c.elim | exact hab.elim | exact q.elim | (simp [peek] at hp; done) | (simp [frz] at e; done) | (simp [frz] at e1; done) | (simp [argOf] at ax; done) | (simp [argOf] at e1; done) | (simp [isBx] at hab; done) | (simp [argOf] at h; done) | (simp [peek] at e; done) | (simp [isBx] at hbx; done) | exact h | exact hw | exact r | (cases e; done) | (cases e2; done) | rfl | (simp at e; done) | (simp at h; done)
                  | fd xc => first | exact h.elim | exact hw.elim | exact hr.elim | exact rr.elim | exact rx.elim | exact h3.elim | exact c3.elim | exact c.elim | exact hab.elim | exact q.elim | (simp [peek] at hp; done) | (simp [frz] at e; done) | (simp [frz] at e1; done) | (simp [argOf] at ax; done) | (simp [argOf] at e1; done) | (simp [isBx] at hab; done) | (simp [argOf] at h; done) | (simp [peek] at e; done) | (simp [isBx] at hbx; done) | exact h | exact hw | exact r | (cases e; done) | (cases e2; done) | rfl | (simp at e; done) | (simp at h; done)
                  | d z => simp [argOf] at e1
                  | own z => simp [argOf] at e1
                  | box => simp [argOf] at e1
                  | mu c q => simp [argOf] at e1
                  | slot i => simp only [argOf] at e1; split at e1 <;> simp at e1
      exact aux rx.1 pr ea hb
  · intro r n' v H' kp hbx rr hqa
    have eN : aftN (m args) ds1.n n' = if B = [] then ds1.n else n' := by
      unfold aftN
      rw [hbm]
      cases hb : args.any isBx with
      | true => rw [if_neg (fun z => by rw [hB3.mp z] at hb; cases hb)]
      | false => rw [if_pos (hB3.mpr hb)]
    rw [eN] at hqa
    have hbox : ∀ b ∈ B, BoxAt H' b (if B = [] then ds1.n else n') ∧ ∃ i, BoxS σ ds1 i b := fun b hb => by
      rw [if_neg (fun z => by rw [z] at hb; simp at hb)]
      exact ⟨hbx b hb, hB2 b hb⟩
    have fresh_of : ∀ {p : Addr}, H1 p = none → p ∉ O ∧ F.Hin p = none := fun {p} hp => ⟨s1.fresh R hp, R1.hin hp⟩
    have fin : ∀ (O3 : List Addr) (d3 : DS), Rep K F H1 O3 σ d3 → Step σ H O ds H1 O3 d3 → (∀ (i : Nat), ds1.sl[i]? = some (some .box) → d3.sl[i]? = some (some .box)) → d3.n = ds1.n →
        (∀ x, r = .d x → Rp K H' O3 v x) → (∀ ys, r = .own ys → ∃ p ws, v = .ref p ∧ H1 p = none ∧ H' p = some (.lst ws) ∧ RpL K H' (p :: O3) ws ys) → (∀ c p, r = .mu c p → v = .ref p ∧ (∀ q, q = p ∨ q ∈ innM c → H1 q = none) ∧ MuAt K H' (p :: (innM c ++ O3)) p c) → (∀ c, r = .fd c → FdS K H' O3 v c) → Qa r ⟨d3.sl, if B = [] then ds1.n else n'⟩ → Q v H' := by
      intro O3 d3 R3 s3 hk hn3 hd' ho' hmu hfd hqa
      have hbox3 : ∀ b ∈ B, BoxAt H' b (if B = [] then ds1.n else n') ∧ ∃ i, BoxS σ d3 i b := fun b hb => by
        obtain ⟨h1, i, h2, h3⟩ := hbox b hb
        exact ⟨h1, i, h2, hk i h3⟩
      cases r with
      | exc xa xb => first | exact h.elim | exact hw.elim | exact hr.elim | exact rr.elim | exact rx.elim | exact h3.elim | exact c3.elim | exact c.elim | exact hab.elim | exact q.elim | (simp [peek] at hp; done) | (simp [frz] at e; done) | (simp [frz] at e1; done) | (simp [argOf] at ax; done) | (simp [argOf] at e1; done) | (simp [isBx] at hab; done) | (simp [argOf] at h; done) | (simp [peek] at e; done) | (simp [isBx] at hbx; done) | exact h | exact hw | exact r | (cases e; done) | (cases e2; done) | rfl | (simp at e; done) | (simp at h; done)
      | fd xc =>
        obtain ⟨Rc, sc⟩ := R3.called kp hbox3 (fun z => by rw [if_pos z, hn3]) O3 grow_refl (fun _ h => h) fun p h1 h2 => absurd h1 h2
        exact hq (.fd xc) _ v H' O3 (s3.trans sc) Rc (hfd xc rfl) hqa
      | d x =>
        obtain ⟨Rc, sc⟩ := R3.called kp hbox3 (fun z => by rw [if_pos z, hn3]) O3 grow_refl (fun _ h => h) fun p h1 h2 => absurd h1 h2
        exact hq (.d x) _ v H' O3 (s3.trans sc) Rc (hd' x rfl) hqa
      | own ys =>
        obtain ⟨p, ws, ev, hp, hp', hl⟩ := ho' ys rfl
        obtain ⟨f1, f2⟩ := fresh_of hp
        obtain ⟨Rc, sc⟩ := R3.called kp hbox3 (fun z => by rw [if_pos z, hn3]) (p :: O3) (grow_new hp) (fun _ h => List.mem_cons_of_mem _ h) fun q h1 h2 => by
          rcases List.mem_cons.mp h1 with z | z
          · subst z; exact ⟨_, hp', rfl⟩
          · exact absurd z h2
        exact hq (.own ys) _ v H' (p :: O3) (s3.trans sc) Rc ⟨p, ws, ev, List.mem_cons_self, f1, f2, hp', hl⟩ hqa
      | box => exact rr.elim
      | mu c p =>
        obtain ⟨ev, hp, hm'⟩ := hmu c p rfl
        have hin : ∀ q, q ∈ p :: (innM c ++ O3) ↔ (q = p ∨ q ∈ innM c) ∨ q ∈ O3 := fun q => by
          simp only [List.mem_cons, List.mem_append, or_assoc]
        obtain ⟨Rc, sc⟩ := R3.called kp hbox3 (fun z => by rw [if_pos z, hn3]) (p :: (innM c ++ O3)) (fun q h => by
          rcases (hin q).mp h with z | z
          · exact .inr (hp q z)
          · exact .inl z) (fun q h => (hin q).mpr (.inr h)) fun q h1 h2 => by
          rcases (hin q).mp h1 with z | z
          · exact hm'.prtA z
          · exact absurd z h2
        exact hq (.mu c p) _ v H' (p :: (innM c ++ O3)) (s3.trans sc) Rc ⟨ev, fun q hq => ⟨(hin q).mpr (.inl hq), (fresh_of (hp q hq)).1, (fresh_of (hp q hq)).2⟩, hm'⟩ hqa
      | slot i => exact rr.elim
    cases hf : flatR r with
    | true =>
      have es : aftS ds1 xs r = ds1.sl := by unfold aftS; rw [hf]; cases ownA ds1 xs <;> rfl
      rw [es] at hqa
      refine fin O1 ds1 R1 s1 (fun _ h => h) rfl (fun x e => ?_) (fun ys e => ?_) (fun c p e => by subst e; cases hf) (fun c e => by subst e; cases hf) hqa
      · subst e; exact Rp.flat rr hf
      · subst e
        obtain ⟨p, ws, ev, hp, hp', hl⟩ := rr
        exact ⟨p, ws, ev, hp, hp', RpL.flat hl hf⟩
    | false =>
      have es : aftS ds1 xs r = (frzA ds1 xs).sl := by
        unfold aftS; rw [hf]
        cases q : ownA ds1 xs
        · rw [ownA_no q]
        · rfl
      rw [es] at hqa
      refine fin O2 (frzA ds1 xs) R2 s2 (fun i h => keepB i xs ds1 h) n2 (fun x e => ?_) (fun ys e => ?_) (fun c p e => ?_) (fun c e => by subst e; exact rr) hqa
      · subst e; exact rr
      · subst e
        obtain ⟨p, ws, ev, hp, hp', hl⟩ := rr
        exact ⟨p, ws, ev, hp, hp', hl⟩
      · subst e; exact rr
  · intro nm fo n' cv od H' kp hbx xc he
    have eN : aftN (m args) ds1.n n' = if B = [] then ds1.n else n' := by
      unfold aftN
      rw [hbm]
      cases hb : args.any isBx with
      | true => rw [if_neg (fun z => by rw [hB3.mp z] at hb; cases hb)]
      | false => rw [if_pos (hB3.mpr hb)]
    rw [eN] at he
    have hbox : ∀ b ∈ B, BoxAt H' b (if B = [] then ds1.n else n') ∧ ∃ i, BoxS σ (frzA ds1 xs) i b := fun b hb => by
      rw [if_neg (fun z => by rw [z] at hb; simp at hb)]
      obtain ⟨i, h1, h2⟩ := hB2 b hb
      exact ⟨hbx b hb, i, h1, keepB i xs ds1 h2⟩
    obtain ⟨Rc, sc⟩ := R2.called kp hbox (fun z => by rw [if_pos z, n2]) O2 grow_refl (fun _ h => h) fun p h1 h2 => absurd h1 h2
    exact hE nm fo _ cv od H' O2 (s2.trans sc) Rc xc he
theorem call_core {mg : Str → Option Value} {dsp : DSp} {m : List DV → List DV} {gV : List V → List V} {vs : List V} {xs args : List DV} {Q : VK} {Qa : DV → DS → Prop} {E : XK} (hm : Perm' K gV m) (R : Rep K F H O σ ds) (s1 : Step σ H O ds H1 O1 ds1) (R1 : Rep K F H1 O1 σ ds1)
    (rx : RpVs K F H1 O O1 σ ds1 vs xs) (ea : argsOf ds1 xs = some args) (hd : sameB args (m args) (onceB (m args) (dsp (m args) ds1.n (fun r n' => Qa r ⟨aftS ds1 xs r, aftN (m args) ds1.n n'⟩) fun _ _ _ => False)))
    (hq : ∀ dv ds' v H' O', Step σ H O ds H' O' ds' → Rep K F H' O' σ ds' → RpV K F H' O O' σ ds' v dv → Qa dv ds' → Q v H') : spD K mg dsp (gV vs) H1 Q E :=
  call_coreX (Ea := fun _ _ _ => False) hm R s1 R1 rx ea hd hq fun _ _ _ _ _ _ _ _ _ _ z => z.elim
end
section
variable {X : Cx} {F : Fx} {CX : CXT} {k : Nat} {f : Addr} {fd : FuncData} {ps ks : List Str} {dsp : DSp} {x : Str} {p pos : Pos} {e : Expr} {es : List Expr} {kws : List Keyword} {ta : DTA}
theorem perm_nil {K : Fg} : Perm' K (fun vs => vs ++ []) (fun as => as) := ⟨fun h => by rw [List.append_nil]; exact h⟩
theorem de_call (G : FnG X.prog X.w X.K X.mg X.base CX k f fd ps (spD X.K X.mg dsp)) (hr : RoomG k X.A) (hg : Gl X x) (hm : X.mg x = some (.ref f)) (hk : PySem.W.keepIn X.K (.ref f) = true) (hb : Binds X.K fd ps []) (hx : Passes CX X E0)
    (ha : DA X F (e :: es) ta) (hdb : (x == ("__debug__" : Str)) = false := by decide) (he : starEach (e :: es) X.env = (false, eval e X.env) :: starEach es X.env := by rfl) (hpl : (backTo pos (starEach es X.env)).any (·.1) = false := by rfl) :
    DE X F (.Call (.Name x p) (e :: es) [] pos) (dCall dsp (fun as => as) ta) :=
  PE_imp (pe_callG G hr hg hm hk hb .nil hx ha hdb he hpl) fun σ H Q ⟨O, ds, Qa, R, ht, hq⟩ => ⟨O, ds, _, R, ht, fun xs ds1 vs H1 O1 s1 R1 rx hx => by
    cases ea : argsOf ds1 xs with
    | none => rw [ea] at hx; exact hx.elim
    | some args =>
      rw [ea] at hx
      exact call_core (gV := fun vs => vs ++ []) perm_nil R s1 R1 rx ea hx hq⟩
abbrev DK (X : Cx) (F : Fx) (kws : List Keyword) (t : DTA) : Prop := PK X kws (liftA X.K F t)
theorem PK_imp {X : Cx} {kws : List Keyword} {t t' : TA} (h : PK X kws t) (hi : ∀ σ H Q, t' σ H Q → t σ H Q) : PK X kws t' := ⟨fun pos pins s σ H Q I q => h.run pos pins s σ H Q I (hi _ _ _ q)⟩
theorem dk_nil : DK X F [] dNil := PK_imp pk_nil fun σ H Q ⟨O, ds, Qa, R, ht, hq⟩ => hq [] ds [] H O Step.refl R ⟨.nil, fun _ _ _ _ _ _ _ h => by simp at h⟩ ht
theorem dk_cons {te : DTE} {tr : DTA} {nm : Option Str} {kpos : Pos} (ha : DE X F e te) (hr : DK X F kws tr) : DK X F (⟨nm, e, kpos⟩ :: kws) (dCons te tr) := PK_imp (pk_cons ha hr) fun σ H Q h => cons_lift h
theorem de_callK {g : List Value → List Value} {gV : List V → List V} {m : List DV → List DV} (hp : Perm' X.K gV m) (G : FnG X.prog X.w X.K X.mg X.base CX k f fd ps (spD X.K X.mg dsp)) (hr : RoomG k X.A) (hg : Gl X x) (hm : X.mg x = some (.ref f)) (hk : PySem.W.keepIn X.K (.ref f) = true)
    (hto : ∀ (s : Shared) (ws : List Value), X.K.In s.heap → (g ws).length = ps.length → BindsTo s fd ⟨[], ks.zip ws⟩ (ps.zip (g ws))) (hrel : ∀ {zs : List V} {ws : List Value}, Vals zs ws → Vals (gV zs) (g ws)) (hx : Passes CX X E0)
    (hkw : DK X F kws ta) (hall : (backToKw pos (keywordEach kws X.env)).all (·.1.isSome) = true := by rfl) (hks : (backToKw pos (keywordEach kws X.env)).filterMap (·.1) = ks := by rfl)
    (hdb : (x == ("__debug__" : Str)) = false := by decide) (hpl : (backToKw pos (keywordEach kws X.env)).any (·.1.isNone) = false := by rfl) :
    DE X F (.Call (.Name x p) [] kws pos) (dCall dsp m ta) :=
  PE_imp (pe_callGK0 G hr hg hm hk hto hrel hx hkw hall hks hdb hpl) fun σ H Q ⟨O, ds, Qa, R, ht, hq⟩ => ⟨O, ds, _, R, ht, fun xs ds1 vs H1 O1 s1 R1 rx hx => by
    cases ea : argsOf ds1 xs with
    | none => rw [ea] at hx; exact hx.elim
    | some args =>
      rw [ea] at hx
      exact call_core (gV := gV) hp R s1 R1 rx ea hx hq⟩
end
section
variable {K : Fg} {H : Hp} {O : List Addr}
theorem RpL.ints : ∀ {vs : List V} {ns : List Int}, RpL K H O vs (ns.map PyData.int) → vs = ns.map V.int
  | _, [], h => by cases h; rfl
  | _, n :: ns, h => by
    cases h with
    | cons h r =>
      cases h
      rw [RpL.ints r]
      rfl
theorem RpL.bools : ∀ {vs : List V} {bs : List Bool}, RpL K H O vs (bs.map PyData.bool) → vs = bs.map V.bl
  | _, [], h => by cases h; rfl
  | _, n :: ns, h => by
    cases h with
    | cons h r =>
      cases h
      rw [RpL.bools r]
      rfl
theorem rpl_ints : ∀ {ns : List Int}, RpL K H O (ns.map V.int) (ns.map PyData.int)
  | [] => .nil
  | n :: ns => .cons (.int n) rpl_ints
def intsD : List D → Option (List Int)
  | [] => some []
  | .int i :: r => (intsD r).map (i :: ·)
  | _ => none
def boolsD : List D → Option (List Bool)
  | [] => some []
  | .bool i :: r => (boolsD r).map (i :: ·)
  | _ => none
theorem intsD_ok : ∀ {xs : List D} {ns : List Int}, intsD xs = some ns → xs = ns.map PyData.int
  | [], ns, h => by simp only [intsD, Option.some.injEq] at h; subst h; rfl
  | .int i :: r, ns, h => by
    simp only [intsD, Option.map_eq_some_iff] at h
    obtain ⟨m, h1, h2⟩ := h
    subst h2
    rw [intsD_ok h1]
    rfl
  | .none :: _, _, h => by simp [intsD] at h
  | .bool _ :: _, _, h => by simp [intsD] at h
  | .str _ :: _, _, h => by simp [intsD] at h
  | .list _ :: _, _, h => by simp [intsD] at h
  | .tuple _ :: _, _, h => by simp [intsD] at h
  | .dict _ :: _, _, h => by simp [intsD] at h
theorem boolsD_ok : ∀ {xs : List D} {ns : List Bool}, boolsD xs = some ns → xs = ns.map PyData.bool
  | [], ns, h => by simp only [boolsD, Option.some.injEq] at h; subst h; rfl
  | .bool i :: r, ns, h => by
    simp only [boolsD, Option.map_eq_some_iff] at h
    obtain ⟨m, h1, h2⟩ := h
    subst h2
    rw [boolsD_ok h1]
    rfl
  | .none :: _, _, h => by simp [boolsD] at h
  | .int _ :: _, _, h => by simp [boolsD] at h
  | .str _ :: _, _, h => by simp [boolsD] at h
  | .list _ :: _, _, h => by simp [boolsD] at h
  | .tuple _ :: _, _, h => by simp [boolsD] at h
  | .dict _ :: _, _, h => by simp [boolsD] at h
theorem intsD_map : ∀ ns : List Int, intsD (ns.map PyData.int) = some ns
  | [] => rfl
  | n :: ns => by simp [intsD, intsD_map ns]
end
section
variable {X : Cx} {F : Fx} {e a b c : Expr} {ta tb tc : DTE} {pos : Pos}
def rAddT (K : Fg) : R2 := fun x y H Q => ∃ p q xs ys, x = .ref p ∧ y = .ref q ∧ SqT K H p xs ∧ SqT K H q ys ∧ xs.length + ys.length ≤ sizeLine ∧
  (xs = [] → Q y H) ∧ (xs ≠ [] → ys = [] → Q x H) ∧ (xs ≠ [] → ys ≠ [] → ∀ l o, H l = none → o.dict = none → Q (.ref l) (upd H l (.frz o (.tup (xs ++ ys)))))
theorem op_addT : OpR X (binaryOp .Add) (rAddT X.K) := by
  intro pins s σ H x y v u Q I rx ry h
  obtain ⟨p, q, xs, ys, ex, ey, hp, hq, hz, q0, q1, q2⟩ := h
  subst ex ey
  cases rx
  cases ry
  obtain ⟨is, r1, p1, _⟩ := I.tuple hp
  obtain ⟨js, r2, p2, _⟩ := I.tuple hq
  have l1 := r1.length
  have l2 := r2.length
  by_cases hx : xs = []
  · subst hx
    cases r1
    exact cat_tup0 p1 p2 ⟨.ref q, H, I, rfl, q0 rfl⟩
  · have nx : is ≠ [] := fun z => hx (List.eq_nil_of_length_eq_zero (by rw [l1, z]; rfl))
    refine HT.cat_tup p1 p2 nx (fun z => ⟨.ref p, H, I, rfl, q1 hx (List.eq_nil_of_length_eq_zero (by rw [l2, z]; rfl))⟩) (fun z => ?_) (by omega)
    have g := Heap.get?_push_size s.heap (o := { cls := .type "tuple", data := .seq (is ++ js).toArray }) rfl
    have ny : ys ≠ [] := fun z' => z (List.eq_nil_of_length_eq_zero (by rw [← l2, z']; rfl))
    exact ⟨.ref s.heap.objs.size, _, I.laid (t' := s.toks) (o := .frz { cls := .type "tuple", data := .seq (is ++ js).toArray } (.tup (xs ++ ys))) (fun b ob e => Heap.get?_push_of_some _ e) (Nat.le_refl _)
      ⟨g, by rw [List.length_append]; exact hz, _, r1.append r2, _, g, rfl, _, rfl⟩, rfl, q2 hx ny _ _ I.fresh rfl⟩
theorem op_add_bi : OpR X (binaryOp .Add) (fun x y H Q => ∃ k i, x = .bl k ∧ y = .int i ∧ Q (.int ((if k = true then (1 : Int) else 0) + i)) H) := by
  intro pins s σ H x y v u Q I rx ry h
  obtain ⟨k, i, rfl, rfl, q⟩ := h
  cases rx
  obtain ⟨t, rfl⟩ := ry
  exact PySem.IntBool.add_bool_int ⟨.int _, H, I.tok _, ⟨_, rfl⟩, q⟩
theorem op_sub_bi : OpR X (binaryOp .Sub) (fun x y H Q => ∃ k i, x = .bl k ∧ y = .int i ∧ Q (.int ((if k = true then (1 : Int) else 0) - i)) H) := by
  intro pins s σ H x y v u Q I rx ry h
  obtain ⟨k, i, rfl, rfl, q⟩ := h
  cases rx
  obtain ⟨t, rfl⟩ := ry
  exact PySem.IntBool.sub_bool_int ⟨.int _, H, I.tok _, ⟨_, rfl⟩, q⟩
theorem op_sub_ib : OpR X (binaryOp .Sub) (fun x y H Q => ∃ i k, x = .int i ∧ y = .bl k ∧ Q (.int (i - if k = true then (1 : Int) else 0)) H) := by
  intro pins s σ H x y v u Q I rx ry h
  obtain ⟨i, k, rfl, rfl, q⟩ := h
  obtain ⟨t, rfl⟩ := rx
  cases ry
  exact PySem.IntBool.sub_int_bool ⟨.int _, H, I.tok _, ⟨_, rfl⟩, q⟩
def fAdd : F2 := fun d e Q => match d, e with
  | .int i, .int j => Q (.d (.int (i + j)))
  | .str x, .str y => x.length + y.length ≤ 16777216 ∧ Q (.d (.str (x ++ y)))
  | .list xs, .list ys => xs.length + ys.length ≤ 16777216 ∧ Q (.own (xs ++ ys))
  | .tuple xs, .tuple ys => xs.length + ys.length ≤ 16777216 ∧ Q (.d (.tuple (xs ++ ys)))
  | .bool k, .int i => Q (.d (.int ((if k = true then 1 else 0) + i)))
  | _, _ => False
theorem opd_add : OpD X.K (fun x y H Q => rI0 (fun i j => .int (i + j)) x y H Q ∨ (∃ i j, x = .str i ∧ y = .str j ∧ i.length + j.length ≤ sizeLine ∧ Q (.str (i ++ j)) H) ∨ rCat x y H Q ∨ rAddT X.K x y H Q ∨ (∃ k i, x = .bl k ∧ y = .int i ∧ Q (.int ((if k = true then (1 : Int) else 0) + i)) H)) fAdd := by
  intro H O x y d e Qa Q lo wx wy hf k
  have hs := sizeLine_eq
  unfold fAdd at hf
  split at hf
  · exact .inl ⟨_, _, wx.int, wy.int, k.d _ _ (.int _) hf⟩
  · exact .inr (.inl ⟨_, _, wx.str, wy.str, by omega, k.d _ _ (.str _) hf.2⟩)
  · obtain ⟨p, vs, e1, h1, r1⟩ := wx.list
    obtain ⟨q, ws, e2, h2, r2⟩ := wy.list
    exact .inr (.inr (.inl ⟨p, q, vs, ws, e1, e2, h1, h2, by rw [r1.length, r2.length]; omega, fun l hl => k.lst l _ _ hl (r1.append r2) hf.2⟩))
  · rename_i xs ys
    obtain ⟨p, vs, e1, h1, r1⟩ := wx.tuple
    obtain ⟨q, ws, e2, h2, r2⟩ := wy.tuple
    refine .inr (.inr (.inr (.inl ⟨p, q, vs, ws, e1, e2, h1, h2, by rw [r1.length, r2.length]; omega, fun z => ?_, fun z z' => ?_, fun z z' l o hl ho => k.tup l o _ _ hl ho (r1.append r2) hf.2⟩)))
    · subst z
      cases r1
      exact k.d _ _ wy.rp hf.2
    · subst z'
      cases r2
      refine k.d _ _ wx.rp ?_
      rw [List.append_nil] at hf
      exact hf.2
  · exact .inr (.inr (.inr (.inr ⟨_, _, wx.bool, wy.int, k.d _ _ (.int _) hf⟩)))
  · exact hf.elim
end
section
variable {X : Cx} {F : Fx} {e a b c : Expr} {ta tb tc : DTE} {pos : Pos}
theorem de_add (ha : DE X F a ta) (hb : DE X F b tb) : DE X F (.BinOp a .Add b pos) (dOp2 fAdd ta tb) := de_op2 (pe_op (OpR.or op_add (OpR.or op_add_str (OpR.or op_cat (OpR.or op_addT op_add_bi)))) ha hb) opd_add
def fI2 (C : Int → Int → Prop) (g : Int → Int → Int) : F2 := fun d e Q => match d, e with
  | .int i, .int j => C i j ∧ Q (.d (.int (g i j)))
  | _, _ => False
theorem opd_i2 {C : Int → Int → Prop} {g : Int → Int → Int} : OpD X.K (rI C fun i j => .int (g i j)) (fI2 C g) := by
  intro H O x y d e Qa Q lo wx wy hf k
  unfold fI2 at hf
  split at hf
  · exact ⟨_, _, wx.int, wy.int, hf.1, k.d _ _ (.int _) hf.2⟩
  · exact hf.elim
def fSub : F2 := fun d e Q => match d, e with
  | .int i, .int j => Q (.d (.int (i - j)))
  | .bool k, .int j => Q (.d (.int ((if k = true then 1 else 0) - j)))
  | .int i, .bool k => Q (.d (.int (i - if k = true then 1 else 0)))
  | _, _ => False
theorem de_sub (ha : DE X F a ta) (hb : DE X F b tb) : DE X F (.BinOp a .Sub b pos) (dOp2 fSub ta tb) := de_op2 (pe_op (OpR.or op_sub (OpR.or op_sub_bi op_sub_ib)) ha hb) (by
  intro H O x y d e Qa Q lo wx wy hf k
  unfold fSub at hf
  split at hf
  · exact .inl ⟨_, _, wx.int, wy.int, k.d _ _ (.int _) hf⟩
  · exact .inr (.inl ⟨_, _, wx.bool, wy.int, k.d _ _ (.int _) hf⟩)
  · exact .inr (.inr ⟨_, _, wx.int, wy.bool, k.d _ _ (.int _) hf⟩)
  · exact hf.elim)
def mulOk (i j : Int) : Prop := (-18446744073709551616 < i ∧ i < 18446744073709551616) ∨ (-18446744073709551616 < j ∧ j < 18446744073709551616)
def fMul : F2 := fun d e Q => match d, e with
  | .int i, .int j => mulOk i j ∧ Q (.d (.int (i * j)))
  | .list xs, .int k => (xs.length * k.toNat ≤ 16777216 ∧ -9223372036854775808 ≤ k ∧ k < 9223372036854775808) ∧ Q (.own (List.replicate k.toNat xs).flatten)
  | _, _ => False
theorem RpL.rep {K : Fg} {H : Hp} {O : List Addr} {vs : List V} {xs : List D} (h : RpL K H O vs xs) : ∀ n : Nat, RpL K H O (List.replicate n vs).flatten (List.replicate n xs).flatten
  | 0 => .nil
  | n + 1 => by simp only [List.replicate_succ, List.flatten_cons]; exact RpL.append h (RpL.rep h n)
theorem de_mul (ha : DE X F a ta) (hb : DE X F b tb) : DE X F (.BinOp a .Mult b pos) (dOp2 fMul ta tb) := de_op2 (pe_op (OpR.or op_mul op_rep) ha hb) (by
  intro H O x y d e Qa Q lo wx wy hf k
  have hs := sizeLine_eq
  unfold fMul at hf
  split at hf
  · exact .inl ⟨_, _, wx.int, wy.int, hf.1, k.d _ _ (.int _) hf.2⟩
  · obtain ⟨p, vs, e1, h1, r1⟩ := wx.list
    refine .inr ⟨p, _, vs, e1, wy.int, h1, by omega, by omega, by rw [r1.length]; omega, fun l hl => k.lst l _ _ hl (r1.rep _) hf.2⟩
  · exact hf.elim)
def fPow : F2 := fI2 (fun i j => 0 ≤ j ∧ j ≤ 1000000 ∧ i.natAbs < 18446744073709551616) fun i j => i ^ j.toNat
theorem de_pow (ha : DE X F a ta) (hb : DE X F b tb) : DE X F (.BinOp a .Pow b pos) (dOp2 fPow ta tb) := de_op2 (pe_op op_pow ha hb) opd_i2
def fNeg : F1 := fun d Q => match d with
  | .int i => Q (.d (.int (-i)))
  | _ => False
theorem de_neg (ha : DE X F a ta) : DE X F (.UnaryOp .USub a pos) (dOp1 fNeg ta) := de_op1 (pe_un un_neg ha) (by
  intro H O x d Qa Q lo wx hf k
  unfold fNeg at hf
  split at hf
  · exact ⟨_, wx.int, k.d _ _ (.int _) hf⟩
  · exact hf.elim)
def fCmp (g : Int → Int → Bool) : F2 := fun d e Q => match d, e with
  | .int i, .int j => Q (.d (.bool (g i j)))
  | _, _ => False
theorem opd_cmp {g : Int → Int → Bool} : OpD X.K (rI0 fun i j => .bl (g i j)) (fCmp g) := by
  intro H O x y d e Qa Q lo wx wy hf k
  unfold fCmp at hf
  split at hf
  · exact ⟨_, _, wx.int, wy.int, k.d _ _ (.bl _) hf⟩
  · exact hf.elim
abbrev fLe : F2 := fCmp fun i j => decide (i ≤ j)
abbrev fGt : F2 := fCmp fun i j => decide (j < i)
structure CmpD (X : Cx) (op : CmpOp) (f : F2) : Prop where
  ex : ∃ r : R2, OpR X (compareOp op) r ∧ OpD X.K r f
theorem cd_le : CmpD X .LtE fLe := ⟨_, op_le, opd_cmp⟩
def shp (d : D) (P : Prop) : Prop := match SeqAt.shaped d with
  | true => P
  | false => False
theorem shp_ok {d : D} {P : Prop} (h : shp d P) : SeqAt.shaped d = true ∧ P := by
  unfold shp at h
  split at h
  · exact ⟨by assumption, h⟩
  · exact h.elim
@[irreducible] def fEq : F2 := fun d e Q => shp d (shp e (Q (.d (.bool (PyData.eqv d e))))) ∨ ∃ x y, d = .str x ∧ e = .str y ∧ Q (.d (.bool (decide (x = y))))
@[irreducible] def fNe : F2 := fun d e Q => shp d (shp e (Q (.d (.bool (!PyData.eqv d e))))) ∨ ∃ x y, d = .str x ∧ e = .str y ∧ Q (.d (.bool (!decide (x = y))))
theorem dec_str (x y : Str) : decide (V.str x = V.str y) = decide (x = y) := by
  by_cases h : x = y
  · subst h; simp
  · rw [decide_eq_false h, decide_eq_false (fun z => h (by cases z; rfl))]
theorem cd_eq (hu : X.A.units + 64 < cLine) : CmpD X .Eq fEq := ⟨_, OpR.or (op_eqD hu) op_eq, by
  intro H O x y d e Qa Q lo wx wy hf k
  unfold fEq at hf
  rcases hf with hf | ⟨p, q, rfl, rfl, hf⟩
  · obtain ⟨h1, hf⟩ := shp_ok hf
    obtain ⟨h2, hf⟩ := shp_ok hf
    exact .inl ⟨d, e, wx.dp, wy.dp, h1, h2, k.d _ _ (.bl _) hf⟩
  · have e1 := wx.str
    have e2 := wy.str
    subst e1 e2
    refine .inr ⟨rfl, ?_⟩
    rw [dec_str]
    exact k.d _ _ (.bl _) hf⟩
theorem cd_ne (hu : X.A.units + 64 < cLine) : CmpD X .NotEq fNe := ⟨_, OpR.or (op_neD hu) op_ne, by
  intro H O x y d e Qa Q lo wx wy hf k
  unfold fNe at hf
  rcases hf with hf | ⟨p, q, rfl, rfl, hf⟩
  · obtain ⟨h1, hf⟩ := shp_ok hf
    obtain ⟨h2, hf⟩ := shp_ok hf
    exact .inl ⟨d, e, wx.dp, wy.dp, h1, h2, k.d _ _ (.bl _) hf⟩
  · have e1 := wx.str
    have e2 := wy.str
    subst e1 e2
    refine .inr ⟨rfl, ?_⟩
    rw [dec_str]
    exact k.d _ _ (.bl _) hf⟩
def scD : D → Bool
  | .none => true
  | .bool _ => true
  | .int _ => true
  | .str _ => true
  | _ => false
theorem sc_flat {K : Fg} {H : Hp} {O : List Addr} {v : V} {d : D} (h : Rp K H O v d) (s : scD d = true) : flatV v = true := by
  cases h <;> first | rfl | simp [scD] at s
theorem sc_eq {K : Fg} {H : Hp} {O : List Addr} {v w : V} {d e : D} (h : Rp K H O v d) (h' : Rp K H O w e) (s : scD d = true) (s' : scD e = true) : eqV v w = PyData.eqv d e := by
  cases h <;> (cases h' <;> first | (simp only [eqV, PyData.eqv] <;> done) | rfl | simp [scD] at s | simp [scD] at s')
theorem sc_any {K : Fg} {H : Hp} {O : List Addr} {w : V} {e : D} (h' : Rp K H O w e) (s' : scD e = true) : ∀ {vs : List V} {xs : List D}, RpL K H O vs xs → xs.all scD = true → vs.all flatV = true ∧ inV w vs = xs.any fun y => PyData.eqv y e
  | _, _, .nil, _ => ⟨rfl, rfl⟩
  | _, _, .cons h r, s => by
    simp only [List.all_cons, Bool.and_eq_true] at s
    obtain ⟨i1, i2⟩ := sc_any h' s' r s.2
    refine ⟨by simp [sc_flat h s.1, i1], ?_⟩
    unfold inV at i2 ⊢
    rw [List.any_cons, List.any_cons, sc_eq h h' s.1 s', i2]
theorem Vw.sc {K : Fg} {H : Hp} {O : List Addr} {v : V} {d : D} (h : Vw K H O v d) (s : scD d = true) : Rp K H O v d := by
  rcases h with h | ⟨p, vs, xs, e, e2, h1, h2⟩
  · exact h
  · subst e2; simp [scD] at s
def inSc (x : D) (xs : List D) (P : Prop) : Prop := match scD x && xs.all scD with
  | true => P
  | false => False
def fInG (neg : Bool) : F2 := fun x d Q => match d with
  | .list xs => inSc x xs (Q (.d (.bool (if neg then !(xs.any fun y => PyData.eqv y x) else xs.any fun y => PyData.eqv y x))))
  | .tuple xs => inSc x xs (Q (.d (.bool (if neg then !(xs.any fun y => PyData.eqv y x) else xs.any fun y => PyData.eqv y x))))
  | _ => False
theorem opd_in {neg : Bool} : OpD X.K (rIn X.K neg) (fInG neg) := by
  intro H O x y d e Qa Q lo wx wy hf k
  have fin : ∀ (xs : List D) (P : Prop), inSc d xs P → scD d = true ∧ xs.all scD = true ∧ P := by
    intro xs P h
    unfold inSc at h
    split at h
    · rename_i e
      simp only [Bool.and_eq_true] at e
      exact ⟨e.1, e.2, h⟩
    · exact h.elim
  unfold fInG at hf
  split at hf
  · rename_i xs
    obtain ⟨s1, s2, hf⟩ := fin _ _ hf
    obtain ⟨p, vs, e1, h1, r1⟩ := wy.list
    obtain ⟨f1, f2⟩ := sc_any (wx.sc s1) s1 r1 s2
    refine ⟨p, vs, e1, .inl (.inl (.inl h1)), sc_flat (wx.sc s1) s1, f1, k.d _ _ (.bl _) ?_⟩
    rw [f2]; exact hf
  · rename_i xs
    obtain ⟨s1, s2, hf⟩ := fin _ _ hf
    obtain ⟨p, vs, e1, h1, r1⟩ := wy.tuple
    obtain ⟨f1, f2⟩ := sc_any (wx.sc s1) s1 r1 s2
    refine ⟨p, vs, e1, .inr h1, sc_flat (wx.sc s1) s1, f1, k.d _ _ (.bl _) ?_⟩
    rw [f2]; exact hf
  · exact hf.elim
abbrev fIn : F2 := fInG false
abbrev fNotIn : F2 := fInG true
theorem cd_in : CmpD X .In fIn := ⟨_, op_in_seq, opd_in⟩
theorem cd_notIn : CmpD X .NotIn fNotIn := ⟨_, op_notIn_seq, opd_in⟩
theorem de_cmp {op : CmpOp} {f : F2} (h : CmpD X op f) (ha : DE X F a ta) (hb : DE X F b tb) (hm : behindInMarks op b = false) : DE X F (.Compare a [op] [b] pos) (dOp2 f ta tb) := by
  obtain ⟨r, h1, h2⟩ := h.ex
  exact de_op2 (pe_cmpR h1 ha hb hm) h2
theorem dt_cmp {op : CmpOp} {f : F2} (h : CmpD X op f) (ha : DE X F a ta) (hb : DE X F b tb) (hm : behindInMarks op b = false) : DT X F (.Compare a [op] [b] pos) (dTst (dOp2 f ta tb)) := by
  obtain ⟨r, h1, h2⟩ := h.ex
  refine PT_imp (pt_cmpR h1 ha hb hm) fun σ H Q hh => ?_
  have q := tst_lift hh
  obtain ⟨O, ds, Qa, R, ht, hq⟩ := q
  exact ⟨O, ds, _, R, ht, fun x ds1 v H1 O1 s1 R1 rx hx => ⟨O1, ds1, _, R1, hx, fun y ds2 w H2 O2 s2 R2 ry hy => by
    have rx2 := RpV.step R1 (s1.mutO R) rx s2
    split at hy
    · rename_i d e e1 e2
      exact h2 H2 O2 v w d e _ _ R2.lo (RpV.vw R2 rx2 e1) (RpV.vw R2 ry e2) hy (mkCont R (s1.trans s2) R2 hq)
    · exact hy.elim⟩⟩
def isNo : D → Bool
  | .none => true
  | _ => false
def fIsN : F1 := fun d Q => Q (.d (.bool (isNo d)))
def fNotN : F1 := fun d Q => Q (.d (.bool (!isNo d)))
theorem isn_of {K : Fg} {H : Hp} {O : List Addr} {v : V} {d : D} (h : Vw K H O v d) : decide (v = .non) = isNo d := by
  rcases h with h | ⟨p, vs, xs, e, e2, h1, h2⟩
  · cases h <;> rfl
  · subst e e2; rfl
theorem opd_isn : OpD X.K (fun x y H Q => y = .non ∧ Q (.bl (decide (x = .non))) H) (fun d e Q => match e with | .none => fIsN d Q | _ => False) := by
  intro H O x y d e Qa Q lo wx wy hf k
  split at hf
  · refine ⟨wy.none, k.d _ _ (.bl _) ?_⟩
    rw [isn_of wx]
    exact hf
  · exact hf.elim
theorem opd_notn : OpD X.K (fun x y H Q => y = .non ∧ Q (.bl (!decide (x = .non))) H) (fun d e Q => match e with | .none => fNotN d Q | _ => False) := by
  intro H O x y d e Qa Q lo wx wy hf k
  split at hf
  · refine ⟨wy.none, k.d _ _ (.bl _) ?_⟩
    rw [isn_of wx]
    exact hf
  · exact hf.elim
def fIs : F2 := fun d e Q => match e with
  | .none => fIsN d Q
  | _ => False
def fIsNot : F2 := fun d e Q => match e with
  | .none => fNotN d Q
  | _ => False
theorem cd_is : CmpD X .Is fIs := ⟨_, op_isN, opd_isn⟩
theorem cd_isnot : CmpD X .IsNot fIsNot := ⟨_, op_notN, opd_notn⟩
def dChain (f g : F2) (ta tb tc : DTE) : DTE := fun ds Q => ta ds fun x ds1 => tb ds1 fun y ds2 => match peek ds2 x, peek ds2 y with
  | some d, some e => f d e fun r => match r with
    | .d (.bool true) => tc ds2 fun z ds3 => match peek ds3 y, peek ds3 z with
      | some e', some h => g e' h fun r' => Q r' ds3
      | _, _ => False
    | .d (.bool false) => Q (.d (.bool false)) ds2
    | _ => False
  | _, _ => False
theorem chain_lift {K : Fg} {σ : St} {H : Hp} {Q : VK} {r r' : R2} {f g : F2} (h1 : OpD K r f) (h2 : OpD K r' g) (h : lift K F (dChain f g ta tb tc) σ H Q) : tChain r r' (lift K F ta) (lift K F tb) (lift K F tc) σ H Q := by
  obtain ⟨O, ds, Qa, R, ht, hq⟩ := h
  exact ⟨O, ds, _, R, ht, fun x ds1 v H1 O1 s1 R1 rx hx => ⟨O1, ds1, _, R1, hx, fun y ds2 w H2 O2 s2 R2 ry hy => by
    have rx2 := RpV.step R1 (s1.mutO R) rx s2
    have s12 := s1.trans s2
    have ryO := RpV.old ry (Step.gone R s1 s2)
    split at hy
    · rename_i d e e1 e2
      refine h1 H2 O2 v w d e _ _ R2.lo (RpV.vw R2 rx2 e1) (RpV.vw R2 ry e2) hy ⟨fun v' x' rp hh => ?_, fun p vs xs hp rl hh => ?_, fun p o vs xs hp ho rl hh => ?_⟩
      · split at hh
        · rename_i eb
          cases eb
          cases rp
          refine ⟨true, rfl, iteT ⟨O2, ds2, _, R2, hh, fun z ds3 u H3 O3 s3 R3 rz hz => ?_⟩⟩
          have ry3 := RpV.step R2 (s12.mutO R) ryO s3
          split at hz
          · rename_i e' h e1' e2'
            exact h2 H3 O3 w u e' h _ Q R3.lo (RpV.vw R3 ry3 e1') (RpV.vw R3 rz e2') hz (mkCont R (s12.trans s3) R3 hq)
          · exact hz.elim
        · rename_i eb
          cases eb
          cases rp
          exact ⟨false, rfl, iteF (hq (.d (.bool false)) ds2 (.bl false) H2 O2 s12 R2 (.bl false) hh)⟩
        · exact hh.elim
      · exact hh.elim
      · exact hh.elim
    · exact hy.elim⟩⟩
theorem de_chain {op op' : CmpOp} {f g : F2} (h : CmpD X op f) (h' : CmpD X op' g) (ha : DE X F a ta) (hb : DE X F b tb) (hc : DE X F c tc) (hm : lastMarks [op, op'] [b, c] = false := by with_unfolding_all rfl) :
    DE X F (.Compare a [op, op'] [b, c] pos) (dChain f g ta tb tc) := by
  obtain ⟨r, h1, h2⟩ := h.ex
  obtain ⟨r', h1', h2'⟩ := h'.ex
  exact PE_imp (pe_chain h1 h1' ha hb hc hm) fun σ H Q hh => chain_lift h2 h2' hh
theorem atI_map {K : Fg} {H : Hp} {O : List Addr} {vs : List V} {xs : List D} {i : Int} {d : D} (r : RpL K H O vs xs) (h : atI xs i = some d) : ∃ v, atI vs i = some v ∧ Rp K H O v d := by
  unfold atI at h ⊢
  rw [r.length]
  cases e : ixN xs.length i with
  | none => rw [e] at h; simp at h
  | some j =>
    rw [e] at h
    exact r.get (by simpa using h)
def someD {α : Type} (o : Option α) (P : α → Prop) : Prop := match o with
  | some x => P x
  | none => False
def fIx : F2 := fun d e Q => match d, e with
  | .list xs, .int i => someD (atI xs i) fun x => Q (.d x)
  | .tuple xs, .int i => someD (atI xs i) fun x => Q (.d x)
  | .str z, .int i => z.length ≤ 16777216 ∧ someD (atI z.cps.toList i) fun c => Q (.d (.str ⟨#[c]⟩))
  | _, _ => False
theorem opd_ix : OpD X.K (rIx X.K) fIx := by
  intro H O x y d e Qa Q lo wx wy hf k
  unfold fIx at hf
  split at hf
  · obtain ⟨p, vs, e1, h1, r1⟩ := wx.list
    rename_i xs i
    cases e : atI xs i with
    | none => rw [e] at hf; exact hf.elim
    | some z =>
      rw [e] at hf
      obtain ⟨v, e2, r2⟩ := atI_map r1 e
      exact .inl ⟨p, vs, i, v, e1, wy.int, .inl (.inl h1), e2, k.d _ _ r2 hf⟩
  · obtain ⟨p, vs, e1, h1, r1⟩ := wx.tuple
    rename_i xs i
    cases e : atI xs i with
    | none => rw [e] at hf; exact hf.elim
    | some z =>
      rw [e] at hf
      obtain ⟨v, e2, r2⟩ := atI_map r1 e
      exact .inr (.inl ⟨p, vs, i, v, e1, wy.int, h1, e2, k.d _ _ r2 hf⟩)
  · rename_i z i
    obtain ⟨hz, hf⟩ := hf
    cases e : atI z.cps.toList i with
    | none => rw [e] at hf; exact hf.elim
    | some c =>
      rw [e] at hf
      exact .inr (.inr ⟨z, i, c, wx.str, wy.int, by rw [sizeLine_eq]; exact hz, e, k.d _ _ (.str _) hf⟩)
  · exact hf.elim
theorem de_ix (ha : DE X F a ta) (hb : DE X F b tb) (hs : PlainIx b) : DE X F (.Subscript a b pos) (dOp2 fIx ta tb) := de_op2 (pe_ix ix_seq ha hb hs) opd_ix
def cutD (xs : List D) (lo hi : Option Int) : List D := (xs.drop (HT.sIx xs.length 0 lo)).take (HT.sIx xs.length xs.length hi - HT.sIx xs.length 0 lo)
theorem cut_rpl {K : Fg} {H : Hp} {O : List Addr} {vs : List V} {xs : List D} (r : RpL K H O vs xs) (lo hi : Option Int) : RpL K H O (cutV vs lo hi) (cutD xs lo hi) := by
  unfold cutV cutD
  rw [r.length]
  exact (r.drop _).take _
def rSlF (K : Fg) : V → Option Int → Option Int → Hp → VK → Prop := fun x lo hi H Q => ∃ a xs, x = .ref a ∧ SqT K H a xs ∧
  (HT.sIx xs.length 0 lo = 0 ∧ HT.sIx xs.length xs.length hi = xs.length → Q x H) ∧ (¬ (HT.sIx xs.length 0 lo = 0 ∧ HT.sIx xs.length xs.length hi = xs.length) → ∀ p o, H p = none → o.dict = none → Q (.ref p) (upd H p (.frz o (.tup (cutV xs lo hi)))))
theorem sl_tupF : SlR X (rSlF X.K) := by
  intro pins s σ H x v vl vu lo hi sl Q I rx hs pl pu h
  obtain ⟨a, xs, ex, hx, q1, q2⟩ := h
  subst ex
  cases rx
  obtain ⟨is, r, ht, hz⟩ := I.tuple hx
  have hn : is.toArray.size = xs.length := by simpa using r.length.symm
  refine ⟨"tuple", _, PyProof.Rows.slot_tuple_getitem.lookup, ht.typeIs, ?_⟩
  by_cases hw : HT.sIx xs.length 0 lo = 0 ∧ HT.sIx xs.length xs.length hi = xs.length
  · exact getItem_tuple_whole ht hs pl pu (by rw [hn]; exact hw) ⟨.ref a, H, I, rfl, q1 hw⟩
  · refine HT.getItem_tuple_cut ht hs pl pu (by rw [hn]; exact hw) ?_ (by rw [hn]; exact hz)
    rw [hn]
    refine ⟨.ref s.heap.objs.size, _, I.laid (t' := s.toks) (o := .frz { cls := .type "tuple", data := .seq ((is.drop (HT.sIx xs.length 0 lo)).take (HT.sIx xs.length xs.length hi - HT.sIx xs.length 0 lo)).toArray } (.tup (cutV xs lo hi))) (fun b ob e => Heap.get?_push_of_some _ e) (Nat.le_refl _) ?_, rfl, q2 hw _ _ I.fresh rfl⟩
    have g := Heap.get?_push_size s.heap (o := { cls := .type "tuple", data := .seq ((is.drop (HT.sIx xs.length 0 lo)).take (HT.sIx xs.length xs.length hi - HT.sIx xs.length 0 lo)).toArray }) rfl
    exact ⟨g, Nat.le_trans (cutV_length xs lo hi) hz, _, (r.drop _).take _, _, g, rfl, _, rfl⟩
abbrev DTO := DS → (Option Int → DS → Prop) → Prop
def liftO (K : Fg) (F : Fx) (t : DTO) : TO := fun σ H Q => ∃ O ds Qa, Rep K F H O σ ds ∧ t ds Qa ∧ ∀ o ds' H' O', Step σ H O ds H' O' ds' → Rep K F H' O' σ ds' → Qa o ds' → Q o H'
abbrev DO (X : Cx) (F : Fx) (e : Option Expr) (t : DTO) : Prop := PO X e (liftO X.K F t)
def dNoP : DTO := fun ds Q => Q none ds
def dP (t : DTE) : DTO := fun ds Q => t ds fun x ds1 => match peek ds1 x with
  | some (.int i) => Q (some i) ds1
  | _ => False
theorem PO_imp {X : Cx} {e : Option Expr} {t t' : TO} (h : PO X e t) (hi : ∀ σ H Q, t' σ H Q → t σ H Q) : PO X e t' := ⟨fun pins s σ H Q I q => h.run pins s σ H Q I (hi _ _ _ q)⟩
theorem do_none : DO X F none dNoP := PO_imp po_none fun σ H Q ⟨O, ds, Qa, R, ht, hq⟩ => hq none ds H O Step.refl R ht
theorem do_some (h : DE X F e ta) : DO X F (some e) (dP ta) := PO_imp (po_some h) fun σ H Q ⟨O, ds, Qa, R, ht, hq⟩ => ⟨O, ds, _, R, ht, fun x ds1 v H1 O1 s1 R1 rx hx => by
  split at hx
  · rename_i i e
    exact ⟨i, (RpV.vw R1 rx e).int, hq (some i) ds1 H1 O1 s1 R1 hx⟩
  · exact hx.elim⟩
def fSl (lo hi : Option Int) : F1 := fun d Q => match d with
  | .list xs => Q (.own (cutD xs lo hi))
  | .tuple xs => Q (.d (.tuple (cutD xs lo hi)))
  | .str z => z.length ≤ 16777216 ∧ Q (.d (.str (cutS z lo hi)))
  | _ => False
def dSl (ta : DTE) (tl th : DTO) : DTE := fun ds Q => ta ds fun x ds1 => tl ds1 fun l ds2 => th ds2 fun u ds3 => match peek ds3 x with
  | some d => fSl l u d fun r => Q r ds3
  | none => False
theorem de_sl {lo hi : Option Expr} {tl th : DTO} {p2 : Pos} (he : DE X F e ta) (hl : DO X F lo tl) (hu : DO X F hi th) : DE X F (.Subscript e (.Slice lo hi none p2) pos) (dSl ta tl th) :=
  PE_imp (pe_slice (SlR.or sl_list (SlR.or sl_tupF sl_str)) he hl hu) fun σ H Q ⟨O, ds, Qa, R, ht, hq⟩ => ⟨O, ds, _, R, ht, fun x ds1 v H1 O1 s1 R1 rx hx =>
    ⟨O1, ds1, _, R1, hx, fun l ds2 H2 O2 s2 R2 hl => ⟨O2, ds2, _, R2, hl, fun u ds3 H3 O3 s3 R3 hu => by
      have rx3 := RpV.step R1 (s1.mutO R) rx (s2.trans s3)
      have k := mkCont R (s1.trans (s2.trans s3)) R3 hq
      split at hu
      · rename_i d e
        have w := RpV.vw R3 rx3 e
        unfold fSl at hu
        split at hu
        · obtain ⟨p, vs, e1, h1, r1⟩ := w.list
          exact .inl ⟨p, vs, e1, .inl (.inl h1), fun q hq => k.lst q _ _ hq (cut_rpl r1 l u) hu⟩
        · rename_i xs
          obtain ⟨p, vs, e1, h1, r1⟩ := w.tuple
          refine .inr (.inl ⟨p, vs, e1, h1, fun hw => ?_, fun _ q o hq ho => k.tup q o _ _ hq ho (cut_rpl r1 l u) hu⟩)
          have ec : cutD xs l u = xs := by
            unfold cutD
            rw [r1.length] at hw
            rw [hw.1, hw.2]
            simp
          rw [ec] at hu
          exact k.d _ _ w.rp hu
        · exact .inr (.inr ⟨_, w.str, by rw [sizeLine_eq]; exact hu.1, k.d _ _ (.str _) hu.2⟩)
        · exact hu.elim
      · exact hu.elim⟩⟩⟩
end
end SF
namespace PySem
open PySem.Spec PyProof.Rows
section
variable {prog : Program} {w : World} {A : Around} {E : Value → Shared → Prop} {s : Shared}
theorem sf_repr {T id : String} {v : Value} {Q : Value → Shared → Prop} (hT : s.TypeIs v T) (slot : Slot T "__repr__" id) (hu : A.units + 1 < cLine)
    (h : wpAny (model prog w) A.in1 (call (.builtin id) [v]) (fun r s' => ∃ x t, r = .str x t ∧ Q r s') E s) : wpAny (model prog w) A (call (.builtin "repr") [v]) Q E s := by
  refine Calls.call_function_entry F.kind_repr F.plain_repr F.entry_repr (F.args_repr1 v) ?_
  unfold Builtin.«repr»
  refine wpAny_bind (m := oneArg "repr" _) (wpAny_pure (wpAny_bind (wpAny_cRoomFor hu (wpAny_bind (wpAny_specialOf (name := Str.ofString "__repr__") hT slot.lookup ?_)))))
  refine wpAny_bind (m := callSpecialIfBound? v (Str.ofString "__repr__")) (wpAny_callSpecialIfBound?_slot (name := Str.ofString "__repr__") hT slot (wpAny_mono h ?_ fun _ _ z => z))
  rintro r s' ⟨x, t, er, q⟩
  subst er
  exact wpAny_bind (wpAny_isInstance (T := "str") (b := true) rfl isSubtype_str_str (wpAny_pure ⟨_, rfl, q⟩))
theorem sf_reprG {T id : String} {v : Value} {Q : Value → Shared → Prop} (hT : s.TypeIs v T) (slot : SlotG T "__repr__" id) (hu : A.units + 1 < cLine)
    (h : wpAny (model prog w) A.in1 (call (.builtin id) [v]) (fun r s' => ∃ x t, r = .str x t ∧ Q r s') E s) : wpAny (model prog w) A (call (.builtin "repr") [v]) Q E s := by
  refine Calls.call_function_entry F.kind_repr F.plain_repr F.entry_repr (F.args_repr1 v) ?_
  unfold Builtin.«repr»
  refine wpAny_bind (m := oneArg "repr" _) (wpAny_pure (wpAny_bind (wpAny_cRoomFor hu (wpAny_bind (wpAny_specialOf (name := Str.ofString "__repr__") hT slot.lookup ?_)))))
  refine wpAny_bind (m := callSpecialIfBound? v (Str.ofString "__repr__")) (wpAny_callSpecialIfBound?_slotG (name := Str.ofString "__repr__") hT slot (wpAny_mono h ?_ fun _ _ z => z))
  rintro r s' ⟨x, t, er, q⟩
  subst er
  exact wpAny_bind (wpAny_isInstance (T := "str") (b := true) rfl isSubtype_str_str (wpAny_pure ⟨_, rfl, q⟩))
theorem sf_repr_data {v : Value} {d : PyData} {as : List Addr} (r : Reads s.heap v d as) (hs : d.showable = true) (hd : d.hasDict = false) (hz : d.shown.length ≤ sizeLine) {Q : Value → Shared → Prop}
    (hg : A.guards = some []) (hu : A.units + 1 + d.depth < cLine) (hQ : ∀ h' tk t, (∀ b o, s.heap.get? b = some o → h'.get? b = some o) → Q (.str d.shown t) { s with heap := h', toks := tk }) :
    wpAny (model prog w) A (call (.builtin "repr") [v]) Q E s := by
  cases r with
  | none => exact P.repr_of_none (by simpa only [PyData.shown] using hQ s.heap _ _ fun _ _ e => e)
  | bool b => exact P.repr_of_bool (by simpa only [PyData.shown] using hQ s.heap _ _ fun _ _ e => e)
  | int i t => exact P.repr_of_int (by simpa [PyData.showable] using hs) (by simpa only [PyData.shown] using hQ s.heap _ _ fun _ _ e => e)
  | str x t => exact P.repr_of_str (by simpa only [PyData.shown] using hQ s.heap _ _ fun _ _ e => e) (by simpa only [PyData.shown] using hz)
  | @list a o vs n xs as0 h1 h2 h3 h4 =>
    have hz' : (listText (PyData.shownAll xs)).length ≤ sizeLine := by simpa only [PyData.shown] using hz
    have nd : PyData.hasDictAll xs = false := by simpa [PyData.hasDict] using hd
    obtain ⟨bs, hb, hk⟩ := ReprAllK.of_readsAll (prog := prog) (w := w) h4 (by simpa [PyData.showable] using hs) (fun hx => by rw [nd] at hx; cases hx) (fun t ht => Nat.le_trans (listText_mem_le ht) hz')
    have r' : Reads s.heap (.ref a) (.list xs) _ := .list h1 h2 h3 h4
    have hna : a ∉ bs := not_mem_of_deeper r' (by simp only [PyData.depth]; omega) hb
    simp only [PyData.depth] at hu
    simp only [PyData.shown] at hQ
    refine sf_repr ⟨_, h1, h2⟩ F.slot_list_repr (by omega) ?_
    obtain ⟨l⟩ := vs
    cases l with
    | nil =>
      have h4' : ReadsAll s.heap [] xs _ := h4
      cases h4'
      simp only [PyData.shownAll, listText_nil] at hQ
      exact call_list_repr_empty ⟨_, h1, h2⟩ h1 h3 ⟨_, _, rfl, hQ s.heap _ _ fun _ _ e => e⟩
    | cons x l =>
      exact call_list_reprK h1 h2 h3 hna (by simpa using hk.length_eq) (fun i y e => hk.item i y (by simpa using e)) (show A.in1.guards = some [] from hg) (fun b _ => Clear.nil b) (by show A.units + 1 + _ < _; omega) (fun _ _ e => e) (fun h' u tk hk' => ⟨_, _, rfl, hQ h' tk u hk'⟩) hz'
  | @tuple a o vs n xs as0 h1 h2 h3 h4 =>
    have hz' : (tupleText (PyData.shownAll xs)).length ≤ sizeLine := by simpa only [PyData.shown] using hz
    have nd : PyData.hasDictAll xs = false := by simpa [PyData.hasDict] using hd
    obtain ⟨bs, hb, hk⟩ := ReprAllK.of_readsAll (prog := prog) (w := w) h4 (by simpa [PyData.showable] using hs) (fun hx => by rw [nd] at hx; cases hx) (fun t ht => Nat.le_trans (tupleText_mem_le ht) hz')
    have r' : Reads s.heap (.ref a) (.tuple xs) _ := .tuple h1 h2 h3 h4
    have hna : a ∉ bs := not_mem_of_deeper r' (by simp only [PyData.depth]; omega) hb
    simp only [PyData.depth] at hu
    simp only [PyData.shown] at hQ
    refine sf_reprG ⟨_, h1, h2⟩ F.slot_tuple_repr (by omega) ?_
    exact call_tuple_reprK h1 h2 h3 hna hk (show A.in1.guards = some [] from hg) (fun b _ => Clear.nil b) (by show A.units + 1 + _ < _; omega) (fun _ _ e => e) (fun h' u tk hk' => ⟨_, _, rfl, hQ h' tk u hk'⟩) hz'
  | dict => simp [PyData.hasDict] at hd
end
end PySem
namespace SF
open PySem PySem.Spec PyProof.Rows L2
section
variable {X : Cx} {F : Fx} {e a b c : Expr} {ta tb tc : DTE} {pos p : Pos}
structure Shows (d : D) : Prop where
  sh : d.showable = true
  nd : d.hasDict = false
  sz : d.shown.length ≤ 16777216
  dp : d.depth ≤ 60
theorem call_reprD (hr : ∃ k, RoomG k X.A) : CallR X (.builtin "repr") (fun xs H Q => ∃ x d, xs = [x] ∧ Dp X.K H x d ∧ Shows d ∧ Q (.str d.shown) H) := by
  intro pins s σ H xs us Q I r h
  obtain ⟨x, d, ex, hd, sh, q⟩ := h
  subst ex
  obtain ⟨u, eu, rx⟩ := vals1 r
  subst eu
  obtain ⟨as, rd⟩ := Dp.reads I d x u hd rx
  obtain ⟨k, hr⟩ := hr
  have hu := hr.rm.units
  have := sh.dp
  refine sf_repr_data rd sh.sh sh.nd (by rw [sizeLine_eq]; exact sh.sz) hr.gd (by omega) fun h' tk t kp => ?_
  exact ⟨.str d.shown, H, I.kept kp, ⟨t, rfl⟩, q⟩
def fRepr : FN := fun ds Q => match ds with
  | [d] => Shows d ∧ Q (.d (.str d.shown))
  | _ => False
theorem cad_repr : CallD X.K (fun xs H Q => ∃ x d, xs = [x] ∧ Dp X.K H x d ∧ Shows d ∧ Q (.str d.shown) H) fRepr := by
  intro H O xs ds Qa Q lo w hf k
  unfold fRepr at hf
  split at hf
  · cases w with
    | cons w1 w2 =>
      cases w2
      exact ⟨_, _, rfl, w1.dp, hf.1, k.d _ _ (.str _) hf.2⟩
  · exact hf.elim
def isB : String → D → Bool
  | "int", .int _ => true
  | "int", .bool _ => true
  | "bool", .bool _ => true
  | "str", .str _ => true
  | "list", .list _ => true
  | "tuple", .tuple _ => true
  | _, _ => false
def tyD : D → String
  | .none => "NoneType"
  | .bool _ => "bool"
  | .int _ => "int"
  | .str _ => "str"
  | .list _ => "list"
  | .tuple _ => "tuple"
  | .dict _ => "dict"
theorem Vw.ty {K : Fg} {H : Hp} {O : List Addr} {v : V} {d : D} (h : Vw K H O v d) : TyX K H v (.type (tyD d)) := by
  rcases h with h | ⟨p, vs, xs, e, e2, h1, h2⟩
  · cases h with
    | non => exact .base .non
    | bl b => exact .base (.bl b)
    | int i => exact .base (.int i)
    | str x => exact .base (.str x)
    | lst h r => exact .base (.lst h.1)
    | tup h r =>
      rcases h with ⟨o, h, _⟩ | ⟨h, _⟩
      · exact .fTuple h
      · rcases h with (h | ⟨_, h⟩) | ⟨o, its, n, h, hc, _⟩
        · cases h
        · cases h
        · exact .kTuple h hc
  · subst e e2
    exact .base (.lst h1)
structure IsT (T : String) : Prop where
  ok : ∀ d : D, kitB (tyD d) T = some (isB T d) ∨ ∃ k, d = .dict k
theorem isT_int : IsT "int" := ⟨fun d => by
  cases d with
  | none => exact .inl (show kitB "NoneType" "int" = some false by decide +kernel)
  | bool b => exact .inl (show kitB "bool" "int" = some true by decide +kernel)
  | int i => exact .inl (show kitB "int" "int" = some true by decide +kernel)
  | str x => exact .inl (show kitB "str" "int" = some false by decide +kernel)
  | list x => exact .inl (show kitB "list" "int" = some false by decide +kernel)
  | tuple x => exact .inl (show kitB "tuple" "int" = some false by decide +kernel)
  | dict k => exact .inr ⟨k, rfl⟩⟩
theorem isT_bool : IsT "bool" := ⟨fun d => by
  cases d with
  | none => exact .inl (show kitB "NoneType" "bool" = some false by decide +kernel)
  | bool b => exact .inl (show kitB "bool" "bool" = some true by decide +kernel)
  | int i => exact .inl (show kitB "int" "bool" = some false by decide +kernel)
  | str x => exact .inl (show kitB "str" "bool" = some false by decide +kernel)
  | list x => exact .inl (show kitB "list" "bool" = some false by decide +kernel)
  | tuple x => exact .inl (show kitB "tuple" "bool" = some false by decide +kernel)
  | dict k => exact .inr ⟨k, rfl⟩⟩
theorem isT_str : IsT "str" := ⟨fun d => by
  cases d with
  | none => exact .inl (show kitB "NoneType" "str" = some false by decide +kernel)
  | bool b => exact .inl (show kitB "bool" "str" = some false by decide +kernel)
  | int i => exact .inl (show kitB "int" "str" = some false by decide +kernel)
  | str x => exact .inl (show kitB "str" "str" = some true by decide +kernel)
  | list x => exact .inl (show kitB "list" "str" = some false by decide +kernel)
  | tuple x => exact .inl (show kitB "tuple" "str" = some false by decide +kernel)
  | dict k => exact .inr ⟨k, rfl⟩⟩
theorem isT_list : IsT "list" := ⟨fun d => by
  cases d with
  | none => exact .inl (show kitB "NoneType" "list" = some false by decide +kernel)
  | bool b => exact .inl (show kitB "bool" "list" = some false by decide +kernel)
  | int i => exact .inl (show kitB "int" "list" = some false by decide +kernel)
  | str x => exact .inl (show kitB "str" "list" = some false by decide +kernel)
  | list x => exact .inl (show kitB "list" "list" = some true by decide +kernel)
  | tuple x => exact .inl (show kitB "tuple" "list" = some false by decide +kernel)
  | dict k => exact .inr ⟨k, rfl⟩⟩
theorem isT_tuple : IsT "tuple" := ⟨fun d => by
  cases d with
  | none => exact .inl (show kitB "NoneType" "tuple" = some false by decide +kernel)
  | bool b => exact .inl (show kitB "bool" "tuple" = some false by decide +kernel)
  | int i => exact .inl (show kitB "int" "tuple" = some false by decide +kernel)
  | str x => exact .inl (show kitB "str" "tuple" = some false by decide +kernel)
  | list x => exact .inl (show kitB "list" "tuple" = some false by decide +kernel)
  | tuple x => exact .inl (show kitB "tuple" "tuple" = some true by decide +kernel)
  | dict k => exact .inr ⟨k, rfl⟩⟩
def fIsi (T : String) : F1 := fun d Q => Q (.d (.bool (isB T d)))
theorem nodict {K : Fg} {H : Hp} {O : List Addr} {v : V} {k : List (D × D)} (h : Vw K H O v (.dict k)) : False := by
  rcases h with h | ⟨p, vs, xs, e, e2, h1, h2⟩
  · cases h
  · cases e2
theorem de_isi {T : Str} {ts : String} {p2 : Pos} (hT : IsT ts) (hg : Gl X "isinstance") (hm : X.mg "isinstance" = none) (hg2 : Gl X T) (hm2 : X.mg T = none) (hv2 : bootBuiltins T = some (.type ts)) (he : DE X F e ta)
    (hs : starEach [e, .Name T p2] X.env = (false, eval e X.env) :: starEach [.Name T p2] X.env := by rfl) (hs2 : starEach [.Name T p2] X.env = (false, eval (.Name T p2) X.env) :: starEach [] X.env := by rfl)
    (hv : bootBuiltins "isinstance" = some (.builtin "isinstance") := by decide +kernel) (hn : T ≠ "__name__" := by decide) (hd : (T == ("__debug__" : Str)) = false := by decide) (hpl : (backTo pos (starEach [.Name T p2] X.env)).any (·.1) = false := by rfl) :
    DE X F (.Call (.Name "isinstance" p) [e, .Name T p2] [] pos) (dOp1 (fIsi ts) ta) :=
  PE_imp (pe_callB call_isi hg hm hv (pa_cons he (pa_cons (pe_bltn (v := .ty ts) hg2 hm2 hv2 rfl hn hd) pa_nil hs2) hs) (by decide) (by decide) hs hpl) fun σ H Q ⟨O, ds, Qa, R, ht, hq⟩ => ⟨O, ds, _, R, ht, fun x ds1 v H1 O1 s1 R1 rx hx => by
    split at hx
    · rename_i d e1
      have w := RpV.vw R1 rx e1
      refine ⟨v, .ty ts, .type (tyD d), .type ts, isB ts d, rfl, .ty ts, w.ty, ?_, (mkCont R s1 R1 hq).d _ _ (.bl _) hx⟩
      rcases hT.ok d with h | ⟨k, h⟩
      · exact kit_ty h
      · subst h; exact (nodict w).elim
    · exact hx.elim⟩
end
section
variable {X : Cx} {F : Fx} {e a b c : Expr} {es : List Expr} {ta tb tc : DTE} {tA : DTA} {pos p : Pos}
structure BlD (X : Cx) (v : Value) (f : FN) : Prop where
  ex : ∃ r : List V → Hp → VK → Prop, CallR X v r ∧ CallD X.K r f
theorem de_bl' {x : Str} {id : String} {f : FN} (h : BlD X (.builtin id) f) (hg : Gl X x) (hm : X.mg x = none) (hv : bootBuiltins x = some (.builtin id)) (ha : DA X F (e :: es) tA) (hn : x ≠ "__name__" := by decide) (hdb : (x == ("__debug__" : Str)) = false := by decide)
    (he : starEach (e :: es) X.env = (false, eval e X.env) :: starEach es X.env := by rfl) (hpl : (backTo pos (starEach es X.env)).any (·.1) = false := by rfl) : DE X F (.Call (.Name x p) (e :: es) [] pos) (dCB f tA) := by
  obtain ⟨r, h1, h2⟩ := h.ex
  exact de_cb (pe_callB h1 hg hm hv ha hn hdb he hpl) h2
theorem de_ty {x : Str} {T : String} {f : FN} (h : BlD X (.type T) f) (hg : Gl X x) (hm : X.mg x = none) (hv : bootBuiltins x = some (.type T)) (ha : DA X F (e :: es) tA) (hn : x ≠ "__name__" := by decide) (hdb : (x == ("__debug__" : Str)) = false := by decide)
    (he : starEach (e :: es) X.env = (false, eval e X.env) :: starEach es X.env := by rfl) (hpl : (backTo pos (starEach es X.env)).any (·.1) = false := by rfl) : DE X F (.Call (.Name x p) (e :: es) [] pos) (dCB f tA) := by
  obtain ⟨r, h1, h2⟩ := h.ex
  exact de_cb (pe_callTy h1 hg hm hv ha hn hdb he hpl) h2
theorem vw1 {K : Fg} {H : Hp} {O : List Addr} {vs : List V} {d : D} (w : VwL K H O vs [d]) : ∃ v, vs = [v] ∧ Vw K H O v d := by
  cases w with
  | cons w1 w2 => cases w2; exact ⟨_, rfl, w1⟩
theorem vw2 {K : Fg} {H : Hp} {O : List Addr} {vs : List V} {d e : D} (w : VwL K H O vs [d, e]) : ∃ v u, vs = [v, u] ∧ Vw K H O v d ∧ Vw K H O u e := by
  cases w with
  | cons w1 w2 =>
    obtain ⟨u, e, w3⟩ := vw1 w2
    subst e
    exact ⟨_, _, rfl, w1, w3⟩
theorem bd_repr (hr : ∃ k, RoomG k X.A) : BlD X (.builtin "repr") fRepr := ⟨_, call_reprD hr, cad_repr⟩
def fLen : FN := fun ds Q => match ds with
  | [.list xs] => Q (.d (.int xs.length))
  | [.tuple xs] => Q (.d (.int xs.length))
  | [.str z] => z.length ≤ 16777216 ∧ Q (.d (.int z.length))
  | _ => False
theorem CallR_or {X : Cx} {v : Value} {r r' : List V → Hp → VK → Prop} (h : CallR X v r) (h' : CallR X v r') : CallR X v (fun xs H Q => r xs H Q ∨ r' xs H Q) := by
  intro pins s σ H xs us Q I rs q
  rcases q with q | q
  · exact h pins s σ H xs us Q I rs q
  · exact h' pins s σ H xs us Q I rs q
theorem bd_len : BlD X (.builtin "len") fLen := ⟨_, CallR_or call_len_seq call_len_str, by
  intro H O xs ds Qa Q lo w hf k
  unfold fLen at hf
  split at hf
  · obtain ⟨v, e, w⟩ := vw1 w
    obtain ⟨p, vs, e1, h1, r1⟩ := w.list
    subst e e1
    exact .inl ⟨p, vs, rfl, .inl (.inl (.inl h1)), k.d _ _ (.int _) (by rw [r1.length]; exact hf)⟩
  · obtain ⟨v, e, w⟩ := vw1 w
    obtain ⟨p, vs, e1, h1, r1⟩ := w.tuple
    subst e e1
    exact .inl ⟨p, vs, rfl, .inr h1, k.d _ _ (.int _) (by rw [r1.length]; exact hf)⟩
  · obtain ⟨v, e, w1⟩ := vw1 w
    subst e
    exact .inr ⟨_, by rw [w1.str], by rw [sizeLine_eq]; exact hf.1, k.d _ _ (.int _) hf.2⟩
  · exact hf.elim⟩
def fAbs : FN := fun ds Q => match ds with
  | [.int i] => Q (.d (.int (if i < 0 then -i else i)))
  | _ => False
theorem bd_abs : BlD X (.builtin "abs") fAbs := ⟨_, call_abs, by
  intro H O xs ds Qa Q lo w hf k
  unfold fAbs at hf
  split at hf
  · obtain ⟨v, e, w1⟩ := vw1 w
    subst e
    exact ⟨_, by rw [w1.int], k.d _ _ (.int _) hf⟩
  · exact hf.elim⟩
def fMin : FN := fun ds Q => match ds with
  | [.int i, .int j] => Q (.d (.int (if j < i then j else i)))
  | [.list xs] => someD (intsD xs) fun ns => 0 < ns.length ∧ ∀ m, m ∈ ns → (∀ y, y ∈ ns → m ≤ y) → Q (.d (.int m))
  | _ => False
def fMax : FN := fun ds Q => match ds with
  | [.int i, .int j] => Q (.d (.int (if j > i then j else i)))
  | [.list xs] => someD (intsD xs) fun ns => 0 < ns.length ∧ ∀ m, m ∈ ns → (∀ y, y ∈ ns → y ≤ m) → Q (.d (.int m))
  | _ => False
theorem bd_min (hc : X.calm = true) : BlD X (.builtin "min") fMin := ⟨_, CallR_or (call_min2 hc) (cr_min hc), by
  intro H O xs ds Qa Q lo w hf k
  unfold fMin at hf
  split at hf
  · obtain ⟨v, u, e, w1, w2⟩ := vw2 w
    subst e
    exact .inl ⟨_, _, by rw [w1.int, w2.int], k.d _ _ (.int _) hf⟩
  · rename_i xs
    cases e : intsD xs with
    | none => rw [e] at hf; exact hf.elim
    | some ns =>
      rw [e] at hf
      obtain ⟨v, ev, w⟩ := vw1 w
      obtain ⟨p, vs, e1, h1, r1⟩ := w.list
      subst ev e1
      rw [intsD_ok e] at r1
      have er := r1.ints
      subst er
      exact .inr ⟨p, ns, rfl, .inl (.inl h1), hf.1, fun m h1 h2 => k.d _ _ (.int _) (hf.2 m h1 h2)⟩
  · exact hf.elim⟩
theorem bd_max (hc : X.calm = true) : BlD X (.builtin "max") fMax := ⟨_, CallR_or (call_max2 hc) (cr_max hc), by
  intro H O xs ds Qa Q lo w hf k
  unfold fMax at hf
  split at hf
  · obtain ⟨v, u, e, w1, w2⟩ := vw2 w
    subst e
    exact .inl ⟨_, _, by rw [w1.int, w2.int], k.d _ _ (.int _) hf⟩
  · rename_i xs
    cases e : intsD xs with
    | none => rw [e] at hf; exact hf.elim
    | some ns =>
      rw [e] at hf
      obtain ⟨v, ev, w⟩ := vw1 w
      obtain ⟨p, vs, e1, h1, r1⟩ := w.list
      subst ev e1
      rw [intsD_ok e] at r1
      have er := r1.ints
      subst er
      exact .inr ⟨p, ns, rfl, .inl (.inl h1), hf.1, fun m h1 h2 => k.d _ _ (.int _) (hf.2 m h1 h2)⟩
  · exact hf.elim⟩
def fSum : FN := fun ds Q => match ds with
  | [.list xs] => someD (intsD xs) fun ns => Q (.d (.int ns.sum))
  | _ => False
theorem bd_sum (hc : X.calm = true) : BlD X (.builtin "sum") fSum := ⟨_, cr_sum hc, by
  intro H O xs ds Qa Q lo w hf k
  unfold fSum at hf
  split at hf
  · rename_i xs
    cases e : intsD xs with
    | none => rw [e] at hf; exact hf.elim
    | some ns =>
      rw [e] at hf
      obtain ⟨v, ev, w⟩ := vw1 w
      obtain ⟨p, vs, e1, h1, r1⟩ := w.list
      subst ev e1
      rw [intsD_ok e] at r1
      have er := r1.ints
      subst er
      exact ⟨p, ns, rfl, .inl (.inl h1), k.d _ _ (.int _) hf⟩
  · exact hf.elim⟩
def fAll : FN := fun ds Q => match ds with
  | [.list xs] => someD (boolsD xs) fun bs => Q (.d (.bool (bs.all id)))
  | _ => False
theorem bd_all (hc : X.calm = true) : BlD X (.builtin "all") fAll := ⟨_, cr_all hc, by
  intro H O xs ds Qa Q lo w hf k
  unfold fAll at hf
  split at hf
  · rename_i xs
    cases e : boolsD xs with
    | none => rw [e] at hf; exact hf.elim
    | some ns =>
      rw [e] at hf
      obtain ⟨v, ev, w⟩ := vw1 w
      obtain ⟨p, vs, e1, h1, r1⟩ := w.list
      subst ev e1
      rw [boolsD_ok e] at r1
      have er := r1.bools
      subst er
      exact ⟨p, ns, rfl, .inl (.inl h1), k.d _ _ (.bl _) hf⟩
  · exact hf.elim⟩
def fSorted : FN := fun ds Q => match ds with
  | [.list xs] => someD (intsD xs) fun ns => ∀ ns' : List Int, ns'.Perm ns → ns'.Pairwise (· ≤ ·) → Q (.own (ns'.map PyData.int))
  | _ => False
theorem bd_sorted : BlD X (.builtin "sorted") fSorted := ⟨_, cr_sortedI, by
  intro H O xs ds Qa Q lo w hf k
  unfold fSorted at hf
  split at hf
  · rename_i xs
    cases e : intsD xs with
    | none => rw [e] at hf; exact hf.elim
    | some ns =>
      rw [e] at hf
      obtain ⟨v, ev, w⟩ := vw1 w
      obtain ⟨p, vs, e1, h1, r1⟩ := w.list
      subst ev e1
      rw [intsD_ok e] at r1
      have er := r1.ints
      subst er
      exact ⟨p, ns, rfl, .inl (.inl h1), fun ns' q hp hs hq => k.lst q _ _ hq rpl_ints (hf ns' hp hs)⟩
  · exact hf.elim⟩
def fInt : FN := fun ds Q => match ds with
  | [.int i] => Q (.d (.int i))
  | [.bool b] => Q (.d (.int (if b then 1 else 0)))
  | _ => False
theorem bd_int : BlD X (.type "int") fInt := ⟨_, call_int1, by
  intro H O xs ds Qa Q lo w hf k
  unfold fInt at hf
  split at hf
  · obtain ⟨v, e, w1⟩ := vw1 w
    subst e
    exact .inl ⟨_, by rw [w1.int], k.d _ _ (.int _) hf⟩
  · obtain ⟨v, e, w1⟩ := vw1 w
    subst e
    exact .inr ⟨_, by rw [w1.bool], k.d _ _ (.int _) hf⟩
  · exact hf.elim⟩
def fList : FN := fun ds Q => match ds with
  | [.list xs] => Q (.own xs)
  | [.tuple xs] => Q (.own xs)
  | _ => False
theorem bd_list : BlD X (.type "list") fList := ⟨_, call_list_of, by
  intro H O xs ds Qa Q lo w hf k
  unfold fList at hf
  split at hf
  · obtain ⟨v, e, w⟩ := vw1 w
    obtain ⟨p, vs, e1, h1, r1⟩ := w.list
    subst e e1
    exact ⟨p, vs, rfl, .inl (.inl (.inl h1)), fun l hl => k.lst l _ _ hl r1 hf⟩
  · obtain ⟨v, e, w⟩ := vw1 w
    obtain ⟨p, vs, e1, h1, r1⟩ := w.tuple
    subst e e1
    exact ⟨p, vs, rfl, .inr h1, fun l hl => k.lst l _ _ hl r1 hf⟩
  · exact hf.elim⟩
def rTupF (K : Fg) : List V → Hp → VK → Prop := fun xs H Q => ∃ p ys, xs = [.ref p] ∧ ((SqL K H p ys ∧ ∀ l o, H l = none → o.dict = none → Q (.ref l) (upd H l (.frz o (.tup ys)))) ∨ (SqT K H p ys ∧ Q (.ref p) H))
theorem call_tupF : CallR X (.type "tuple") (rTupF X.K) := by
  intro pins s σ H xs us Q I r h
  obtain ⟨p, ys, ex, h⟩ := h
  subst ex
  obtain ⟨u, eu, rx⟩ := vals1 r
  subst eu
  cases rx
  rcases h with ⟨hq, q⟩ | ⟨hq, q⟩
  · obtain ⟨its, r', pl, hz⟩ := I.list hq
    have hn := r'.length
    refine call_tuple_list pl.isList (fun h' kp => ?_) (by simpa using hn ▸ hz)
    have I1 := I.kept (t' := s.toks) kp
    have g := Heap.get?_push_size h' (o := { cls := .type "tuple", data := .seq its.toArray }) rfl
    exact ⟨.ref h'.objs.size, _, I1.laid (o := .frz { cls := .type "tuple", data := .seq its.toArray } (.tup ys)) (t' := s.toks) (fun b o e => Heap.get?_push_of_some _ e) (Nat.le_refl _) ⟨g, hz, its, r', _, g, rfl, _, rfl⟩, rfl, q _ _ I1.fresh rfl⟩
  · obtain ⟨its, r', pl, hz⟩ := I.tuple hq
    exact call_tuple_same pl ⟨.ref p, H, I, rfl, q⟩
def fTuple : FN := fun ds Q => match ds with
  | [.list xs] => Q (.d (.tuple xs))
  | [.tuple xs] => Q (.d (.tuple xs))
  | _ => False
theorem bd_tuple : BlD X (.type "tuple") fTuple := ⟨_, call_tupF, by
  intro H O xs ds Qa Q lo w hf k
  unfold fTuple at hf
  split at hf
  · obtain ⟨v, e, w⟩ := vw1 w
    obtain ⟨p, vs, e1, h1, r1⟩ := w.list
    subst e e1
    exact ⟨p, vs, rfl, .inl ⟨.inl (.inl h1), fun l o hl ho => k.tup l o _ _ hl ho r1 hf⟩⟩
  · obtain ⟨v, e, w1⟩ := vw1 w
    obtain ⟨p, vs, e1, h1, r1⟩ := w1.tuple
    subst e e1
    exact ⟨p, vs, rfl, .inr ⟨h1, k.d _ _ w1.rp hf⟩⟩
  · exact hf.elim⟩
def fIsi2 (T U : String) : F1 := fun d Q => Q (.d (.bool (isB T d || isB U d)))
theorem kit_two {K : Fg} {t : Value} {a b : String} {x y : Bool} (h1 : PySem.W.kitOne K t (.type a) = some x) (h2 : PySem.W.kitOne K t (.type b) = some y) : PySem.W.kitAny K t [.type a, .type b] = some (x || y) := by
  cases x with
  | true => exact kitAny_cons h1 (fun z => by cases z) fun _ => rfl
  | false =>
    refine kitAny_cons h1 (fun _ => ?_) fun z => by cases z
    cases y with
    | true => exact kitAny_cons h2 (fun z => by cases z) fun _ => rfl
    | false => exact kitAny_cons h2 (fun _ => rfl) fun z => by cases z
theorem de_isi2 {T U : Str} {ts us : String} {p2 p3 p4 : Pos} {x1} (hT : IsT ts) (hU : IsT us) (hg : Gl X "isinstance") (hm : X.mg "isinstance" = none) (hg2 : Gl X T) (hm2 : X.mg T = none) (hv2 : bootBuiltins T = some (.type ts)) (hg3 : Gl X U) (hm3 : X.mg U = none) (hv3 : bootBuiltins U = some (.type us)) (he : DE X F e ta)
    (hs : starEach [e, .Tuple [.Name T p2, .Name U p3] x1 p4] X.env = (false, eval e X.env) :: starEach [.Tuple [.Name T p2, .Name U p3] x1 p4] X.env := by rfl) (hs2 : starEach [.Tuple [.Name T p2, .Name U p3] x1 p4] X.env = (false, eval (.Tuple [.Name T p2, .Name U p3] x1 p4) X.env) :: starEach [] X.env := by rfl)
    (hs3 : starEach [.Name T p2, .Name U p3] X.env = (false, eval (.Name T p2) X.env) :: starEach [.Name U p3] X.env := by rfl) (hs4 : starEach [.Name U p3] X.env = (false, eval (.Name U p3) X.env) :: starEach [] X.env := by rfl)
    (hv : bootBuiltins "isinstance" = some (.builtin "isinstance") := by decide +kernel) (hn : T ≠ "__name__" := by decide) (hd : (T == ("__debug__" : Str)) = false := by decide) (hn' : U ≠ "__name__" := by decide) (hd' : (U == ("__debug__" : Str)) = false := by decide)
    (hpl : (backTo pos (starEach [.Tuple [.Name T p2, .Name U p3] x1 p4] X.env)).any (·.1) = false := by rfl) :
    DE X F (.Call (.Name "isinstance" p) [e, .Tuple [.Name T p2, .Name U p3] x1 p4] [] pos) (dOp1 (fIsi2 ts us) ta) :=
  PE_imp (pe_callB call_isiT hg hm hv (pa_cons he (pa_cons (pe_tup (pa_cons (pe_bltn (v := .ty ts) hg2 hm2 hv2 rfl hn hd) (pa_cons (pe_bltn (v := .ty us) hg3 hm3 hv3 rfl hn' hd') pa_nil hs4) hs3)) pa_nil hs2) hs) (by decide) (by decide) hs hpl) fun σ H Q ⟨O, ds, Qa, R, ht, hq⟩ => ⟨O, ds, _, R, ht, fun x ds1 v H1 O1 s1 R1 rx hx => by
    split at hx
    · rename_i d e1
      refine ⟨(show 2 ≤ sizeLine by decide), fun q hq' => ?_⟩
      have sm := same_new (o := .tup [.ty ts, .ty us]) hq'
      have R2 := R1.grow sm grow_refl (fun _ h => h) (lo_same R1.lo sm)
      have s2 : Step σ H1 O1 ds1 _ O1 ds1 := Step.grow sm grow_refl fun _ h => h
      have w := RpV.vw R2 (RpV.step R1 (s1.mutO R) rx s2) e1
      have kt : ∀ {T : String}, IsT T → PySem.W.kitOne X.K (.type (tyD d)) (.type T) = some (isB T d) := fun {T} hT => by
        rcases hT.ok d with h | ⟨k, h⟩
        · exact kit_ty h
        · subst h; exact (nodict w).elim
      exact ⟨v, q, [.ty ts, .ty us], .type (tyD d), [.type ts, .type us], _, rfl, upd_same, .cons (.ty ts) (.cons (.ty us) .nil), w.ty, kit_two (kt hT) (kt hU), (mkCont R (s1.trans s2) R2 hq).d _ _ (.bl _) hx⟩
    · exact hx.elim⟩
end
section
variable {K : Fg} {F : Fx} {H : Hp} {O : List Addr} {σ : St} {ds : DS}
theorem Rep.updO (R : Rep K F H O σ ds) {i : Nat} {p : Addr} {xs ys : List D} {ws : List V} (h1 : σ[i]? = some (some (.ref p))) (h2 : ds.sl[i]? = some (some (.own xs))) (hl : RpL K H O ws ys) :
    Rep K F (upd H p (.lst ws)) O σ ⟨ds.sl.set i (some (.own ys)), ds.n⟩ ∧ Step σ H O ds (upd H p (.lst ws)) O ⟨ds.sl.set i (some (.own ys)), ds.n⟩ := by
  obtain ⟨w, e, q, vs, e2, hO, hH, _⟩ := R.sl i _ h2
  rw [h1] at e; cases e; cases e2
  have hlen : i < ds.sl.length := (List.getElem?_eq_some_iff.mp h2).1
  have mi : MutAt σ ds i p := (mutAt (h1) h2 trivial)
  have pn := R.newO i p xs h1 h2
  have nb : ∀ q ∈ F.B, q ≠ p := fun q hq z => R.fo q (R.bo q hq) (z ▸ pn)
  have kp : Keep O H (upd H p (.lst ws)) := fun a o h n => by rw [upd_ne (fun z : a = p => n (z ▸ hO))]; exact h
  have dm : ∀ a, H a ≠ none → upd H p (.lst ws) a ≠ none := fun a h => by
    by_cases z : a = p
    · subst z; rw [upd_same]; simp
    · rw [upd_ne z]; exact h
  have mut_of : ∀ j q, MutAt σ ⟨ds.sl.set i (some (.own ys)), ds.n⟩ j q → MutAt σ ds j q := fun j q ⟨a0, a, dv, b, c, ce⟩ => by
    rcases sl_set_of b with ⟨e1, e2⟩ | ⟨e1, e2⟩
    · subst e1 e2
      rw [h1] at a; cases a
      rcases ce with rfl | ce
      · exact mi
      · cases ce
    · exact ⟨a0, a, dv, e2, c, ce⟩
  have box_of : ∀ j q, BoxS σ ⟨ds.sl.set i (some (.own ys)), ds.n⟩ j q → BoxS σ ds j q := fun j q ⟨a, b⟩ => by
    rcases sl_set_of b with ⟨e1, e2⟩ | ⟨e1, e2⟩
    · cases e2
    · exact ⟨a, e2⟩
  refine ⟨⟨fun q hq => ?_, R.sub, fun a o h n => ?_, fun j dv hj => ?_, fun j k q a b => R.mu j k q (mut_of j q a) (mut_of k q b), fun j q a => R.new j q (mut_of j q a), fun j q zs a b => ?_, fun q hq => ?_, fun j q hb => R.bu j q (box_of j q hb), fun j k q r a b => R.b1 j k q r (box_of j q a) (box_of k r b), R.fo, R.bo, by simpa using R.len, fun j c a q h hm => ?_⟩,
    ⟨grow_refl, fun q hq _ => hq, fun a o h n => ?_, dm, fun j dv hj => ?_, mut_of, box_of⟩⟩
  · by_cases z : q = p
    · subst z; exact ⟨_, upd_same, rfl⟩
    · rw [upd_ne z]; exact R.lo q hq
  · rw [upd_ne (fun z : a = p => by subst z; rw [pn] at h; cases h)]
    exact R.ext a o h n
  · rcases sl_set_of hj with ⟨e1, e2⟩ | ⟨e1, e2⟩
    · subst e1 e2
      exact ⟨_, h1, p, ws, rfl, hO, upd_same, RpL.mv R.lo kp grow_refl hl⟩
    · obtain ⟨w, ew, r⟩ := R.sl j dv e2
      refine ⟨w, ew, ?_⟩
      cases dv with
      | exc xa xb => exact ExS.mv R.lo kp grow_refl r
      | fd xc => exact FdS.mv R.lo kp grow_refl r
      | d x => exact Rp.mv R.lo kp grow_refl r
      | own zs =>
        obtain ⟨q, us, e3, a1, a2, a3⟩ := r
        subst e3
        refine ⟨q, us, rfl, a1, ?_, RpL.mv R.lo kp grow_refl a3⟩
        rw [upd_ne (fun z : q = p => e1 (R.mu i j q (z ▸ mi) (mutAt (ew) e2 trivial)))]; exact a2
      | box =>
        obtain ⟨q, e3, a1, x, y, c, a2, a3⟩ := r
        subst e3
        refine ⟨q, rfl, a1, x, y, c, ?_, a3⟩
        rw [upd_ne (fun z : q = p => e1 (R.mu i j q (z ▸ mi) (mutAt (ew) e2 trivial)))]; exact a2
      | mu c q =>
        obtain ⟨e3, a1, a2⟩ := r
        subst e3
        exact ⟨rfl, a1, MuAt.mv R.lo kp grow_refl (fun u hu o ho => by rw [upd_ne (fun z : u = p => e1 (R.mu i j u (z ▸ mi) (mutAtM ew e2 hu)))]; exact ho) a2⟩
      | slot k => exact r
  · rcases sl_set_of b with ⟨e1, e2⟩ | ⟨e1, e2⟩
    · subst e1
      rw [h1] at a; cases a
      exact pn
    · exact R.newO j q zs a e2
  · rcases R.bx q hq with h | ⟨x, y, c, h, r⟩
    · exact .inl h
    · exact .inr ⟨x, y, c, by rw [upd_ne (nb q hq)]; exact h, r⟩
  · rcases sl_set_of h with ⟨e1, e2⟩ | ⟨e1, e2⟩
    · cases e2
    · exact R.nm j c a q e2 (mut_of j q hm)
  · rw [upd_ne (fun z : a = p => n i (z ▸ mi))]; exact h
  · by_cases ej : i = j
    · subst ej
      exact ⟨.own ys, by rw [List.getElem?_set_self hlen]⟩
    · exact ⟨dv, by rw [List.getElem?_set_ne ej]; exact hj⟩
end
section
variable {X : Cx} {F : Fx} {e a b c o : Expr} {es : List Expr} {ta tb tc : DTE} {tA : DTA} {pos p apos cpos : Pos}
abbrev GM := List D → List D → (DV → List D → Prop) → Prop
def MutD (K : Fg) (r : V → List V → Hp → VK → Prop) (g : GM) : Prop := ∀ (H : Hp) (O : List Addr) (q : Addr) (vs avs : List V) (xs as : List D) (G : DV → List D → Prop) (Q : VK),
  H q = some (.lst vs) → RpL K H O vs xs → RpL K H O avs as → g xs as G → (∀ v x vs' xs', Rp K H O v x → RpL K H O vs' xs' → G (.d x) xs' → Q v (upd H q (.lst vs'))) → r (.ref q) avs H Q
def dMut (i : Nat) (g : GM) (tA : DTA) : DTE := fun ds Q => match ds.sl[i]? with
  | some (some (.own _)) => tA ds fun ys ds1 => match frzL ds1 ys with
    | some (as, ds2) => match ds2.sl[i]? with
      | some (some (.own xs)) => g xs as fun r xs' => Q r ⟨ds2.sl.set i (some (.own xs')), ds2.n⟩
      | _ => False
    | none => False
  | _ => False
theorem mut_end {K : Fg} {H H2 : Hp} {O O2 : List Addr} {σ : St} {ds ds2 : DS} {i : Nat} {q : Addr} {avs : List V} {xs as : List D} {r : V → List V → Hp → VK → Prop} {g : GM} {Qa : DV → DS → Prop} {Q : VK} (hm : MutD K r g) (R : Rep K F H O σ ds) (s2 : Step σ H O ds H2 O2 ds2) (R2 : Rep K F H2 O2 σ ds2)
    (h1 : σ[i]? = some (some (.ref q))) (h2 : ds2.sl[i]? = some (some (.own xs))) (ra : RpL K H2 O2 avs as) (hg : g xs as fun r xs' => Qa r ⟨ds2.sl.set i (some (.own xs')), ds2.n⟩)
    (hq : ∀ dv ds' v H' O', Step σ H O ds H' O' ds' → Rep K F H' O' σ ds' → RpV K F H' O O' σ ds' v dv → Qa dv ds' → Q v H') : r (.ref q) avs H2 Q := by
  obtain ⟨w, e, q', vs, e2, hO, hH, hL⟩ := R2.sl i _ h2
  rw [h1] at e; cases e; cases e2
  refine hm H2 O2 q vs avs xs as _ Q hH hL ra hg fun v x vs' xs' rv rl hG => ?_
  obtain ⟨R3, s3⟩ := R2.updO h1 h2 rl
  exact hq (.d x) _ v _ O2 (s2.trans s3) R3 (Rp.mv R2.lo (s3.keepO R2) s3.o1 rv) hG
theorem de_mut {i : Nat} {r : V → List V → Hp → VK → Prop} {g : GM} (h : PE X e (tBM X.K "list" r (tVar i) (liftA X.K F tA))) (hm : MutD X.K r g) : DE X F e (dMut i g tA) := PE_imp h fun σ H Q ⟨O, ds, Qa, R, ht, hq⟩ => by
  unfold dMut at ht
  split at ht
  · rename_i xs0 e0
    obtain ⟨v, ev, q, vs, e2, hO, hH, hL⟩ := R.sl i _ e0
    subst e2
    refine ⟨_, ev, .inl ⟨rfl, _, .inl (.inl hH)⟩, O, ds, _, R, ht, fun ys ds1 avs H1 O1 s1 R1 rx hx => ?_⟩
    split at hx
    · rename_i as ds2 ef
      obtain ⟨O2, s2, R2, rl, _⟩ := frzL_ok R s1 R1 rx ef
      split at hx
      · rename_i xs ex
        exact mut_end hm R s2 R2 ev ex rl hx hq
      · exact hx.elim
    · exact hx.elim
  · exact ht.elim
def gAppend : GM := fun xs as G => match as with
  | [y] => xs.length < 16777216 ∧ G (.d .none) (xs ++ [y])
  | _ => False
theorem mu_append {K : Fg} : MutD K rAppend gAppend := by
  intro H O q vs avs xs as G Q hq rl ra hg k
  unfold gAppend at hg
  split at hg
  · cases ra with
    | cons r1 r2 =>
      cases r2
      exact ⟨q, vs, _, rfl, rfl, hq, by rw [rl.length, sizeLine_eq]; exact hg.1, k _ _ _ _ .non (rl.append (RpL.one r1)) hg.2⟩
  · exact hg.elim
def gExtend : GM := fun xs as G => match as with
  | [.list ys] => xs.length + ys.length ≤ 16777216 ∧ G (.d .none) (xs ++ ys)
  | _ => False
theorem mu_extend {K : Fg} : MutD K rExtend gExtend := by
  intro H O q vs avs xs as G Q hq rl ra hg k
  unfold gExtend at hg
  split at hg
  · cases ra with
    | cons r1 r2 =>
      cases r2
      cases r1 with
      | lst h r => exact ⟨q, _, vs, _, rfl, rfl, hq, h.1, by rw [rl.length, r.length, sizeLine_eq]; exact hg.1, k _ _ _ _ .non (rl.append r) hg.2⟩
  · exact hg.elim
def gPopAt : GM := fun xs as G => match as with
  | [.int i] => someD (ixN xs.length i) fun j => someD xs[j]? fun y => xs.length ≤ 16777216 ∧ G (.d y) (xs.eraseIdx j)
  | _ => False
theorem mu_popAt {K : Fg} : MutD K rPopAt gPopAt := by
  intro H O q vs avs xs as G Q hq rl ra hg k
  unfold gPopAt at hg
  split at hg
  · rename_i i
    cases ra with
    | cons r1 r2 =>
      cases r2
      cases r1
      cases e : ixN xs.length i with
      | none => rw [e] at hg; exact hg.elim
      | some j =>
        rw [e] at hg
        have hg : someD xs[j]? fun y => xs.length ≤ 16777216 ∧ G (.d y) (xs.eraseIdx j) := hg
        cases e2 : xs[j]? with
        | none => rw [e2] at hg; exact hg.elim
        | some y =>
          rw [e2] at hg
          obtain ⟨hz, hg⟩ := hg
          obtain ⟨v, h1, h2⟩ := rl.get e2
          obtain ⟨a1, a2, a3, a4⟩ := ixN_seq e
          exact ⟨q, vs, i, j, v, rfl, rfl, hq, by omega, by omega, by rw [rl.length]; exact a1, h1, k _ _ _ _ h2 (rl.erase j) hg⟩
  · exact hg.elim
theorem de_append {i : Nat} (ho : PE X o (tVar i)) (ha : DA X F [e] tA) (hbase : attributeBase o "append" X.env (eval o X.env) = eval o X.env := by rfl)
    (hfew : ((backTo cpos (starEach [e] X.env)).all (fun x => !x.1) && (backToKw cpos (keywordEach [] X.env)).all (fun x => x.1.isSome) && decide ([e].length + ([] : List Keyword).length + (if ([] : List Keyword).isEmpty then 0 else 1) < 30)) = true := by rfl)
    (hline : (apos.endLine == cpos.line) = true := by rfl) (hs : starEach [e] X.env = (false, eval e X.env) :: starEach [] X.env := by rfl) (hplain : (backTo cpos (starEach [] X.env)).any (·.1) = false := by rfl) :
    DE X F (.Call (.Attribute o "append" apos) [e] [] cpos) (dMut i gAppend tA) :=
  de_mut (pe_bm PySem.F.plainAttrs_list PySem.F.slot_list_append PySem.F.type_list_append mt_append ho ha hbase hfew hline hs hplain) mu_append
theorem de_extend {i : Nat} (ho : PE X o (tVar i)) (ha : DA X F [e] tA) (hbase : attributeBase o "extend" X.env (eval o X.env) = eval o X.env := by rfl)
    (hfew : ((backTo cpos (starEach [e] X.env)).all (fun x => !x.1) && (backToKw cpos (keywordEach [] X.env)).all (fun x => x.1.isSome) && decide ([e].length + ([] : List Keyword).length + (if ([] : List Keyword).isEmpty then 0 else 1) < 30)) = true := by rfl)
    (hline : (apos.endLine == cpos.line) = true := by rfl) (hs : starEach [e] X.env = (false, eval e X.env) :: starEach [] X.env := by rfl) (hplain : (backTo cpos (starEach [] X.env)).any (·.1) = false := by rfl) :
    DE X F (.Call (.Attribute o "extend" apos) [e] [] cpos) (dMut i gExtend tA) :=
  de_mut (pe_bm PySem.F.plainAttrs_list PySem.F.slot_list_extend PySem.F.type_list_extend mt_extend ho ha hbase hfew hline hs hplain) mu_extend
theorem de_popAt {i : Nat} (ho : PE X o (tVar i)) (ha : DA X F [e] tA) (hbase : attributeBase o "pop" X.env (eval o X.env) = eval o X.env := by rfl)
    (hfew : ((backTo cpos (starEach [e] X.env)).all (fun x => !x.1) && (backToKw cpos (keywordEach [] X.env)).all (fun x => x.1.isSome) && decide ([e].length + ([] : List Keyword).length + (if ([] : List Keyword).isEmpty then 0 else 1) < 30)) = true := by rfl)
    (hline : (apos.endLine == cpos.line) = true := by rfl) (hs : starEach [e] X.env = (false, eval e X.env) :: starEach [] X.env := by rfl) (hplain : (backTo cpos (starEach [] X.env)).any (·.1) = false := by rfl) :
    DE X F (.Call (.Attribute o "pop" apos) [e] [] cpos) (dMut i gPopAt tA) :=
  de_mut (pe_bm PySem.F.plainAttrs_list PySem.F.slot_list_pop PySem.F.type_list_pop mt_popAt ho ha hbase hfew hline hs hplain) mu_popAt
def dSetIx (k : Nat) (ti te : DTE) : DTS := fun E ds => te ds fun y ds1 => match ds1.sl[k]? with
  | some (some (.own _)) => ti ds1 fun x ds2 => match frz ds2 y with
    | some (d, ds3) => match ds3.sl[k]?, peek ds3 x with
      | some (some (.own xs)), some (.int i) => someD (ixN xs.length i) fun j => E.nx ⟨ds3.sl.set k (some (.own (xs.set j d))), ds3.n⟩
      | _, _ => False
    | none => False
  | _ => False
theorem ds_setIx {k : Nat} {st : Stmt} {ti te : DTE} (h : PS X st (tAsg (lift X.K F te) (gSub (tVar k) (lift X.K F ti) rSetL))) : DSt X F st (dSetIx k ti te) := PS_imp h fun D σ H ⟨O, ds, E, R, ht, kk⟩ =>
  ⟨O, ds, _, R, ht, fun y ds1 v H1 O1 s1 R1 ry hy => by
    split at hy
    · rename_i xs0 e0
      obtain ⟨w, ew, q, vs0, e2, hO, hH, hL⟩ := R1.sl k _ e0
      subst e2
      refine ⟨_, ew, O1, ds1, _, R1, hy, fun x ds2 u H2 O2 s2 R2 rx hx => ?_⟩
      have ry2 := RpV.step R1 (s1.mutO R) ry s2
      have s12 := s1.trans s2
      split at hx
      · rename_i d ds3 ef
        obtain ⟨O3, s3, R3, rd, _, oth⟩ := frz_ok R s12 R2 ry2 ef
        have rxO := RpV.old rx (Step.gone R s1 s2)
        split at hx
        · rename_i xs i ek ei
          cases ej : ixN xs.length i with
          | none => rw [ej] at hx; exact hx.elim
          | some j =>
            rw [ej] at hx
            have ei2 : ∀ dx, peek ds3 dx = some (.int i) → ∀ {O'' : List Addr}, RpV X.K F H2 O O2 σ ds2 u dx → u = .int i := by
              intro dx hp O'' hr
              cases dx with
              | exc xa xb => first | exact h.elim | exact hw.elim | exact hr.elim | exact rr.elim | exact rx.elim | exact h3.elim | exact c3.elim | exact c.elim | exact hab.elim | exact q.elim | (simp [peek] at hp; done) | (simp [frz] at e; done) | (simp [frz] at e1; done) | (simp [argOf] at ax; done) | (simp [argOf] at e1; done) | (simp [isBx] at hab; done) | (simp [argOf] at h; done) | (simp [peek] at e; done) | (simp [isBx] at hbx; done) | exact h | exact hw | exact r | (cases e; done) | (cases e2; done) | rfl | (simp at e; done) | (simp at h; done)
              | fd xc => first | exact h.elim | exact hw.elim | exact hr.elim | exact rr.elim | exact rx.elim | exact h3.elim | exact c3.elim | exact c.elim | exact hab.elim | exact q.elim | (simp [peek] at hp; done) | (simp [frz] at e; done) | (simp [frz] at e1; done) | (simp [argOf] at ax; done) | (simp [argOf] at e1; done) | (simp [isBx] at hab; done) | (simp [argOf] at h; done) | (simp [peek] at e; done) | (simp [isBx] at hbx; done) | exact h | exact hw | exact r | (cases e; done) | (cases e2; done) | rfl | (simp at e; done) | (simp at h; done)
              | d z =>
                have : z = .int i := by simpa [peek] using hp
                subst this
                cases (show Rp X.K H2 O2 u (.int i) from hr)
                rfl
              | own z => simp [peek] at hp
              | box => exact hr.elim
              | mu c q => simp [peek] at hp
              | slot m =>
                obtain ⟨c1, dv, c2⟩ := hr
                simp only [peek] at hp
                split at hp
                · rename_i z em
                  have ez : z = .int i := by simpa using hp
                  subst ez
                  obtain ⟨w2, ew2, r2⟩ := R3.sl m _ em
                  rw [c1] at ew2; cases ew2
                  cases (show Rp X.K H2 O3 u (.int i) from r2)
                  rfl
                · simp at hp
                · simp at hp
            have eu : u = .int i := ei2 x ei (O'' := O2) rxO
            obtain ⟨w3, ew3, q3, vs3, e3, hO3, hH3, hL3⟩ := R3.sl k _ ek
            rw [ew] at ew3; cases ew3; cases e3
            obtain ⟨R4, s4⟩ := R3.updO ew ek (RpL.set rd j hL3)
            exact ⟨q, vs3, i, j, rfl, eu, hH3, by rw [hL3.length]; exact ej, kk.nx O3 _ σ _ ((s3.trans s4).hs R) R4 hx⟩
        · exact hx.elim
      · exact hx.elim
    · exact hy.elim⟩
def idxD (xs : List D) (x : D) : Option Nat := match scD x && xs.all scD with
  | true => xs.findIdx? fun y => PyData.eqv y x
  | false => none
theorem idxD_ok {xs : List D} {x : D} {j : Nat} (h : idxD xs x = some j) : scD x = true ∧ xs.all scD = true ∧ ∃ z, xs[j]? = some z ∧ PyData.eqv z x = true ∧ ∀ (m : Nat) z', m < j → xs[m]? = some z' → PyData.eqv z' x = false := by
  unfold idxD at h
  split at h
  · rename_i e
    simp only [Bool.and_eq_true] at e
    obtain ⟨hj, h1, h2⟩ := List.findIdx?_eq_some_iff_getElem.mp h
    refine ⟨e.1, e.2, xs[j], List.getElem?_eq_getElem hj, h1, fun m z' hm hz => ?_⟩
    obtain ⟨hm', ez⟩ := List.getElem?_eq_some_iff.mp hz
    subst ez
    have := h2 m hm
    simpa using this
  · simp at h
theorem idx_vals {K : Fg} {H : Hp} {O : List Addr} {vs : List V} {xs : List D} {x : D} {v : V} {j : Nat} (r : RpL K H O vs xs) (rv : Vw K H O v x) (h : idxD xs x = some j) :
    flatV v = true ∧ vs.all flatV = true ∧ ∃ z, vs[j]? = some z ∧ eqV z v = true ∧ ∀ (m : Nat) z', m < j → vs[m]? = some z' → eqV z' v = false := by
  obtain ⟨s1, s2, z, h1, h2, h3⟩ := idxD_ok h
  have rx := rv.sc s1
  obtain ⟨w, e1, r1⟩ := r.get h1
  have scz : ∀ {i : Nat} {d : D}, xs[i]? = some d → scD d = true := fun hd => List.all_eq_true.mp s2 _ (List.mem_of_getElem? hd)
  refine ⟨sc_flat rx s1, (sc_any rx s1 r s2).1, w, e1, by rw [sc_eq r1 rx (scz h1) s1]; exact h2, fun m z' hm hz => ?_⟩
  obtain ⟨d, hd, rd⟩ := r.getV hz
  rw [sc_eq rd rx (scz hd) s1]
  exact h3 m d hm hd
def rIdxT (K : Fg) : V → List V → Hp → VK → Prop := fun x ys H2 Q => ∃ (b : Addr) (y : V) (ns : List Int) (k : Int), x = .ref b ∧ ys = [y] ∧ SqT K H2 b (ns.map V.int) ∧ y = .int k ∧ k ∈ ns ∧ Q (.int (ns.idxOf k : Nat)) H2
theorem idxOf_le : ∀ {ns : List Int} {j : Nat} {m : Int}, ns[j]? = some m → ns.idxOf m ≤ j
  | [], _, _, h => by simp at h
  | a :: r, 0, m, h => by
    have e : a = m := by simpa using h
    subst e
    simp
  | a :: r, j + 1, m, h => by
    have := idxOf_le (ns := r) (j := j) (m := m) (by simpa using h)
    rw [List.idxOf_cons]
    cases a == m <;> simp <;> omega
def tIdx (K : Fg) (to te : TE) : TE := fun σ H Q => to σ H fun x H1 => ∃ a vs, x = .ref a ∧
  ((SqL K H1 a vs ∧ te σ H1 fun y H2 => rIndex K x [y] H2 Q) ∨ (TpA K H1 a vs ∧ te σ H1 fun y H2 => rIdxT K x [y] H2 Q))
theorem pe_idx {to te : TE} (ho : PE X o to) (hE : PE X e te) (hbase : attributeBase o "index" X.env (eval o X.env) = eval o X.env := by rfl)
    (hfew : ((backTo cpos (starEach [e] X.env)).all (fun x => !x.1) && (backToKw cpos (keywordEach [] X.env)).all (fun x => x.1.isSome) && decide ([e].length + ([] : List Keyword).length + (if ([] : List Keyword).isEmpty then 0 else 1) < 30)) = true := by rfl)
    (hline : (apos.endLine == cpos.line) = true := by rfl) (hs : starEach [e] X.env = (false, eval e X.env) :: starEach [] X.env := by rfl) (hplain : (backTo cpos (starEach [] X.env)).any (·.1) = false := by rfl) :
    PE X (.Call (.Attribute o "index" apos) [e] [] cpos) (tIdx X.K to te) := by
  constructor
  intro pins s σ H Q I h
  refine wpAny_Call_method_late hbase hfew hline rfl (thn (ho.run pins s σ H _ I h) ?_)
  rintro v s1 ⟨x, H1, I1, r1, a, vs, ex, q⟩
  subst ex
  cases r1
  have args : ∀ (id : String) (r : V → List V → Hp → VK → Prop), MtR X id r → (te σ H1 fun y H2 => r (.ref a) [y] H2 Q) → wpAny (model X.prog X.w) X.A (callWith cpos (.builtin id) [.ref a] (backTo cpos (starEach [e] X.env)) []) (EP X pins σ Q) X.xe s1 := by
    intro id r hm hq
    have hA := (pa_cons hE pa_nil hs).run cpos pins s1 σ H1 (fun xs H2 => r (.ref a) xs H2 Q) I1 hq
    rw [hs] at hA ⊢
    refine Calls.callWith_builtin (by show (false || (backTo cpos (starEach [] X.env)).any (·.1)) = false; rw [hplain] <;> rfl) (Calls.evalArgs_plain (thn hA ?_))
    rintro us s2 ⟨vs, H2, I2, r2, q2⟩
    exact hm pins s2 σ H2 (.ref a) vs (.ref a) us Q I2 rfl r2 q2
  rcases q with ⟨hl, q⟩ | ⟨ht, q⟩
  · obtain ⟨h1, h2⟩ := tyV_is (T := "list") (x := .ref a) I1 rfl (.inl ⟨rfl, vs, hl⟩)
    exact ⟨"list", "list.index", PySem.F.plainAttrs_list, PySem.F.slot_list_index, PySem.F.type_list_index, h1, h2, args _ _ mt_index q⟩
  · obtain ⟨its, rv, pl, hz⟩ := I1.tuple (TpA.seq ht)
    refine ⟨"tuple", "tuple.index", PySem.F.plainAttrs_tuple, PySem.F.slot_tuple_index, PySem.F.type_tuple_index, pl.typeIs, fun b eb => ?_, args "tuple.index" (rIdxT X.K) ?_ ?_⟩
    · cases eb
      rcases ht with ⟨ob, h1, h2⟩ | ⟨_, ob, h1, h2⟩
      · obtain ⟨g, _⟩ := I1.hok a _ h1
        exact ⟨ob, g, h2⟩
      · exact ⟨ob, I1.kIn a ob h1, h2⟩
    · intro pins' s' σ' H' x ys v us Q' I' rx rys hh
      obtain ⟨b, y, ns, k, ex, ey, hq, ek, hk, q'⟩ := hh
      subst ex ey ek
      cases rx
      obtain ⟨u, eu, ru⟩ := vals1 rys
      subst eu
      obtain ⟨t, eu⟩ := ru
      subst eu
      obtain ⟨its', rv', pl', _⟩ := I'.tuple hq
      exact SeqAt.tuple_index_ints (show s'.heap.IsTuple b its'.toArray from pl') (intsAre_of rv') hk ⟨.int _, H', I'.tok _, ⟨_, rfl⟩, q'⟩
    · exact q
theorem idxOf_of {ns : List Int} {k : Int} {j : Nat} (h : idxD (ns.map PyData.int) (.int k) = some j) : k ∈ ns ∧ ns.idxOf k = j := by
  obtain ⟨_, _, z, h1, h2, h3⟩ := idxD_ok h
  rw [List.getElem?_map] at h1
  cases e : ns[j]? with
  | none => rw [e] at h1; simp at h1
  | some m =>
    rw [e] at h1
    have ez : PyData.int m = z := by simpa using h1
    subst ez
    have em : m = k := by simpa [PyData.eqv] using h2
    subst em
    refine ⟨List.mem_of_getElem? e, ?_⟩
    have hlt := (List.getElem?_eq_some_iff.mp e).1
    have hmem : m ∈ ns := List.mem_of_getElem? e
    have hi := List.idxOf_lt_length_iff.mpr hmem
    have gi : ns[ns.idxOf m] = m := List.getElem_idxOf hi
    have le := idxOf_le e
    by_cases c : ns.idxOf m < j
    · exfalso
      have := h3 (ns.idxOf m) (.int m) c (by rw [List.getElem?_map, List.getElem?_eq_getElem hi, gi]; rfl)
      simp [PyData.eqv] at this
    · omega
def dIdx (ta tb : DTE) : DTE := fun ds Q => ta ds fun x ds1 => match peek ds1 x with
  | some (.list _) => tb ds1 fun y ds2 => match peek ds2 x, peek ds2 y with
    | some (.list xs), some d => someD (idxD xs d) fun j => Q (.d (.int (j : Nat))) ds2
    | _, _ => False
  | some (.tuple xs) => someD (intsD xs) fun ns => tb ds1 fun y ds2 => match peek ds2 y with
    | some (.int k) => someD (idxD (ns.map PyData.int) (.int k)) fun j => Q (.d (.int (j : Nat))) ds2
    | _ => False
  | _ => False
theorem de_idx {ta tb : DTE} (ho : DE X F o ta) (hE : DE X F e tb) (hbase : attributeBase o "index" X.env (eval o X.env) = eval o X.env := by rfl)
    (hfew : ((backTo cpos (starEach [e] X.env)).all (fun x => !x.1) && (backToKw cpos (keywordEach [] X.env)).all (fun x => x.1.isSome) && decide ([e].length + ([] : List Keyword).length + (if ([] : List Keyword).isEmpty then 0 else 1) < 30)) = true := by rfl)
    (hline : (apos.endLine == cpos.line) = true := by rfl) (hs : starEach [e] X.env = (false, eval e X.env) :: starEach [] X.env := by rfl) (hplain : (backTo cpos (starEach [] X.env)).any (·.1) = false := by rfl) :
    DE X F (.Call (.Attribute o "index" apos) [e] [] cpos) (dIdx ta tb) :=
  PE_imp (pe_idx ho hE hbase hfew hline hs hplain) fun σ H Q ⟨O, ds, Qa, R, ht, hq⟩ => ⟨O, ds, _, R, ht, fun x ds1 v H1 O1 s1 R1 rx hx => by
    split at hx
    · rename_i xs0 e0
      obtain ⟨p, vs0, e1, h1, r1⟩ := (RpV.vw R1 rx e0).list
      subst e1
      refine ⟨p, vs0, rfl, .inl ⟨.inl (.inl h1), O1, ds1, _, R1, hx, fun y ds2 w H2 O2 s2 R2 ry hy => ?_⟩⟩
      have rx2 := RpV.step R1 (s1.mutO R) rx s2
      split at hy
      · rename_i xs d ex ey
        cases ej : idxD xs d with
        | none => rw [ej] at hy; exact hy.elim
        | some j =>
          rw [ej] at hy
          obtain ⟨q, vs, e2, h2, r2⟩ := (RpV.vw R2 rx2 ex).list
          cases e2
          obtain ⟨f1, f2, z, f3, f4, f5⟩ := idx_vals r2 (RpV.vw R2 ry ey) ej
          exact ⟨p, vs, w, j, z, rfl, rfl, .inl (.inl h2), f1, f2, f3, f4, f5, (mkCont R (s1.trans s2) R2 hq).d _ _ (.int _) hy⟩
      · exact hy.elim
    · rename_i xs e0
      cases en : intsD xs with
      | none => rw [en] at hx; exact hx.elim
      | some ns =>
        rw [en] at hx
        obtain ⟨p, vs0, e1, h1, r1⟩ := (RpV.vw R1 rx e0).tup
        subst e1
        refine ⟨p, vs0, rfl, .inr ⟨h1, O1, ds1, _, R1, hx, fun y ds2 w H2 O2 s2 R2 ry hy => ?_⟩⟩
        split at hy
        · rename_i k ey
          cases ej : idxD (ns.map PyData.int) (.int k) with
          | none => rw [ej] at hy; exact hy.elim
          | some j =>
            rw [ej] at hy
            rw [intsD_ok en] at r1
            have er := r1.ints
            subst er
            obtain ⟨hk, hj⟩ := idxOf_of ej
            refine ⟨p, w, ns, k, rfl, rfl, SqT.mv R1.lo (s2.keepO R1) (TpA.seq h1), (RpV.vw R2 ry ey).int, hk, (mkCont R (s1.trans s2) R2 hq).d _ _ (.int _) ?_⟩
            rw [hj]
            exact hy
        · exact hy.elim
    · exact hx.elim⟩
def prep (ds : DS) : DV → Option (DV × DS)
  | .own xs => some (.own xs, ds)
  | x => match frz ds x with
    | some (d, ds') => some (.d d, ds')
    | none => none
def prepL (ds : DS) : List DV → Option (List DV × DS)
  | [] => some ([], ds)
  | x :: xs => match prep ds x with
    | some (d, ds1) => match prepL ds1 xs with
      | some (r, ds2) => some (d :: r, ds2)
      | none => none
    | none => none
theorem prepL_ok {K : Fg} {H H0 : Hp} {O : List Addr} {σ : St} {ds0 : DS} (R0 : Rep K F H0 O σ ds0) : ∀ {dvs : List DV} {vs : List V} {O' : List Addr} {ds ds' : DS} {xs : List DV}, Step σ H0 O ds0 H O' ds → Rep K F H O' σ ds → RpVs K F H O O' σ ds vs dvs → prepL ds dvs = some (xs, ds') →
    ∃ O'', Step σ H0 O ds0 H O'' ds' ∧ Rep K F H O'' σ ds' ∧ RpVs K F H O O'' σ ds' vs xs ∧ (∀ x ∈ xs, (∃ d, x = .d d) ∨ ∃ d, x = .own d) ∧
      ∀ w dw, RpV K F H O O' σ ds w dw → RpV K F H O O'' σ ds' w dw := by
  intro dvs
  induction dvs with
  | nil =>
    intro vs O' ds ds' xs s R h e
    have h' := h.1
    cases h'
    simp only [prepL, Option.some.injEq, Prod.mk.injEq] at e
    obtain ⟨e1, e2⟩ := e
    subst e1 e2
    exact ⟨O', s, R, ⟨.nil, fun _ _ _ _ _ _ _ h => by simp at h⟩, fun _ h => by simp at h, fun _ _ h => h⟩
  | cons dv dvs ih =>
    intro vs O' ds ds' xs s R h e
    obtain ⟨hp, ha⟩ := h
    cases hp with
    | cons h1 h2 =>
      rename_i v vr
      have ha' : ∀ (i j : Nat) (v w : V) (x y : DV), i ≠ j → vr[i]? = some v → vr[j]? = some w → dvs[i]? = some x → dvs[j]? = some y → Apt v x w y :=
        fun i j v w x y hij a b c d => ha (i + 1) (j + 1) v w x y (fun z => hij (by omega)) (by simpa using a) (by simpa using b) (by simpa using c) (by simpa using d)
      simp only [prepL] at e
      cases e1 : prep ds dv with
      | none => rw [e1] at e; simp at e
      | some q =>
        obtain ⟨x, ds1⟩ := q
        rw [e1] at e
        simp only at e
        cases e2 : prepL ds1 dvs with
        | none => rw [e2] at e; simp at e
        | some q =>
          obtain ⟨r, ds2⟩ := q
          rw [e2] at e
          simp only [Option.some.injEq, Prod.mk.injEq] at e
          obtain ⟨q1, q2⟩ := e
          subst q1 q2
          have one : ∃ O1, Step σ H0 O ds0 H O1 ds1 ∧ Rep K F H O1 σ ds1 ∧ RpV K F H O O1 σ ds1 v x ∧ ((∃ d, x = .d d ∧ ∀ zs, dv ≠ .own zs) ∨ ∃ d, x = .own d ∧ dv = .own d) ∧ ∀ w dw, RpV K F H O O' σ ds w dw → RpV K F H O O1 σ ds1 w dw := by
            have fz : (∀ p, ¬ OwnT v dv p) → (∀ zs, dv ≠ .own zs) → ∀ d, frz ds dv = some (d, ds1) → x = .d d → ∃ O1, Step σ H0 O ds0 H O1 ds1 ∧ Rep K F H O1 σ ds1 ∧ RpV K F H O O1 σ ds1 v x ∧ ((∃ d, x = .d d ∧ ∀ zs, dv ≠ .own zs) ∨ ∃ d, x = .own d ∧ dv = .own d) ∧ ∀ w dw, RpV K F H O O' σ ds w dw → RpV K F H O O1 σ ds1 w dw := fun hno hne d ef ex => by
              subst ex
              obtain ⟨O1, s1, R1, r1, _, oth⟩ := frz_ok R0 s R h1 ef
              exact ⟨O1, s1, R1, r1, .inl ⟨d, rfl, hne⟩, fun w dw hw => oth w dw hw fun p z _ => hno p z⟩
            cases dv with
            | own zs =>
              simp only [prep, Option.some.injEq, Prod.mk.injEq] at e1
              obtain ⟨q1, q2⟩ := e1
              subst q1 q2
              exact ⟨O', s, R, h1, .inr ⟨zs, rfl, rfl⟩, fun _ _ h => h⟩
            | exc xa xb => exact h1.elim
            | fd xc => simp [prep, frz] at e1
            | d z =>
              simp only [prep, frz, Option.some.injEq, Prod.mk.injEq] at e1
              exact fz (fun _ h => h) (fun _ => nofun) z (by simp [frz, e1.2]) e1.1.symm
            | box => exact h1.elim
            | mu c q => simp [prep, frz] at e1
            | slot i =>
              simp only [prep] at e1
              cases ef : frz ds (.slot i) with
              | none => rw [ef] at e1; simp at e1
              | some q =>
                obtain ⟨d, d1⟩ := q
                rw [ef] at e1
                simp only [Option.some.injEq, Prod.mk.injEq] at e1
                obtain ⟨q1, q2⟩ := e1
                subst q2
                exact fz (fun _ h => h) (fun _ => nofun) d ef q1.symm
          obtain ⟨O1, s1, R1, rx, kind, oth⟩ := one
          have hvs : RpVs K F H O O1 σ ds1 vr dvs := by
            refine ⟨?_, ha'⟩
            have aux : ∀ {ws : List V} {dws : List DV}, Paired (RpV K F H O O' σ ds) ws dws → Paired (RpV K F H O O1 σ ds1) ws dws := by
              intro ws dws hh
              induction hh with
              | nil => exact .nil
              | cons q _ ih => exact .cons (oth _ _ q) ih
            exact aux h2
          obtain ⟨O2, s2, R2, rs, kinds, oth2⟩ := ih s1 R1 hvs e2
          have kd : ∀ y ∈ x :: r, (∃ d, y = .d d) ∨ ∃ d, y = .own d := fun y hy => by
            rcases List.mem_cons.mp hy with z | z
            · subst z
              rcases kind with ⟨d, e, _⟩ | ⟨d, e, _⟩
              · exact .inl ⟨d, e⟩
              · exact .inr ⟨d, e⟩
            · exact kinds y z
          refine ⟨O2, s2, R2, ⟨.cons (oth2 v x rx) rs.1, ?_⟩, kd, fun w dw hw => oth2 w dw (oth w dw hw)⟩
          · -- apart
            intro i j v' w' a b hij g1 g2 g3 g4
            have ownOf : ∀ {dvs r : List DV} {d1 d2 : DS} (k : Nat) (z : List D), prepL d1 dvs = some (r, d2) → r[k]? = some (.own z) → dvs[k]? = some (.own z) := by
              intro dvs
              induction dvs with
              | nil => intro r d1 d2 k z h1 h2; simp only [prepL, Option.some.injEq, Prod.mk.injEq] at h1; rw [← h1.1] at h2; simp at h2
              | cons y ys ih' =>
                intro r d1 d2 k z h1 h2
                simp only [prepL] at h1
                cases f1 : prep d1 y with
                | none => rw [f1] at h1; simp at h1
                | some q =>
                  obtain ⟨y', d3⟩ := q
                  rw [f1] at h1
                  simp only at h1
                  cases f2 : prepL d3 ys with
                  | none => rw [f2] at h1; simp at h1
                  | some q =>
                    obtain ⟨r', d4⟩ := q
                    rw [f2] at h1
                    simp only [Option.some.injEq, Prod.mk.injEq] at h1
                    rw [← h1.1] at h2
                    cases k with
                    | zero =>
                      simp at h2
                      subst h2
                      cases y with
                      | own zs => simp only [prep, Option.some.injEq, Prod.mk.injEq] at f1; rw [f1.1]; rfl
                      | exc xa xb => simp [prep, frz] at f1
                      | fd xc => simp [prep, frz] at f1
                      | d zs => simp [prep, frz] at f1
                      | box => simp [prep, frz] at f1
                      | mu c q => simp [prep, frz] at f1
                      | slot m =>
                        simp only [prep] at f1
                        split at f1 <;> simp at f1
                    | succ k => exact ih' k z f2 (by simpa using h2)
            have whole : prepL ds (dv :: dvs) = some (x :: r, ds2) := by simp only [prepL, e1, e2]
            rcases kd a (List.mem_of_getElem? g3) with ⟨d, e⟩ | ⟨d, e⟩
            · subst e; exact fun p z _ => z.elim
            rcases kd b (List.mem_of_getElem? g4) with ⟨d', e'⟩ | ⟨d', e'⟩
            · subst e'; exact fun p _ z => z.elim
            subst e e'
            exact ha i j v' w' _ _ hij g1 g2 (ownOf i d whole g3) (ownOf j d' whole g4)
def dPar (i j : Nat) (tA : DTA) : DTS := fun E ds => tA ds fun xs ds1 => match prepL ds1 xs with
  | some ([x, y], ds2) => E.nx ⟨(ds2.sl.set i (some x)).set j (some y), ds2.n⟩
  | _ => False
def dPar3 (i j l : Nat) (tA : DTA) : DTS := fun E ds => tA ds fun xs ds1 => match prepL ds1 xs with
  | some ([x, y, z], ds2) => E.nx ⟨((ds2.sl.set i (some x)).set j (some y)).set l (some z), ds2.n⟩
  | _ => False
theorem Rep.setV {K : Fg} {H : Hp} {O O0 : List Addr} {σ : St} {ds : DS} {v : V} {x : DV} (R : Rep K F H O σ ds) (i : Nat) (hx : (∃ d, x = .d d) ∨ ∃ d, x = .own d) (h : RpV K F H O0 O σ ds v x) (hm : ∀ p, (∃ d, x = .own d) → v = .ref p → ∀ j, ¬ MutAt σ ds j p) :
    Rep K F H O (σ.set i (some v)) ⟨ds.sl.set i (some x), ds.n⟩ ∧ ∀ j p, MutAt (σ.set i (some v)) ⟨ds.sl.set i (some x), ds.n⟩ j p → MutAt σ ds j p ∨ (v = .ref p ∧ ∃ d, x = .own d) := by
  constructor
  · rcases hx with ⟨d, e⟩ | ⟨d, e⟩
    · subst e; exact R.setD i h
    · subst e
      obtain ⟨p, vs, ev, h1, h2, h3, h4, h5⟩ := h
      subst ev
      exact R.setO i h1 h3 (hm p ⟨d, rfl⟩ rfl) h4 h5
  · rintro j p ⟨a0, a, dv, b, c, ce⟩
    rcases sl_set_of b with ⟨e1, e2⟩ | ⟨e1, e2⟩
    · subst e1 e2
      have hi : i < σ.length := by have := (List.getElem?_eq_some_iff.mp a).1; simpa using this
      rw [List.getElem?_set_self hi] at a
      cases a
      rcases hx with ⟨d, e⟩ | ⟨d, e⟩
      · subst e; exact c.elim
      · subst e
        rcases ce with rfl | ce
        · exact .inr ⟨rfl, d, rfl⟩
        · cases ce
    · rw [List.getElem?_set_ne e1] at a
      exact .inl ⟨a0, a, dv, e2, c, ce⟩
theorem RpV.free {K : Fg} {H : Hp} {O0 O : List Addr} {σ σ' : St} {ds ds' : DS} {v : V} {x : DV} (hx : (∃ d, x = .d d) ∨ ∃ d, x = .own d) (h : RpV K F H O0 O σ ds v x) : RpV K F H O0 O σ' ds' v x := by
  rcases hx with ⟨d, e⟩ | ⟨d, e⟩
  · subst e; exact h
  · subst e; exact h
theorem ds_par {i j : Nat} {st : Stmt} (h : PS X st (tPar i j (liftA X.K F tA))) : DSt X F st (dPar i j tA) := PS_imp h fun D σ H ⟨O, ds, E, R, ht, kk⟩ =>
  ⟨O, ds, _, R, ht, fun xs ds1 vs H1 O1 s1 R1 rx hx => by
    split at hx
    · rename_i x y ds2 ep
      obtain ⟨O2, s2, R2, ⟨rs, ap⟩, kinds, _⟩ := prepL_ok R s1 R1 rx ep
      cases rs with
      | cons r1 rs =>
        cases rs with
        | cons r2 rs =>
          cases rs
          rename_i v w
          have k1 := kinds x (by simp)
          have k2 := kinds y (by simp)
          have tmp : ∀ {v : V} {x : DV}, RpV X.K F H1 O O2 σ ds2 v x → ∀ p, (∃ d, x = .own d) → v = .ref p → ∀ j, ¬ MutAt σ ds2 j p := fun hr p ⟨d, ex⟩ ev j hj => by
            subst ex
            obtain ⟨q, _, eq, _, n, _⟩ := hr
            rw [ev] at eq; cases eq
            exact n (s2.mutO R p ⟨j, hj⟩)
          obtain ⟨R3, m3⟩ := R2.setV i k1 r1 (tmp r1)
          obtain ⟨R4, _⟩ := R3.setV (O0 := O) j k2 (r2.free k2) fun p ho ev l hl => by
            rcases m3 l p hl with z | ⟨z1, d, z2⟩
            · exact tmp r2 p ho ev l z
            · obtain ⟨d', e'⟩ := ho
              exact ap 0 1 v w x y (by omega) rfl rfl rfl rfl p (by rw [z2]; exact z1) (by rw [e']; exact ev)
          exact ⟨v, w, rfl, kk.nx O2 _ _ H1 (s2.hs R) R4 hx⟩
    · exact hx.elim⟩
theorem ds_par3 {i j l : Nat} {st : Stmt} (h : PS X st (tPar3 i j l (liftA X.K F tA))) : DSt X F st (dPar3 i j l tA) := PS_imp h fun D σ H ⟨O, ds, E, R, ht, kk⟩ =>
  ⟨O, ds, _, R, ht, fun xs ds1 vs H1 O1 s1 R1 rx hx => by
    split at hx
    · rename_i x y z ds2 ep
      obtain ⟨O2, s2, R2, ⟨rs, ap⟩, kinds, _⟩ := prepL_ok R s1 R1 rx ep
      cases rs with
      | cons r1 rs =>
        cases rs with
        | cons r2 rs =>
          cases rs with
          | cons r3 rs =>
            cases rs
            rename_i u v w
            have k1 := kinds x (by simp)
            have k2 := kinds y (by simp)
            have k3 := kinds z (by simp)
            have tmp : ∀ {v : V} {x : DV}, RpV X.K F H1 O O2 σ ds2 v x → ∀ p, (∃ d, x = .own d) → v = .ref p → ∀ j, ¬ MutAt σ ds2 j p := fun hr p ⟨d, ex⟩ ev j hj => by
              subst ex
              obtain ⟨q, _, eq, _, n, _⟩ := hr
              rw [ev] at eq; cases eq
              exact n (s2.mutO R p ⟨j, hj⟩)
            obtain ⟨R3, m3⟩ := R2.setV i k1 r1 (tmp r1)
            obtain ⟨R4, m4⟩ := R3.setV (O0 := O) j k2 (r2.free k2) fun p ho ev m hl => by
              rcases m3 m p hl with t | ⟨z1, d, z2⟩
              · exact tmp r2 p ho ev m t
              · obtain ⟨d', e'⟩ := ho
                exact ap 0 1 u v x y (by omega) rfl rfl rfl rfl p (by rw [z2]; exact z1) (by rw [e']; exact ev)
            obtain ⟨R5, _⟩ := R4.setV (O0 := O) l k3 (r3.free k3) fun p ho ev m hl => by
              obtain ⟨d', e'⟩ := ho
              rcases m4 m p hl with t | ⟨z1, d, z2⟩
              · rcases m3 m p t with t | ⟨z1, d, z2⟩
                · exact tmp r3 p ⟨d', e'⟩ ev m t
                · exact ap 0 2 u w x z (by omega) rfl rfl rfl rfl p (by rw [z2]; exact z1) (by rw [e']; exact ev)
              · exact ap 1 2 v w y z (by omega) rfl rfl rfl rfl p (by rw [z2]; exact z1) (by rw [e']; exact ev)
            exact ⟨u, v, w, rfl, kk.nx O2 _ _ H1 (s2.hs R) R5 hx⟩
    · exact hx.elim⟩
end
section
variable {X : Cx} {F : Fx} {tg e a b : Expr} {te : DTE} {tA : DTA} {p pos tpos : Pos}
def zipD : List D → List D → List D
  | x :: xs, y :: ys => .tuple [x, y] :: zipD xs ys
  | _, _ => []
theorem zipD_len : ∀ (xs ys : List D), (zipD xs ys).length = min xs.length ys.length
  | [], _ => by simp [zipD]
  | _ :: _, [] => by simp [zipD]
  | x :: xs, y :: ys => by simp only [zipD, List.length_cons, zipD_len xs ys]; omega
theorem zipD_get : ∀ {xs ys : List D} {i : Nat} {x y : D}, xs[i]? = some x → ys[i]? = some y → (zipD xs ys)[i]? = some (.tuple [x, y])
  | [], _, _, _, _, h, _ => by simp at h
  | _ :: _, [], _, _, _, _, h => by simp at h
  | a :: xs, b :: ys, 0, x, y, h, h' => by simp at h h'; subst h h'; rfl
  | a :: xs, b :: ys, i + 1, x, y, h, h' => by
    simp only [zipD, List.getElem?_cons_succ]
    exact zipD_get (by simpa using h) (by simpa using h')
theorem itok_zip {K : Fg} {H : Hp} {O : List Addr} {a b : Addr} {vs ws : List V} {xs ys : List D} (lo : LO O H) (h : LsA H O a vs) (h' : LsA H O b ws) (r : RpL K H O vs xs) (r' : RpL K H O ws ys) (hz : xs.length ≤ 16777216) : ItOk false K (Itz K a b) (zipD xs ys) O H where
  len := by rw [zipD_len, sizeLine_eq]; omega
  go := fun H2 O2 lo2 hs i hi => by
    rw [zipD_len] at hi
    have h2 : SqL K H2 a vs := .inl (.inl (hs.kp a _ h.1 h.2))
    have h2' : SqL K H2 b ws := .inl (.inl (hs.kp b _ h'.1 h'.2))
    have i1 : i < xs.length := by omega
    have i2 : i < ys.length := by omega
    obtain ⟨v, ev, rv⟩ := (hs_rpl lo hs r).get (List.getElem?_eq_getElem i1)
    obtain ⟨w, ew, rw'⟩ := (hs_rpl lo hs r').get (List.getElem?_eq_getElem i2)
    refine ⟨⟨vs, ws, v, w, h2, h2', ev, ew⟩, fun x H3 hy => ?_⟩
    obtain ⟨T, x1, x2, e1, hT, e2, f1, f2⟩ := hy
    subst e1 e2
    have q1 := f1 vs h2
    have q2 := f2 ws h2'
    rw [ev] at q1; cases q1
    rw [ew] at q2; cases q2
    have sm := same_new (o := .tup [v, w]) hT
    refine ⟨_, zipD_get (List.getElem?_eq_getElem i1) (List.getElem?_eq_getElem i2), sm, T, [v, w], _, rfl, rfl, .inl (.inl upd_same), ?_⟩
    exact .cons (Rp.mv lo2 (same_keep sm) grow_refl rv) (.cons (Rp.mv lo2 (same_keep sm) grow_refl rw') .nil)
  stop := fun H2 O2 lo2 hs => ⟨vs, ws, .inl (.inl (hs.kp a _ h.1 h.2)), .inl (.inl (hs.kp b _ h'.1 h'.2)), by rw [zipD_len, r.length, r'.length]; omega⟩
theorem itok_zipT {K : Fg} {H : Hp} {O : List Addr} {a b : Addr} {vs ws : List V} {xs ys : List D} (lo : LO O H) (h : SqT K H a vs) (h' : SqT K H b ws) (r : RpL K H O vs xs) (r' : RpL K H O ws ys) (hz : xs.length ≤ 16777216) : ItOk false K (RZ.ItzT K a b) (zipD xs ys) O H where
  len := by rw [zipD_len, sizeLine_eq]; omega
  go := fun H2 O2 lo2 hs i hi => by
    rw [zipD_len] at hi
    have h2 : SqT K H2 a vs := SqT.mv lo hs.kp h
    have h2' : SqT K H2 b ws := SqT.mv lo hs.kp h'
    have i1 : i < xs.length := by omega
    have i2 : i < ys.length := by omega
    obtain ⟨v, ev, rv⟩ := (hs_rpl lo hs r).get (List.getElem?_eq_getElem i1)
    obtain ⟨w, ew, rw'⟩ := (hs_rpl lo hs r').get (List.getElem?_eq_getElem i2)
    refine ⟨⟨vs, ws, v, w, h2, h2', ev, ew⟩, fun x H3 hy => ?_⟩
    obtain ⟨T, x1, x2, e1, hT, e2, f1, f2⟩ := hy
    subst e1 e2
    have q1 := f1 vs h2
    have q2 := f2 ws h2'
    rw [ev] at q1; cases q1
    rw [ew] at q2; cases q2
    have sm := same_new (o := .tup [v, w]) hT
    refine ⟨_, zipD_get (List.getElem?_eq_getElem i1) (List.getElem?_eq_getElem i2), sm, T, [v, w], _, rfl, rfl, .inl (.inl upd_same), ?_⟩
    exact .cons (Rp.mv lo2 (same_keep sm) grow_refl rv) (.cons (Rp.mv lo2 (same_keep sm) grow_refl rw') .nil)
  stop := fun H2 O2 lo2 hs => ⟨vs, ws, SqT.mv lo hs.kp h, SqT.mv lo hs.kp h', by rw [zipD_len, r.length, r'.length]; omega⟩
def dZip (tA : DTA) : DTI := fun ds Q => tA ds fun xs ds1 => match frzL ds1 xs with
  | some ([.list xs, .list ys], ds2) => xs.length ≤ 16777216 ∧ Q (zipD xs ys) ds2
  | some ([.tuple xs, .tuple ys], ds2) => xs.length ≤ 16777216 ∧ Q (zipD xs ys) ds2
  | _ => False
theorem di_zip {elts : List Expr} {kk : Nat} (hg : Gl X "zip") (hm : X.mg "zip" = none) (ha : DA X F [a, b] tA) (hs : starEach [a, b] X.env = (false, eval a X.env) :: starEach [b] X.env := by rfl) (hpl : (backTo pos (starEach [b] X.env)).any (·.1) = false := by rfl) :
    DI false X F (.Tuple elts kk tpos) (.Call (.Name "zip" p) [a, b] [] pos) (dZip tA) :=
  PI_imp (RZ.pi_zipA hg hm ha hs hpl) fun σ H Q ⟨O, ds, Qa, R, ht, hq⟩ => ⟨O, ds, _, R, ht, fun xs ds1 vs H1 O1 s1 R1 rx hx => by
    split at hx
    · rename_i xs ys ds2 e
      obtain ⟨O2, s2, R2, rl, _⟩ := frzL_ok R s1 R1 rx e
      cases rl with
      | cons r1 rl =>
        cases rl with
        | cons r2 rl =>
          cases rl
          cases r1 with
          | lst h1 l1 =>
            cases r2 with
            | lst h2 l2 => exact ⟨_, _, _, _, rfl, .inl ⟨.inl (.inl h1.1), .inl (.inl h2.1), hq _ ds2 H1 O2 _ s2 R2 (itok_zip R2.lo h1 h2 l1 l2 hx.1) hx.2⟩⟩
    · rename_i xs ys ds2 e
      obtain ⟨O2, s2, R2, rl, _⟩ := frzL_ok R s1 R1 rx e
      cases rl with
      | cons r1 rl =>
        cases rl with
        | cons r2 rl =>
          cases rl
          cases r1 with
          | tup h1 l1 =>
            cases r2 with
            | tup h2 l2 => exact ⟨_, _, _, _, rfl, .inr ⟨TpA.seq h1, TpA.seq h2, hq _ ds2 H1 O2 _ s2 R2 (itok_zipT R2.lo (TpA.seq h1) (TpA.seq h2) l1 l2 hx.1) hx.2⟩⟩
    · exact hx.elim⟩
def dTgt (g : DTG) (te : DTE) : DTS := fun E ds => te ds fun x ds1 => match frz ds1 x with
  | some (d, ds2) => g d ds2 E.nx
  | none => False
theorem ds_tgt {T : List Nat} {g : DTG} (he : DE X F e te) (hg : DG true T X F tg g) (hs : swapsWithSole [tg] e pos.line X.env = pure false := by rfl) (hw : swappedStores [tg] e X.env = pure none := by rfl)
    (h1 : (assignEach [tg] X.env).map (·.2) = [assign tg X.env] := by rfl) : DSt X F (.Assign [tg] e pos) (dTgt g te) := PS_imp (ps_asg he hg hs hw h1) fun D σ H ⟨O, ds, E, R, ht, kk⟩ =>
  ⟨O, ds, _, R, ht, fun x ds1 v H1 O1 s1 R1 rx hx => by
    cases e : frz ds1 x with
    | none => rw [e] at hx; exact hx.elim
    | some q =>
      obtain ⟨d, ds2⟩ := q
      rw [e] at hx
      obtain ⟨O2, s2, R2, r, _, _⟩ := frz_ok R s1 R1 rx e
      exact ⟨O2, ds2, d, _, R2, r, hx, fun O' ds' σ' t R' _ hn => kk.nx O' ds' σ' H1 ((s2.hs R).trans t.hs) R' hn⟩⟩
end
structure Pr (P : Program) (w : World) (K : Fg) (mg : Str → Option Value) (base : Heap) (k : Nat) (x : Str) (st : Stmt) (ps : List Str) (dsp : DSp) : Prop where
  ex : ∃ f fd, FnG P w K mg base (L2.CX P w) k f fd ps (spD K mg dsp) ∧ Fun K x x st f fd ∧ mg x = some (.ref f) ∧ Binds K fd ps []
structure Df (K : Fg) (mg : Str → Option Value) (x : Str) (st : Stmt) (ps : List Str) : Prop where
  ex : ∃ f fd, Fun K x x st f fd ∧ mg x = some (.ref f) ∧ Binds K fd ps []
section
variable {P : Program} {w : World} {K : Fg} {mg : Str → Option Value} {base : Heap} {k : Nat} {x : Str} {st : Stmt} {N ps : List Str} {dsp : DSp}
theorem Pr.mono {j : Nat} (h : Pr P w K mg base k x st ps dsp) (hj : k ≤ j) : Pr P w K mg base j x st ps dsp := by
  obtain ⟨f, fd, G, r⟩ := h.ex
  exact ⟨f, fd, G.mono hj, r⟩
theorem Df.pr {t : DTS} (D : Df K mg x st ps) (S : FnScope N ps (defScope st)) (len : ∀ args n Q E, dsp args n Q E → args.length = ps.length)
    (der : ∀ (f : Addr) (cdv : Value) (A : Around) (outer : List Env) (s : Shared) (H : Hp) (E : XK) (F : Fx), RoomG k (A.deeper (envOfC x (defScope st) s.heap.objs.size f cdv)) →
      DSs (cxOf (L2.CX P w) P w K mg base N x (defScope st) f cdv A outer s H E).nox F (defBody st) t)
    (rd : ∀ args n Qa Ea, dsp args n Qa Ea → t ⟨fun ds => Qa (.d .none) ds.n, fun r ds => Qa r ds.n, fun _ => False, fun _ => False⟩ (startD N.length args n)) : Pr P w K mg base (k + 1) x st ps dsp := by
  obtain ⟨f, fd, Fu, g, b⟩ := D.ex
  exact ⟨f, fd, fnD_of Fu S len fun cdv A outer s H E F hr => ⟨t, der f cdv A outer s H E F hr, rd⟩, Fu, g, b⟩
end
section
variable {X : Cx} {F : Fx} {k : Nat} {x : Str} {st : Stmt} {ps ks : List Str} {dsp : DSp} {p pos : Pos} {e : Expr} {es : List Expr} {kws : List Keyword} {tA : DTA}
theorem de_callP (I : Pr X.prog X.w X.K X.mg X.base k x st ps dsp) (hr : RoomG k X.A) (hg : Gl X x) (ha : DA X F (e :: es) tA) (hdb : (x == ("__debug__" : Str)) = false := by decide) (he : starEach (e :: es) X.env = (false, eval e X.env) :: starEach es X.env := by rfl) (hpl : (backTo pos (starEach es X.env)).any (·.1) = false := by rfl) :
    DE X F (.Call (.Name x p) (e :: es) [] pos) (dCall dsp (fun as => as) tA) := by
  obtain ⟨f, fd, G, Fu, g, b⟩ := I.ex
  exact de_call G hr hg g Fu.kp b passX ha hdb he hpl
def pick {α : Type} (n : Nat) (ix : List Nat) (xs : List α) : List α := if xs.length = n then ix.filterMap fun i => xs[i]? else []
theorem pick_paired {α β : Type} {R : α → β → Prop} {n : Nat} {ix : List Nat} {xs : List α} {ys : List β} (h : Paired R xs ys) : Paired R (pick n ix xs) (pick n ix ys) := by
  unfold pick
  rw [paired_len h]
  split
  · induction ix with
    | nil => exact .nil
    | cons i ix ih =>
      have g : ∀ {xs : List α} {ys : List β} (i : Nat), Paired R xs ys → (xs[i]? = none ∧ ys[i]? = none) ∨ ∃ a b, xs[i]? = some a ∧ ys[i]? = some b ∧ R a b := by
        intro xs ys i h
        induction h generalizing i with
        | nil => exact .inl ⟨by simp, by simp⟩
        | cons r _ ih =>
          cases i with
          | zero => exact .inr ⟨_, _, rfl, rfl, r⟩
          | succ i => simpa using ih i
      rcases g i h with ⟨e1, e2⟩ | ⟨a, b, e1, e2, r⟩
      · simp only [List.filterMap_cons, e1, e2]; exact ih
      · simp only [List.filterMap_cons, e1, e2]; exact .cons r ih
  · exact .nil
theorem de_callKP {n : Nat} {ix : List Nat} (I : Pr X.prog X.w X.K X.mg X.base k x st ps dsp) (hr : RoomG k X.A) (hg : Gl X x) (hkw : DK X F kws tA)
    (hb : ∀ (kV doc pm : Value) (an : Option Addr) (cdv ct : Value) (ws : List Value), (pick n ix ws).length = ps.length → bindArgs (PySem.W.fnOf x x (defArgs st) (defBody st) (defScope st) .none kV doc pm an cdv ct) ⟨[], ks.zip ws⟩ = pure (ps.zip (pick n ix ws)))
    (hall : (backToKw pos (keywordEach kws X.env)).all (·.1.isSome) = true := by rfl) (hks : (backToKw pos (keywordEach kws X.env)).filterMap (·.1) = ks := by rfl)
    (hdb : (x == ("__debug__" : Str)) = false := by decide) (hpl : (backToKw pos (keywordEach kws X.env)).any (·.1.isNone) = false := by rfl) :
    DE X F (.Call (.Name x p) [] kws pos) (dCall dsp (pick n ix) tA) := by
  obtain ⟨f, fd, G, Fu, g, b⟩ := I.ex
  refine de_callK (g := pick n ix) ⟨fun h => pick_paired h⟩ G hr hg g Fu.kp ?_ (fun h => pick_paired h) passX hkw hall hks hdb hpl
  obtain ⟨oc, od, kV, doc, pm, an, cdv, ct, osl, efd, lk, hcd⟩ := Fu.ex
  subst efd
  exact fun s ws _ hl => .of_eq (hb kV doc pm an cdv ct ws hl)
end
def sp_take0 : DSp := fun args n Q _ => ∃ k : Int, args = [.box, .d (.int k)] ∧ 0 < k ∧ k ≤ 10000000 ∧ 1 ≤ n ∧ ∀ r : Int, 0 ≤ r → r < k → Q (.d (.int r)) (n - 1)
def sp_take : DSp := fun args n Q _ => ∃ k : Int, args = [.box, .d (.int k)] ∧ 0 < k ∧ k < 1073741824 ∧ 3 ≤ n ∧ ∀ r : Int, 0 ≤ r → r < k → Q (.d (.int r)) (n - 3)
theorem take_in {K : Fg} {mg : Str → Option Value} {dsp : DSp} {vs : List V} {H : Hp} {Q : VK} {E : XK} (h : spD K mg dsp vs H Q E) (hd : ∀ args n Q E, dsp args n Q E → ∃ k : Int, args = [.box, .d (.int k)]) :
    ∃ (b : Addr) (n : Nat) (k : Int) (Qa : DV → Nat → Prop) (Ea : DXK), vs = [.ref b, .int k] ∧ BoxAt H b n ∧ dsp [.box, .d (.int k)] n Qa Ea ∧ ∀ (r : Int) (n' : Nat) H', Keep [b] H H' → BoxAt H' b n' → Qa (.d (.int r)) n' → Q (.int r) H' := by
  obtain ⟨B, O, args, n, Qa, Ea, lo, hb, ha, h1, hdd, hq, _⟩ := h
  obtain ⟨k, e⟩ := hd _ _ _ _ hdd
  subst e
  cases ha with
  | cons a1 a2 =>
    cases a2 with
    | cons a2 a3 =>
      cases a3
      obtain ⟨b, eB, ev⟩ := a1
      subst eB ev
      cases (show Rp K H O _ (.int k) from a2)
      exact ⟨b, n, k, Qa, Ea, rfl, (hb b (by simp)).2, hdd, fun r n' H' kp bx q => hq (.d (.int r)) n' (.int r) H' kp (fun b' hb' => by rw [List.mem_singleton.mp hb']; exact bx) (.int r) q⟩
theorem take_out {K : Fg} {mg : Str → Option Value} {dsp : DSp} {H : Hp} {Q : VK} {b : Addr} {n : Nat} {k : Int} {Qa : DV → Nat → Prop} (hb : BoxAt H b n) (hd : dsp [.box, .d (.int k)] n Qa fun _ _ _ => False) (hk : ∀ r n', Qa r n' → ∃ i, r = .d (.int i))
    (hq : ∀ (r : Int) (n' : Nat) H', Keep [b] H H' → BoxAt H' b n' → Qa (.d (.int r)) n' → Q (.int r) H') : spD K mg dsp [.ref b, .int k] H Q E0 := by
  obtain ⟨xs, ex⟩ := hb.some
  refine ⟨[b], [b], [.box, .d (.int k)], n, Qa, _, fun p hp => ?_, fun p hp => ?_, .cons ⟨b, rfl, rfl⟩ (.cons (.int k) .nil), fun i j hi hj => ?_, hd, fun r n' v H' kp bx rr q => ?_, fun _ _ _ _ _ _ _ _ _ z => z.elim⟩
  · have : p = b := by simpa using hp
    subst this; exact ⟨_, ex, rfl⟩
  · have : p = b := by simpa using hp
    subst this; exact ⟨by simp, hb⟩
  · have f : ∀ i : Nat, ([DV.box, DV.d (.int k)] : List DV)[i]? = some .box → i = 0 := fun i h => by
      cases i with
      | zero => rfl
      | succ i => cases i <;> simp at h
    rw [f i hi, f j hj]
  · obtain ⟨i, e⟩ := hk r n' q
    subst e
    cases (show Rp K H' [b] v (.int i) from rr)
    exact hq i n' H' kp (bx b (by simp)) q
def ifBd : Stmt → List Stmt
  | .If _ b _ _ => b
  | _ => []
theorem Keep.trans {O : List Addr} {H H1 H2 : Hp} (h : Keep O H H1) (h' : Keep O H1 H2) : Keep O H H2 := fun a o e n => h' a o (h a o e n) n
theorem BoxAt.less {H : Hp} {b : Addr} {n m : Nat} (h : BoxAt H b n) (hm : m ≤ n) : BoxAt H b m := by
  obtain ⟨x, y, c, hb, hx, hy, hy2, hc, hn⟩ := h
  exact ⟨x, y, c, hb, hx, hy, hy2, hc, by omega⟩
theorem keep_upd {H : Hp} {b : Addr} {o : HO} : Keep [b] H (upd H b o) := fun a u h n => by
  rw [upd_ne (show a ≠ b by intro e; subst e; exact n (by simp))]; exact h
def tIx (K : Fg) (i : Int) : TE := tOp (rIxL K) (tVar 0) (tC (V.int i))
def tMod (a b : TE) : TE := tOp (rI (fun _ j => 0 < j) fun i j => V.int (i % j)) a b
def tAdd (a b : TE) : TE := tOp (rI0 fun i j => V.int (i + j)) a b
def tMul (a b : TE) : TE := tOp (rI CMul fun i j => V.int (i * j)) a b
def tDiv (a b : TE) : TE := tOp (rI CDiv fun i j => V.int (i / j)) a b
def tPow (a b : TE) : TE := tOp (rI CPow fun i j => V.int (i ^ j.toNat)) a b
def tTake (K : Fg) (tR : TS) : TS :=
  tSeq (tIfS (tTest (tOp (rI0 fun i j => V.bl (decide (j < i))) (tIx K 0) (tC (V.int 0))))
    (tSeq (tAsg (tMod (tIx K 0) (tVar 1)) (gName 2)) (tSeq (tAsg (tDiv (tIx K 0) (tVar 1)) (gSub (tVar 0) (tC (V.int 0)) rSetL)) (tRet (tVar 2)))) tNext)
  (tSeq (tIfS (tTest (tOp (rI0 fun i j => V.bl (decide (j < i))) (tVar 1) (tPow (tC (V.int 10)) (tC (V.int 7))))) tR tNext)
  (tSeq (tAsg (tAdd (tIx K 2) (tC (V.int 1))) (gSub (tVar 0) (tC (V.int 2)) rSetL))
  (tSeq (tAsg (tMod (tPow (tAdd (tIx K 1) (tMul (tC (V.int 51749)) (tIx K 2))) (tC (V.int 3))) (tC (V.int 2147483587))) (gName 3))
  (tRet (tMod (tDiv (tMod (tAdd (tMul (tVar 3) (tAdd (tMod (tVar 3) (tC (V.int 30013))) (tC (V.int 11)))) (tMul (tIx K 2) (tC (V.int 6427)))) (tC (V.int 2147483647))) (tC (V.int 32))) (tVar 1))))))
theorem take_read {K : Fg} {tR : TS} {H : Hp} {b : Addr} {n : Nat} {k : Int} {Q : VK} {D : Ends} (hD : D.rt = Q) (hb : BoxAt H b n) (k0 : 0 < k) (k1 : k < 1073741824) (n1 : 1 ≤ n)
    (hq : ∀ (r : Int) H', 0 ≤ r → r < k → Keep [b] H H' → BoxAt H' b (n - 1) → Q (.int r) H')
    (hR : 10000000 < k → ∀ D' : Ends, D'.rt = Q → tR D' [some (.ref b), some (.int k), none, none] H) : tTake K tR D [some (.ref b), some (.int k), none, none] H := by
  obtain ⟨x, y, c, hb, hx, hy, hy2, hc, hn⟩ := hb
  refine ⟨_, rfl, b, _, 0, _, rfl, rfl, SqL.of hb, rfl, x, 0, rfl, rfl, _, rfl, ?_⟩
  refine ite2 (fun e => ?_) (fun e => ?_)
  · have hx1 : 0 < x := of_decide_eq_true e
    refine ⟨_, rfl, b, _, 0, _, rfl, rfl, SqL.of hb, rfl, _, rfl, x, k, rfl, rfl, k0, ?_⟩
    refine ⟨_, rfl, b, _, 0, _, rfl, rfl, SqL.of hb, rfl, _, rfl, x, k, rfl, rfl, ⟨k0, k1⟩, ?_⟩
    refine ⟨_, rfl, b, _, 0, 0, rfl, rfl, hb, rfl, ?_⟩
    refine ⟨_, rfl, ?_⟩
    show D.rt _ _
    rw [hD]
    refine hq _ _ (Int.emod_nonneg x (by omega)) (Int.emod_lt_of_pos x k0) keep_upd ⟨x / k, y, c, upd_same, Int.ediv_nonneg hx (by omega), hy, hy2, hc, by omega⟩
  · refine ⟨_, rfl, 10, 7, rfl, rfl, ⟨by decide, by decide, by decide⟩, _, _, rfl, rfl, _, rfl, ?_⟩
    refine ite2 (fun e2 => ?_) (fun e2 => ?_)
    · exact hR (by have := of_decide_eq_true e2; simpa using this) _ hD
    · refine ⟨_, rfl, b, _, 2, _, rfl, rfl, SqL.of hb, rfl, c, 1, rfl, rfl, ?_⟩
      refine ⟨_, rfl, b, _, 2, 2, rfl, rfl, hb, rfl, ?_⟩
      have hb2 : upd H b (.lst [V.int x, V.int y, V.int (c + 1)]) b = some (.lst [V.int x, V.int y, V.int (c + 1)]) := upd_same
      refine ⟨_, rfl, b, _, 1, _, rfl, rfl, SqL.of hb2, rfl, _, rfl, b, _, 2, _, rfl, rfl, SqL.of hb2, rfl, 51749, c + 1, rfl, rfl, .inl ⟨by decide, by decide⟩, y, _, rfl, rfl, _, 3, rfl, rfl, ⟨by decide, by decide, ?_⟩, _, 2147483587, rfl, rfl, (by decide : (0 : Int) < 2147483587), ?_⟩
      · omega
      have o0 : 0 ≤ (y + 51749 * (c + 1)) ^ (3 : Int).toNat % 2147483587 := Int.emod_nonneg _ (by decide)
      have o1 : (y + 51749 * (c + 1)) ^ (3 : Int).toNat % 2147483587 < 2147483587 := Int.emod_lt_of_pos _ (by decide)
      refine ⟨_, rfl, _, rfl, _, 30013, rfl, rfl, (by decide : (0 : Int) < 30013), _, 11, rfl, rfl, _, _, rfl, rfl, .inl ⟨by omega, by omega⟩, ?_⟩
      refine ⟨_, rfl, b, _, 2, _, rfl, rfl, SqL.of hb2, rfl, c + 1, 6427, rfl, rfl, .inr ⟨by decide, by decide⟩, _, _, rfl, rfl, _, 2147483647, rfl, rfl, (by decide : (0 : Int) < 2147483647), _, 32, rfl, rfl, ⟨by decide, by decide⟩, _, rfl, _, k, rfl, rfl, k0, ?_⟩
      show D.rt _ _
      rw [hD]
      exact hq _ _ (Int.emod_nonneg _ (by omega)) (Int.emod_lt_of_pos _ k0) keep_upd ⟨x, y, c + 1, upd_same, hx, hy, hy2, by omega, by omega⟩
theorem len_take {K : Fg} {mg : Str → Option Value} {dsp : DSp} (hd : ∀ args n Q E, dsp args n Q E → ∃ k : Int, args = [.box, .d (.int k)]) : ∀ vs H Q E, spD K mg dsp vs H Q E → vs.length = 2 := fun vs H Q E h => by
  obtain ⟨b, n, k, Qa, Ea, e, _⟩ := take_in h hd
  subst e; rfl
structure Scr (P : Program) (w : World) (K : Fg) (H : Hp) (h : Heap) (a : Addr) (ns : List Int) : Prop where
  few : ∀ b u, H b = some u → K.lookup b = none ∧ ∃ (o : Obj) (its : Array Value) (n : Nat), u = .frz o (.lst (ns.map V.int)) ∧ o.data = .seq its n ∧ h.get? b = some o
  sq : SqL K H a (ns.map V.int)
  ok : HOk P w H h
section
variable {P : Program} {w : World} {K : Fg} {mg mb : Str → Option Value} {k : Nat} {fa a : Addr} {fd : FuncData} {x : Str} {sp : Sp} {s₁ : Shared} {vs : List Value} {ns : List Int} {H : Hp}
theorem scr_make (KX : K.In s₁.heap) (ha : s₁.heap.get? a = some { cls := .type "list", data := .seq vs.toArray }) (hi : IntsAre vs ns) (hl : ns.length ≤ sizeLine) : ∃ H, Scr P w K H s₁.heap a ns := by
  have rv := vals_ints hi
  have e := hi.length
  cases q : K.lookup a with
  | some o =>
    have z := (KX a o q).symm.trans ha
    cases z
    refine ⟨fun _ => none, ⟨fun b u z => ?_, .inr ⟨_, _, _, q, rfl, rfl, rfl, by rw [List.size_toArray, e]; exact hl, by simpa using rv⟩, fun b u z => ?_⟩⟩
    · exact absurd (show (none : Option HO) = some u from z) (by simp)
    · exact absurd (show (none : Option HO) = some u from z) (by simp)
  | none =>
    have hit : ∀ {b : Addr} {u : HO}, (if b = a then some (HO.frz { cls := .type "list", data := .seq vs.toArray } (.lst (ns.map V.int))) else none) = some u → b = a ∧ u = .frz { cls := .type "list", data := .seq vs.toArray } (.lst (ns.map V.int)) := by
      intro b u z
      split at z
      · rename_i c; cases z; exact ⟨c, rfl⟩
      · cases z
    refine ⟨fun b => if b = a then some (HO.frz { cls := .type "list", data := .seq vs.toArray } (.lst (ns.map V.int))) else none, ⟨fun b u z => ?_, .inl (.inr ⟨_, if_pos rfl⟩), fun b u z => ?_⟩⟩
    · obtain ⟨rfl, rfl⟩ := hit z
      exact ⟨q, _, _, _, rfl, rfl, ha⟩
    · obtain ⟨rfl, rfl⟩ := hit z
      exact ⟨ha, by rw [List.length_map]; exact hl, vs, _, rv, ha⟩
theorem Scr.untracked (S : Scr P w K H s₁.heap a ns) {b : Addr} {o : Obj} {es : Array DictEntry} {ep : Nat} (e : s₁.heap.get? b = some o) (d : o.data = .dict es ep) : H b = none := by
  cases q : H b with
  | none => rfl
  | some u =>
    obtain ⟨_, o', its, n, _, d', e'⟩ := S.few b u q
    rw [e] at e'; cases e'
    rw [d] at d'; cases d'
theorem Scr.names (S : Scr P w K H s₁.heap a ns) {b : Addr} {m : Str → Option Value} (h : s₁.heap.Ns b m) : (hidT s₁.heap H).Ns b m := by
  obtain ⟨o, es, ep, e, d, r⟩ := h
  exact ⟨o, es, ep, hidT_get e (S.untracked e d), d, r⟩
theorem Scr.kin (S : Scr P w K H s₁.heap a ns) (KX : K.In s₁.heap) : K.In (hidT s₁.heap H) := fun b o e => hidT_get (KX b o e) (by
  cases q : H b with
  | none => rfl
  | some u => have z := (S.few b u q).1; rw [e] at z; cases z)
theorem law_G (KX : K.In s₁.heap) (hns : s₁.heap.Ns mainGlobals mg) (hb : s₁.heap.Ns builtinsNs mb) (hbb : ∀ x : Str, x ≠ "__name__" → mb x = bootBuiltins x) (hlim : s₁.heap.NoLimit) (hg : s₁.gens = #[])
    (hr : RoomG k callerA) (S : Scr P w K H s₁.heap a ns) (G : ∀ bs : Heap, K.In bs → bs.Ns mainGlobals mg → FnG P w K mg bs (L2.CX P w) k fa fd [x] sp) (hbind : ∀ (s : Shared) (u : Value), BindsTo s fd ⟨[u], []⟩ [(x, u)])
    (hsp : ∀ H' : Hp, SqL K H' a (ns.map V.int) → sp [.ref a] H' (fun v _ => v = .bl true) E0) :
    codeAny (model P w) callerA (.call (.ref fa) ⟨[.ref a], []⟩) (fun r s' => r = .ok (.ret (.bool true)) ∧ OldK s₁.heap s'.heap ∧ s'.os = s₁.os ∧ AllBare s'.gens) s₁ := by
  have kb := S.kin KX
  obtain ⟨mc, l1, l2⟩ := hlim
  have env : Env0 P w K mg (hidT s₁.heap H) callerA [] s₁ H := { frames := rfl, mod := ⟨kb, S.names hns, ⟨mb, S.names hb, hbb⟩, ⟨mc, S.names l1, l2⟩⟩, bs := fun _ _ z => of_hidT z, bsz := by rw [hidT_size]; exact Nat.le_refl _, funs := trivial, frf := fun b z => (List.not_mem_nil z).elim, hok := S.ok, bare := .of_eq hg }
  have go := (G _ kb (S.names hns)).run callerA [] s₁ H ⟨[.ref a], []⟩ [.ref a] [.ref a] (fun v _ => v = .bl true) E0 hr env (hbind s₁ (.ref a)) (.cons rfl .nil) (hsp H S.sq)
  refine codeAny_mono go fun r s' end' => ?_
  match r, end' with
  | .error _, ⟨_, _, _, _, _, _, _, _, _, _, _, _, z⟩ => exact z.elim
  | .ok .next, z => exact z.elim
  | .ok .brk, z => exact z.elim
  | .ok .cont, z => exact z.elim
  | .ok (.ret u), ⟨v, H', os, bare, un, ok', rv, ev⟩ =>
    have ev' : v = .bl true := ev
    subst ev'
    have eu : u = Value.bool true := rv
    subst eu
    refine ⟨rfl, .of_keep fun b o z => ?_, os, bare⟩
    cases q : H b with
    | none => exact un.keep b o z q (fun m => (List.not_mem_nil m).elim) (by simp)
    | some u =>
      obtain ⟨_, o', its, n, eu, d', e'⟩ := S.few b u q
      subst eu
      have z' := (ok' b _ (un.frzs b o' _ q)).1
      rw [e'] at z; cases z
      exact z'
end
theorem walk_G {l : PySem.W.OpenLaw} {k : Nat} {q : Program} {loose : List Str} {XP : (Str → Option Value) → Heap → Prop} {YP : World → Heap → Prop} {d : DefRec} {K : Params → Fg} {sp : Fg → Sp} {x : Str}
    (hn : l.most = some 63) (hdf : d.params.defaults = []) (hr : RoomG k callerA) (hY : ∀ (w : World) (h : Heap), YP w h → (K w.params).In h)
    (G : ∀ (w : World) (mg : Str → Option Value) (fa : Addr) (h : Heap), (K w.params).In h → h.Ns mainGlobals mg → mg d.name = some (.ref fa) →
      ∃ fd : FuncData, (∀ (s : Shared) (u : Value), BindsTo s fd ⟨[u], []⟩ [(x, u)]) ∧ ∀ bs : Heap, (K w.params).In bs → bs.Ns mainGlobals mg → FnG l.prog w (K w.params) mg bs (L2.CX l.prog w) k fa fd [x] (sp (K w.params)))
    (hsp : ∀ (K' : Fg) (H : Hp) (a : Addr) (ns : List Int), ns.length ≤ 63 → SqL K' H a (ns.map V.int) → sp K' [.ref a] H (fun v _ => v = .bl true) E0) :
    PySem.W.WalkO q loose XP YP l.row.toRowW d [] (fun f vs => PySem.call f vs) :=
  Att.attach_call hn hdf fun w s₀ s₁ mg mb fa o pm cd doc a vs ns Gr Y ho hd hcd hmg hobj hints hlen hg => by
    have KX := hY w _ Y
    obtain ⟨fd, hb, hF⟩ := G w mg fa _ KX Gr.T.g hmg
    obtain ⟨H, S⟩ := scr_make (P := l.prog) (w := w) KX hobj hints (Nat.le_trans hlen (by decide))
    exact law_G KX Gr.T.g Gr.T.b Gr.T.builtins Gr.T.nolimit hg hr S hF hb fun H' hS => hsp _ H' a ns hlen hS
def spBox (K : Fg) : Sp := fun vs H Q _ => ∃ (a : Addr) (ns : List Int) (k : Int), vs = [.ref a, .int k] ∧ SqL K H a (ns.map V.int) ∧ 0 ≤ k ∧ k ≤ 1000 ∧ ∀ p H', H p = none → Same H H' → BoxAt H' p 1099511627776 → Q (.ref p) H'
def spLaw (K : Fg) : Sp := fun vs H Q _ => ∃ (a : Addr) (ns : List Int), vs = [.ref a] ∧ SqL K H a (ns.map V.int) ∧ ns.length ≤ 63 ∧ ∀ H', Q (.bl true) H'
def sp_right : DSp := fun args n Q _ => args = [.box] ∧ 1073741824 ≤ n ∧ ∀ n', n ≤ n' + 1073741824 → Q (.d (.bool true)) n'
def exT (K : Fg) (tt : DTT) : TT := fun σ H Q => ∃ F : Fx, liftT K F tt σ H Q
theorem pt_ex {X : Cx} {e : Expr} {tt : DTT} (h : ∀ F : Fx, DT X F e tt) : PT X e (exT X.K tt) := ⟨fun pins s σ H Q I ⟨F, q⟩ => (h F).run pins s σ H Q I q⟩
theorem rep_box {K : Fg} {H : Hp} {p : Addr} {n : Nat} {σ : St} {ds : DS} {i : Nat} (hb : BoxAt H p n) (hn : ds.n = n) (hl : ds.sl.length = σ.length) (hi : σ[i]? = some (some (.ref p))) (hd : ds.sl[i]? = some (some .box))
    (ho : ∀ (j : Nat) (dv : DV), j ≠ i → ds.sl[j]? = some (some dv) → ∃ v, σ[j]? = some (some v) ∧ ∃ x, dv = .d x ∧ flat x = true ∧ Rp K H [p] v x) : Rep K ⟨H, [p], [p], []⟩ H [p] σ ds := by
  obtain ⟨xs, ex⟩ := hb.some
  subst hn
  have mo : ∀ (j : Nat) (q : Addr), MutAt σ ds j q → j = i ∧ q = p := fun j q ⟨h0, h1, dv, h2, h3, h4⟩ => by
    by_cases c : j = i
    · subst c
      rw [hi] at h1; cases h1
      rw [hd] at h2; cases h2
      rcases h4 with rfl | h4
      · exact ⟨rfl, rfl⟩
      · cases h4
    · obtain ⟨v, ev, x, e, _⟩ := ho j dv c h2
      subst e
      exact h3.elim
  have bo : ∀ (j : Nat) (q : Addr), BoxS σ ds j q → j = i ∧ q = p := fun j q ⟨h1, h2⟩ => mo j q (mutAt h1 h2 trivial)
  refine { lo := fun q hq => ?_, sub := fun q hq => hq, ext := fun a o h _ => h, sl := fun j dv h => ?_, mu := fun j j' q h h' => by rw [(mo j q h).1, (mo j' q h').1], new := fun j q h => .inr (by rw [(mo j q h).2]; simp), newO := fun j q xs h1 h2 => ?_, bx := fun q hq => .inr (by rw [List.mem_singleton.mp hq]; exact hb), bu := fun j q h q' hq' => by rw [(bo j q h).2]; exact .inl (List.mem_singleton.mp hq'), b1 := fun j j' q q' h h' => by rw [(bo j q h).1, (bo j' q' h').1], fo := fun q hq => ?_, bo := fun q hq => hq, len := hl, nm := fun j c a q h _ => ?_ }
  · rw [List.mem_singleton.mp hq]; exact ⟨_, ex, rfl⟩
  · by_cases c : j = i
    · subst c
      rw [hd] at h; cases h
      exact ⟨_, hi, p, rfl, by simp, hb⟩
    · obtain ⟨v, ev, x, e, _, r⟩ := ho j dv c h
      subst e
      exact ⟨v, ev, r⟩
  · have m := mo j q (mutAt (h1) h2 trivial)
    rw [m.1, hd] at h2
    cases h2
  · have e : q = p := List.mem_singleton.mp hq
    subst e
    show H q ≠ none
    rw [ex]; simp
  · by_cases z : j = i
    · subst z
      rw [hd] at h; cases h
    · obtain ⟨v, ev, x, e, _⟩ := ho j _ z h
      cases e
theorem exT_use {K : Fg} {tt : DTT} {σ : St} {H : Hp} {Q : Bool → Hp → Prop} {p : Addr} {ds : DS} {i : Nat} {Qa : Bool → DS → Prop} (R : Rep K ⟨H, [p], [p], []⟩ H [p] σ ds) (ht : tt ds Qa) (hi : ∀ j q, MutAt σ ds j q → q = p)
    (hq : ∀ b ds' H', (∀ a o, H a = some o → a ≠ p → H' a = some o) → Qa b ds' → Q b H') : exT K tt σ H Q :=
  ⟨_, [p], ds, Qa, R, ht, fun b ds' H' O' s R' q => hq b ds' H' (fun a o h n => s.kp a o h fun j m => n (hi j a m)) q⟩
theorem same_but {H0 H1 H2 : Hp} {p : Addr} (h0 : H0 p = none) (h : Same H0 H1) (h' : ∀ a o, H1 a = some o → a ≠ p → H2 a = some o) : Same H0 H2 := fun a o e => h' a o (h a o e) (by intro z; subst z; rw [h0] at e; cases e)
def blkB (N : List Str) (up : List (Str × NameKind)) (scope : Scope) (own : List (Str × Nat)) : Bool :=
  (match scope.kind with | .function => true | _ => false) && scope.names.all (fun y => scope.names.lookup y.1 == some y.2) && own.all (fun p => N[p.2]? == some p.1) &&
  scope.names.all (fun y => match y.2 with | .free => up.lookup y.1 == some .cell || up.lookup y.1 == some .free | .local => own.any (fun p => p.1 == y.1) || !N.any (fun z => z == y.1) | .cell => own.any (fun p => p.1 == y.1) || !N.any (fun z => z == y.1) | _ => true)
theorem blk_of {N : List Str} {sc scope : Scope} {own : List (Str × Nat)} (h : blkB N sc.names scope own = true) : BlkOk N sc scope own := by
  unfold blkB at h
  simp only [Bool.and_eq_true, List.all_eq_true] at h
  obtain ⟨⟨⟨h1, h2⟩, h3⟩, h4⟩ := h
  have fin : ∀ y : Str × NameKind, (own.any (fun p => p.1 == y.1) || !N.any (fun z => z == y.1)) = true → y.1 ∈ own.map (·.1) ∨ y.1 ∉ N := fun y h => by
    rw [Bool.or_eq_true] at h
    rcases h with h | h
    · obtain ⟨p, hp, ep⟩ := List.any_eq_true.mp h
      exact .inl (List.mem_map.mpr ⟨p, hp, by simpa using ep⟩)
    · refine .inr fun hm => ?_
      have : N.any (fun z => z == y.1) = true := List.any_eq_true.mpr ⟨y.1, hm, by simp⟩
      rw [this] at h; cases h
  refine ⟨?_, fun y hy => by simpa using h2 y hy, fun p hp => by simpa using h3 p hp, fun y hy e => ?_, fun y hy e => ?_⟩
  · revert h1; cases scope.kind <;> simp
  · have := h4 y hy
    rw [e] at this
    simpa using this
  · have := h4 y hy
    rcases e with e | e <;> rw [e] at this <;> exact fin y this
theorem bit0 (b : Bool) : (0 : Int) ≤ (if b = true then 1 else 0) := by cases b <;> decide
theorem bit64 (b : Bool) : -(2 ^ 64) < (if b = true then (1 : Int) else 0) ∧ (if b = true then (1 : Int) else 0) < 2 ^ 64 := by cases b <;> decide
theorem abs_ge (c : Int) : 0 ≤ (if c < 0 then -c else c) := by split <;> omega
theorem at_int {ns : List Int} {k : Int} (h0 : 0 ≤ k) (h : k < (ns.length : Int)) : ∃ v : Int, atI (ns.map V.int) k = some (.int v) := by
  have hk : k.toNat < ns.length := by omega
  have ek : k = ((k.toNat : Nat) : Int) := by omega
  have q : atI (ns.map V.int) ((k.toNat : Nat) : Int) = some (.int ns[k.toNat]) := atI_nat (by rw [List.getElem?_map, List.getElem?_eq_getElem hk]; rfl)
  rw [← ek] at q
  exact ⟨_, q⟩
theorem bools_true : ∀ i : Nat, boolsD (List.replicate i (.bool true)) = some (List.replicate i true)
  | 0 => rfl
  | i + 1 => by rw [List.replicate_succ, boolsD, bools_true i]; rfl
theorem all_true : ∀ i : Nat, (List.replicate i true).all id = true
  | 0 => rfl
  | i + 1 => by rw [List.replicate_succ, List.all_cons, all_true i]; rfl
def tAllRight (m : Int) : DTT := dNot (dTr (dCB fAll (dCons (dLc (dRng1 (dCons (dC (.int m)) dNil)) (gdName 3) dYes (dCall sp_right (fun as => as) (dCons (dVar 2) dNil)) [3]) dNil)))
theorem all_right {m k : Int} (h0 : 0 ≤ m) (h : m ≤ 1000) : tAllRight m ⟨[none, some (.d (.int k)), some .box, none], 1099511627776⟩ (fun b _ => b = false) := by
  refine lc_in (its := rangeD 0 m.toNat) (ds1 := ⟨[none, some (.d (.int k)), some .box, none], 1099511627776⟩) (fun K hK => ⟨by omega, by omega, hK⟩) rfl (fun i acc ds => acc = List.replicate i (.bool true) ∧ ∃ n, ds = ⟨[none, some (.d (.int k)), some .box, none], n⟩ ∧ 1099511627776 ≤ n + i * 1073741824) ⟨rfl, _, rfl, by show 1099511627776 ≤ 1099511627776 + 0 * 1073741824; decide⟩ ?_ ?_
  · rintro i d acc ds2 hi ⟨rfl, n, rfl, hn⟩
    have hi' : i < m.toNat := by
      have := List.getElem?_eq_some_iff.mp hi
      obtain ⟨q, _⟩ := this
      rw [rangeD_len] at q
      exact q
    refine ⟨rfl, by show 1073741824 ≤ n; omega, fun n' hn' => ?_⟩
    have hn2 : n ≤ n' + 1073741824 := hn'
    exact ⟨by rw [List.replicate_succ'], n', rfl, by omega⟩
  · rintro acc ds2 ⟨rfl, n, rfl, hn⟩
    show someD (boolsD _) _
    rw [rangeD_len, bools_true]
    show (!((List.replicate m.toNat true).all id)) = false
    rw [all_true]; rfl
def tLaw (K : Fg) (c : Int) (tt : DTT) : TS :=
  tSeq (tFor (iRng1 (tCons (tAdd (tC (.int 1)) (tCB (fun xs H Q => ∃ i j, xs = [V.int i, V.int j] ∧ Q (V.int (if j < i then j else i)) H) (tCons (tC (.int c)) (tCons (tCB (fun xs H Q => ∃ p ys, xs = [V.ref p] ∧ (SqL K H p ys ∨ SqT K H p ys) ∧ Q (V.int ys.length) H) (tCons (tVar 0) tNil)) tNil)))) tNil)) (gName 1)
    (tSeq (tAsg (tCall (spBox K) [] E0 (tCons (tVar 0) (tCons (tVar 1) tNil))) (gName 2)) (tIfS (exT K tt) (tRet (tC (.bl false))) tNext)))
  (tRet (tC (.bl true)))
theorem law_read {K : Fg} {c : Int} {tt : DTT} {a : Addr} {ns : List Int} {H : Hp} {Q : VK} (c0 : 0 ≤ c) (c1 : c ≤ 100) (sq : SqL K H a (ns.map V.int)) (q : ∀ H', Q (.bl true) H')
    (ht : ∀ k : Int, tt ⟨[none, some (.d (.int k)), some .box, none], 1099511627776⟩ (fun b _ => b = false)) : tLaw K c tt { nx := fun _ H' => Q .non H', rt := Q } [some (.ref a), none, none, none] H := by
  refine ⟨_, rfl, a, _, rfl, .inl sq, _, _, rfl, _, _, rfl, rfl, _, rfl, by omega, by split <;> omega, ?_⟩
  have hm : (1 + if (((ns.map V.int).length : Nat) : Int) < c then (((ns.map V.int).length : Nat) : Int) else c).toNat ≤ 1000 := by split <;> omega
  generalize (1 + if (((ns.map V.int).length : Nat) : Int) < c then (((ns.map V.int).length : Nat) : Int) else c).toNat = m at hm ⊢
  refine ⟨fun i m' σ H' => m' = 2000 - i ∧ Same H H' ∧ ∃ u v, σ = [some (.ref a), u, v, none], ⟨2000, by omega, fun _ _ z => z, none, none, rfl⟩, ?_⟩
  rintro i m' σ H1 ⟨rfl, s1, u, v, rfl⟩
  by_cases hi : m ≤ i
  · exact .inl ⟨hi, q _⟩
  · refine .inr ⟨(by omega : i < m), fun σ H' => Same H H' ∧ ∃ u v, σ = [some (.ref a), u, v, none], fun σ' H' ⟨h1, h2⟩ => ⟨2000 - (i + 1), by omega, rfl, h1, h2⟩, ?_⟩
    rintro x H2 ⟨rfl, rfl⟩
    refine ⟨_, rfl, _, rfl, a, ns, _, rfl, s1.seq sq, by omega, by omega, fun p H3 hp s3 bx => ?_⟩
    refine exT_use (p := p) (i := 2) (ds := ⟨[none, some (.d (.int (0 + (i : Nat)))), some .box, none], 1099511627776⟩) (Qa := fun b _ => b = false) (rep_box (i := 2) bx rfl rfl rfl rfl ?_) (ht _) ?_ ?_
    · intro j dv hj e
      rcases j with _ | _ | _ | _ | j
      · simp at e
      · cases e; exact ⟨_, rfl, _, rfl, rfl, .int _⟩
      · exact absurd rfl hj
      · simp at e
      · simp at e
    · rintro j r ⟨e0, e1, dv, e2, e3, e4⟩
      rcases j with _ | _ | _ | _ | j
      · simp at e2
      · simp at e2; subst e2; exact e3.elim
      · have e5 := (V.ref.inj (Option.some.inj (Option.some.inj e1))).symm
        cases e2
        rcases e4 with e4 | e4
        · rw [e4, e5]
        · cases e4
      · simp at e2
      · simp at e2
    · intro b ds' H4 kp hb
      subst hb
      exact ⟨same_but (H0 := H) (p := p) (by
        cases z : H p with
        | none => rfl
        | some o => rw [s1 p o z] at hp; cases hp) (s1.trans s3) kp, _, _, rfl⟩
structure Bi (mg : Str → Option Value) : Prop where
  b_abs : mg "abs" = none
  b_all : mg "all" = none
  b_any : mg "any" = none
  b_bool : mg "bool" = none
  b_dict : mg "dict" = none
  b_enumerate : mg "enumerate" = none
  b_int : mg "int" = none
  b_isinstance : mg "isinstance" = none
  b_len : mg "len" = none
  b_list : mg "list" = none
  b_max : mg "max" = none
  b_min : mg "min" = none
  b_range : mg "range" = none
  b_repr : mg "repr" = none
  b_set : mg "set" = none
  b_sorted : mg "sorted" = none
  b_str : mg "str" = none
  b_sum : mg "sum" = none
  b_tuple : mg "tuple" = none
  b_zip : mg "zip" = none
theorem pick2 {ix : List Nat} {n : Nat} {ws : List Value} (hl : (pick 2 ix ws).length = n) (hn : 0 < n := by decide) : ∃ u0 u1, ws = [u0, u1] := by
  unfold pick at hl
  split at hl
  · match ws with
    | [u0, u1] => exact ⟨u0, u1, rfl⟩
  · simp at hl; omega
theorem pick3 {ix : List Nat} {n : Nat} {ws : List Value} (hl : (pick 3 ix ws).length = n) (hn : 0 < n := by decide) : ∃ u0 u1 u2, ws = [u0, u1, u2] := by
  unfold pick at hl
  split at hl
  · match ws with
    | [u0, u1, u2] => exact ⟨u0, u1, u2, rfl⟩
  · simp at hl; omega
def itsX : D → Option (List D)
  | .list xs => some xs
  | _ => none
def spPick (K : Fg) : Sp := fun vs H Q _ => ∃ (b l : Addr) (xs : List V) (n : Nat), vs = [.ref b, .ref l] ∧ BoxAt H b n ∧ (SqL K H l xs ∨ SqT K H l xs) ∧ l ≠ b ∧ 0 < xs.length ∧ xs.length ≤ 100000 ∧ 3 ≤ n ∧ ∀ v ∈ xs, ∀ H', Keep [b] H H' → BoxAt H' b (n - 3) → Q v H'
structure PrH (P : Program) (w : World) (K : Fg) (mg : Str → Option Value) (base : Heap) (k : Nat) (x : Str) (st : Stmt) (ps : List Str) (sp : Sp) : Prop where
  ex : ∃ f fd, FnG P w K mg base (L2.CX P w) k f fd ps sp ∧ Fun K x x st f fd ∧ mg x = some (.ref f) ∧ Binds K fd ps []
theorem PrH.mono {P : Program} {w : World} {K : Fg} {mg : Str → Option Value} {base : Heap} {k j : Nat} {x : Str} {st : Stmt} {ps : List Str} {sp : Sp} (h : PrH P w K mg base k x st ps sp) (hj : k ≤ j) : PrH P w K mg base j x st ps sp := by
  obtain ⟨f, fd, G, r⟩ := h.ex
  exact ⟨f, fd, G.mono hj, r⟩
section
variable {X : Cx} {F : Fx} {k : Nat} {x : Str} {st : Stmt} {ps : List Str} {p pos : Pos} {e0 e1 : Expr} {te : DTE}
def dPick (i : Nat) (te : DTE) : DTE := fun ds Q => match ds.sl[i]? with
  | some (some .box) => te ds fun y ds1 => match ds1.sl[i]?, (peek ds1 y).bind itsX with
    | some (some .box), some xs => 0 < xs.length ∧ xs.length ≤ 100000 ∧ 3 ≤ ds1.n ∧ ∀ z ∈ xs, Q (.d z) ⟨ds1.sl, ds1.n - 3⟩
    | _, _ => False
  | _ => False
theorem de_pick {i : Nat} (I : PrH X.prog X.w X.K X.mg X.base k x st ps (spPick X.K)) (hr : RoomG k X.A) (hg : Gl X x) (h0 : PE X e0 (tVar i)) (h1 : DE X F e1 te) (hdb : (x == ("__debug__" : Str)) = false := by decide)
    (hs : starEach [e0, e1] X.env = (false, eval e0 X.env) :: starEach [e1] X.env := by rfl) (hs1 : starEach [e1] X.env = (false, eval e1 X.env) :: starEach [] X.env := by rfl) (hpl : (backTo pos (starEach [e1] X.env)).any (·.1) = false := by rfl) :
    DE X F (.Call (.Name x p) [e0, e1] [] pos) (dPick i te) := by
  obtain ⟨f, fd, G, Fu, g, bn⟩ := I.ex
  refine PE_imp (pe_callG G hr hg g Fu.kp bn .nil passX (pa_cons h0 (pa_cons h1 pa_nil hs1) hs) hdb hs hpl) fun σ H Q ⟨O, ds, Qa, R, ht, hq⟩ => ?_
  unfold dPick at ht
  split at ht
  · rename_i eb0
    obtain ⟨vb, ev, b, eb, hbO, hbx⟩ := R.sl i _ eb0
    subst eb
    refine ⟨_, ev, O, ds, _, R, ht, fun y ds1 v H1 O1 s1 R1 ry hy => ?_⟩
    split at hy
    · rename_i xs eb1 ei
      obtain ⟨vb', ev', b', eb', hbO', hbx'⟩ := R1.sl i _ eb1
      subst eb'
      rw [ev] at ev'
      cases ev'
      obtain ⟨x0, x1, x3, hz⟩ := hy
      have nodeB : ∀ l vs, (SqL X.K H1 l vs ∨ SqT X.K H1 l vs) → RpL X.K H1 O1 vs xs → v = .ref l → l ≠ b → spPick X.K ([.ref b, v] ++ []) H1 Q E0 := by
        intro l vs sq rl el ne
        subst el
        refine ⟨b, l, vs, ds1.n, rfl, hbx', sq, ne, by rw [rl.length]; exact x0, by rw [rl.length]; exact x1, x3, fun u hu H' kp bx => ?_⟩
        obtain ⟨m, hm⟩ := List.mem_iff_getElem?.mp hu
        have ml : m < xs.length := by rw [← rl.length]; exact (List.getElem?_eq_some_iff.mp hm).1
        obtain ⟨u', eu', ru⟩ := rl.get (List.getElem?_eq_getElem ml)
        rw [hm] at eu'
        cases eu'
        obtain ⟨R2, s2⟩ := R1.called (n' := ds1.n - 3) kp (fun c hc => by rw [List.mem_singleton.mp hc]; exact ⟨bx, i, ev, eb1⟩) (fun z => by cases z) O1 grow_refl (fun _ h => h) (fun q h1 h2 => absurd h1 h2)
        have ru' : Rp X.K H' O1 u xs[m] := Rp.mv R1.lo (s2.keepO R1) s2.o1 ru
        exact hq (.d xs[m]) _ u H' O1 (s1.trans s2) R2 ru' (hz _ (List.getElem_mem ml))
      have data : ∀ zs, Rp X.K H1 O1 v (.list zs) → zs = xs → spPick X.K ([.ref b, v] ++ []) H1 Q E0 := by
        intro zs hz' ez
        subst ez
        cases hz' with
        | lst h1' l1 => exact nodeB _ _ (.inl (.inl (.inl h1'.1))) l1 rfl fun z => h1'.2 (z ▸ hbO')
      cases y with
      | exc xa xb => exact ry.elim
      | fd xc => cases ei
      | d z =>
        have e2 : itsX z = some xs := ei
        cases z with
        | list zs => cases e2; exact data _ ry rfl
        | _ => cases e2
      | own zs =>
        have e2 : some zs = some xs := ei
        cases e2
        obtain ⟨l, vs, el, pO1, pO, pF, pH, pL⟩ := ry
        exact nodeB l vs (.inl (.inl (.inl pH))) pL el fun z => pO (z ▸ hbO)
      | box => exact ry.elim
      | mu c q => cases ei
      | slot m =>
        obtain ⟨c1, dv, c2⟩ := ry
        simp only [peek] at ei
        rw [c2] at ei
        obtain ⟨v', ev2, rs⟩ := R1.sl m _ c2
        rw [c1] at ev2
        cases ev2
        cases dv with
        | exc xa xb => cases ei
        | fd xc => cases ei
        | d z =>
          have e2 : itsX z = some xs := ei
          cases z with
          | list zs => cases e2; exact data _ rs rfl
          | _ => cases e2
        | own zs =>
          have e2 : some zs = some xs := ei
          cases e2
          obtain ⟨l, vs, el, pO, pH, pL⟩ := rs
          subst el
          refine nodeB l vs (.inl (.inl (.inl pH))) pL rfl fun z => ?_
          subst z
          have := R1.mu m i l (mutAt c1 c2 trivial) (mutAt ev eb1 trivial)
          subst this
          rw [eb1] at c2
          cases c2
        | box => cases ei
        | mu c q => cases ei
        | slot q => exact rs.elim
    · exact hy.elim
  · exact ht.elim
end
section
variable {X : Cx} {F : Fx} {e a b : Expr} {ta tb : DTE} {tA : DTA} {p p2 q pos : Pos}
def rgD (i j : Int) : List D := rangeD i (j - i).toNat
theorem rp_rg {K : Fg} {H : Hp} {O : List Addr} {i j : Int} : RpL K H O (rgV i j) (rgD i j) := by
  unfold rgV rgD rangeD
  have : ∀ l : List Nat, RpL K H O (l.map fun k => V.int (i + (k : Nat))) (l.map fun k => PyData.int (i + (k : Nat))) := by
    intro l
    induction l with
    | nil => exact .nil
    | cons x l ih => exact .cons (.int _) ih
  exact this _
def rgOk (i j : Int) : Prop := -1000000000 ≤ i ∧ i ≤ 1000000000 ∧ -1000000000 ≤ j ∧ j ≤ 1000000000 ∧ j - i ≤ 16777216
theorem rgOk.ok {i j : Int} (h : rgOk i j) : RgOk i j := by
  obtain ⟨h1, h2, h3, h4, h5⟩ := h
  exact ⟨by omega, by omega, by omega, by omega, by omega⟩
def dRg1 (mk : List D → DV) (ta : DTE) : DTE := fun ds Q => ta ds fun x ds1 => match peek ds1 x with
  | some (.int j) => rgOk 0 j ∧ Q (mk (rgD 0 j)) ds1
  | _ => False
abbrev mkL (xs : List D) : DV := .own xs
theorem de_lrg1 (hg : Gl X "list") (hm : X.mg "list" = none) (hg2 : Gl X "range") (hm2 : X.mg "range" = none) (ha : DE X F a ta) (hc : X.calm = true := by rfl) (na : starEach [a] X.env = (false, eval a X.env) :: starEach [] X.env := by rfl)
    (nb : starEach [.Call (.Name "range" p2) [a] [] q] X.env = (false, eval (.Call (.Name "range" p2) [a] [] q) X.env) :: starEach [] X.env := by rfl) : DE X F (.Call (.Name "list" p) [.Call (.Name "range" p2) [a] [] q] [] pos) (dRg1 mkL ta) :=
  PE_imp (pe_listRg hc hg hm (prg_1 hg2 hm2 ha na) nb) fun σ H Q ⟨O, ds, Qa, R, ht, hq⟩ => ⟨O, ds, _, R, ht, fun x ds1 v H1 O1 s1 R1 rx hx => by
    split at hx
    · rename_i j e1
      exact ⟨j, (RpV.vw R1 rx e1).int, hx.1.ok, fun l hl => (mkCont R s1 R1 hq).lst l _ _ hl rp_rg hx.2⟩
    · exact hx.elim⟩
end
abbrev EA := Str → Option (Str × D) → DS → Prop
structure Ok0 (K : Fg) (F : Fx) (E : DEn) (D : Ends) : Prop where
  nx : ∀ O' ds' σ' H', Rep K F H' O' σ' ds' → E.nx ds' → D.nx σ' H'
  rt : ∀ O' ds' σ' H' v dv, Rep K F H' O' σ' ds' → RpQ K F H' O' v dv → E.rt dv ds' → D.rt v H'
  bk : ∀ O' ds' σ' H', Rep K F H' O' σ' ds' → E.bk ds' → D.bk σ' H'
  ct : ∀ O' ds' σ' H', Rep K F H' O' σ' ds' → E.ct ds' → D.ct σ' H'
def liftS0 (K : Fg) (F : Fx) (t : DTS) : TS := fun D σ H => ∃ O ds E, Rep K F H O σ ds ∧ t E ds ∧ Ok0 K F E D
section
variable {prog : Program} {w : World} {A : Around} {E : Value → Shared → Prop} {s : Shared}
theorem meets_enum1 {v : Value} {o : Obj} {H : Heap → Prop} (B : PySem.Begins v o H) :
    Meets (Builtin.«enumerate.__new__» ⟨[.type "enumerate", v], []⟩) (fun _ R s => H s.heap ∧
      R (.ok (.ret (.ref (s.heap.push o).objs.size))) { s with heap := (s.heap.push o).push { cls := .type "enumerate", data := .fields #[.none, .bool false, .ref s.heap.objs.size, rawInt 0, .none, .none] } }) :=
  .of_wp fun prog w A R s h => by
    obtain ⟨hp, g, d, tk, os⟩ := s; obtain ⟨h1, h⟩ := h
    have hsub := sub_enumerate
    have q1 : ∀ {A' : Around} {E : Value → Shared → Prop} {Q : Value → Shared → Prop}, Q (.ref hp.objs.size) ⟨hp.push o, g, d, tk, os⟩ → wpAny (model prog w) A' (pyIter v) Q E ⟨hp, g, d, tk, os⟩ :=
      fun q => B.iter prog w _ _ ⟨hp, g, d, tk, os⟩ _ h1 q
    wp_walk using q1
    refine wpAny_stack_any fun st => wpAny_pure ?_
    split
    · rename_i c _ _ _ _ _
      cases (c == Value.type "enumerate")
      · wp_walk using q1
        exact ⟨_, rfl, h⟩
      · wp_walk using q1
        exact ⟨_, rfl, h⟩
    · wp_walk using q1
      exact ⟨_, rfl, h⟩
theorem call_enumT {l : Addr} {items : Array Value} {Q : Value → Shared → Prop} (hL : s.heap.IsTuple l items)
    (h : ∀ h', IsEnum h' (s.heap.objs.size + 1) s.heap.objs.size 0 .none → h'.IsTupleIter s.heap.objs.size l 0 → h'.objs.size = s.heap.objs.size + 2 →
      (∀ b o, s.heap.get? b = some o → h'.get? b = some o) → Q (.ref (s.heap.objs.size + 1)) { s with heap := h' }) :
    wpAny (model prog w) A (call (.type "enumerate") [.ref l]) Q E s := by
  refine callType_new F.called_enumerate (by decide) (F.typeCall_enumerate_1 _) (F.newCall_enumerate_1 _) (fun obj => F.args_object_init_2 obj _) F.entry_enumerate_new
    (meets_enum1 (PySem.begins_tuple l items)) ⟨hL, ?_⟩
  have hz : (s.heap.push { cls := .type "tuple_iterator", data := .fields #[.ref l, .int 0 0] }).objs.size = s.heap.objs.size + 1 := Heap.size_push ..
  show _ ∧ _
  rw [hz]
  have he : IsEnum ((s.heap.push { cls := .type "tuple_iterator", data := .fields #[.ref l, .int 0 0] }).push
      { cls := .type "enumerate", data := .fields #[.none, .bool false, .ref s.heap.objs.size, rawInt 0, .none, .none] }) (s.heap.objs.size + 1) s.heap.objs.size 0 .none := by
    have := Heap.get?_push_size (s.heap.push { cls := .type "tuple_iterator", data := .fields #[.ref l, .int 0 0] })
      (o := { cls := .type "enumerate", data := .fields #[.none, .bool false, .ref s.heap.objs.size, rawInt 0, .none, .none] }) rfl
    rw [hz] at this; exact this
  refine ⟨⟨_, he, rfl⟩, h _ he ⟨_, Heap.get?_push_of_some _ (Heap.get?_push_size _ rfl), rfl, rfl⟩ (by rw [Heap.size_push, hz]) fun b o x => Heap.get?_push_of_some _ (Heap.get?_push_of_some _ x)⟩
end
def IteT (K : Fg) (a : Addr) : It :=
  ⟨fun i H => ∃ (xs : List V) (x : V), SqT K H a xs ∧ xs[i]? = some x, fun i H v H' => ∃ T x, v = .ref T ∧ H T = none ∧ H' = upd H T (.tup [.int (i : Nat), x]) ∧ ∀ xs, SqT K H a xs → xs[i]? = some x, fun i H => ∃ xs : List V, SqT K H a xs ∧ xs.length = i⟩
theorem turn_enumT {P : Program} {w : World} {K : Fg} {elts : List Expr} {kk : Nat} {tpos : Pos} (a e it : Addr) :
    Turn P w K (.Tuple elts kk tpos) (IteT K a) [e, it] e (fun i h => (∃ old, IsEnum h e it ((i : Nat) : Int) old) ∧ h.IsTupleIter it a i ∧ e ≠ it ∧ a ≠ it ∧ e ≠ a) where
  mem := by simp
  obj := fun i h st b hb => by
    obtain ⟨⟨old, he⟩, ⟨o, ho, hc, hd⟩, _⟩ := st
    have e' : b = e ∨ b = it := by simpa using hb
    rcases e' with z | z
    · rw [z]; exact ⟨_, he, fun v q => nomatch q⟩
    · rw [z]; exact ⟨o, ho, fun v q => by rw [hd] at q; cases q⟩
  keep := fun i h h' st k => let ⟨⟨old, he⟩, hi, hne⟩ := st; ⟨⟨old, k e (by simp) _ he⟩, hi.at fun o q => k it (by simp) o q, hne⟩
  item := by
    intro X hP hw hK hc i pins s σ H E I hf st hg
    subst hP hw hK
    obtain ⟨⟨old, he⟩, hit, hne, hai, hea⟩ := st
    obtain ⟨xs, x, hq, hx⟩ := hg
    obtain ⟨its, rv, p, hz⟩ := I.tuple hq
    obtain ⟨u, hu, ru⟩ := rv.get hx
    have hel : e < s.heap.objs.size := Heap.lt_size he
    have hil : it < s.heap.objs.size := by obtain ⟨_, q, _⟩ := hit; exact Heap.lt_size q
    have il : i < its.toArray.size := by have := (List.getElem?_eq_some_iff.mp hu).1; simpa using this
    refine wpAny_pyNext_enum_itemD (PySem.Draws.tuple (A := X.A.in1) (I.ok.hd hc) it a hai its.toArray) he ⟨hit, p⟩ il hne (by simp [hne, hea]) fun x' h' tk hx' ho hit' hT hsz hk => ?_
    have ex : x' = u := by
      have h1 : its.toArray[i]? = some u := by simpa using hu
      rw [h1] at hx'; cases hx'; rfl
    subst ex
    refine ⟨_, rfl, wpAny_letOwnedTupleGo_enum (s := { s with heap := h', toks := tk + 1 }) ho fun h'' he' sb => ?_⟩
    have hT2 : h''.get? s.heap.objs.size = some { cls := .type "tuple", data := .seq #[.int i tk, x'] } := (sb.2 _ (Nat.ne_of_gt hel)).trans hT
    have new : ObjOk X.prog X.w (upd H s.heap.objs.size (.tup [.int (i : Nat), x])) h'' s.heap.objs.size (.tup [.int (i : Nat), x]) :=
      ⟨by show 2 ≤ sizeLine; decide, [.int i tk, x'], .cons ⟨_, rfl⟩ (.cons ru .nil), ⟨_, hT2, rfl, _, rfl⟩⟩
    have I1 : Inv X pins σ (upd H s.heap.objs.size (.tup [.int (i : Nat), x])) { s with heap := h'', toks := tk + 1 } :=
      I.turnedNew (ch := [e, it]) (fun b ob hb q => (sb.2 b (fun z => hb (by simp [z]))).trans (hk b ob (fun z => hb (by simp [z])) (fun z => hb (by simp [z])) q)) hf (Nat.le_refl _) new
    refine ⟨.ref s.heap.objs.size, _, I1, rfl, ⟨_, x, rfl, I.hok.fresh (Nat.le_refl _), rfl, fun ys hy => by rw [I.tuple_inj hy hq]; exact hx⟩, ⟨⟨x', ?_⟩, hit'.1.at fun o q => (sb.2 it (Ne.symm hne)).trans q, hne, hai, hea⟩, fun b hb => ?_⟩
    · have e1 : ((i + 1 : Nat) : Int) = (i : Int) + 1 := by omega
      rw [e1]; exact he'
    · have hb' : b < s.heap.objs.size := by
        have e' : b = e ∨ b = it := by simpa using hb
        rcases e' with z | z
        · rw [z]; exact hel
        · rw [z]; exact hil
      rw [upd_ne (Nat.ne_of_lt hb')]
      exact (hf b hb).1
  done := by
    intro X hP hw hK hc i pins s σ H E I hf st hg
    subst hP hw hK
    obtain ⟨⟨old, he⟩, hit, hne, hai, hea⟩ := st
    obtain ⟨xs, hq, hx⟩ := hg
    obtain ⟨its, rv, p, hz⟩ := I.tuple hq
    obtain ⟨f0, f1, f2, f3, f4, f5⟩ := hf it (by simp)
    have hl := rv.length
    have hi : i = its.toArray.size := by simp; omega
    subst hi
    exact wpAny_pyNext_enum_endD (PySem.Draws.tuple (A := X.A.in1) (I.ok.hd hc) it a hai its.toArray) he ⟨hit, p⟩ fun h' eb => ⟨rfl, I.turned (t' := s.toks) (fun b o hb q => eb b o hb q) f0 f1 f3 f4 f5⟩
  self := fun A i s Q E st h => let ⟨⟨_, he⟩, _⟩ := st; wpAny_pyIter_enum he h
def iEnumT (K : Fg) (ta : TA) : TI := fun σ H R => ta σ H fun vs H1 => ∃ a xs, vs = [.ref a] ∧ ((SqL K H1 a xs ∧ R (Ite K a) H1) ∨ (SqT K H1 a xs ∧ R (IteT K a) H1))
theorem pi_enumT {X : Cx} {e : Expr} {ta : TA} {p pos tpos : Pos} {elts : List Expr} {kk : Nat} (hg : Gl X "enumerate") (hm : X.mg "enumerate" = none) (ha : PA X [e] ta) (hs : starEach [e] X.env = [(false, eval e X.env)] := by rfl) :
    PI X (.Tuple elts kk tpos) (.Call (.Name "enumerate" p) [e] [] pos) (iEnumT X.K ta) := by
  refine ⟨fun pins s σ H R I h => ?_⟩
  refine Call_ (ld_blt I hg hm boot_enumerate (PyProof.Rows.callWith_type1 (thn (ha.run pos pins s σ H _ I h) fun us s1 ⟨vs, H1, I1, r1, q1⟩ => ?_) hs rfl))
  obtain ⟨a, xs, ex, q1⟩ := q1
  subst ex
  cases r1 with
  | cons r rr =>
    cases rr
    cases r
    have fp : ∀ b ∈ [s1.heap.objs.size + 1, s1.heap.objs.size], FpOk X pins H1 b := fun b hb => by
      have e' : b = s1.heap.objs.size + 1 ∨ b = s1.heap.objs.size := by simpa using hb
      have hle : s1.heap.objs.size ≤ b := by
        rcases e' with z | z
        · rw [z]; exact Nat.le_add_right _ _
        · rw [z]; exact Nat.le_refl _
      exact I1.fpOk hle (I1.hok.fresh hle)
    rcases q1 with ⟨hq, q⟩ | ⟨hq, q⟩
    · obtain ⟨its, rv, p', hz⟩ := I1.list hq
      refine call_enumerate_list p'.isList fun h' he hit hsz hk => wpAny_pyIter_enum he ?_
      have I2 : Inv X pins σ H1 { s1 with heap := h' } := I1.kept (t' := s1.toks) hk
      exact ⟨s1.heap.objs.size + 1, [s1.heap.objs.size + 1, s1.heap.objs.size], _, _, H1, rfl, I2, turn_enum a (s1.heap.objs.size + 1) s1.heap.objs.size, ⟨⟨.none, he⟩, hit, Nat.succ_ne_self _⟩, fp, q⟩
    · obtain ⟨its, rv, p', hz⟩ := I1.tuple hq
      obtain ⟨o1, ho1, _⟩ := id p'
      have hlt := Heap.lt_size ho1
      refine call_enumT (show s1.heap.IsTuple a its.toArray from p') fun h' he hit hsz hk => wpAny_pyIter_enum he ?_
      have I2 : Inv X pins σ H1 { s1 with heap := h' } := I1.kept (t' := s1.toks) hk
      exact ⟨s1.heap.objs.size + 1, [s1.heap.objs.size + 1, s1.heap.objs.size], _, _, H1, rfl, I2, turn_enumT a (s1.heap.objs.size + 1) s1.heap.objs.size, ⟨⟨.none, he⟩, hit, Nat.succ_ne_self _, Nat.ne_of_lt hlt, Nat.ne_of_gt (Nat.lt_succ_of_lt hlt)⟩, fp, q⟩
def enumD (xs : List D) : List D := (List.range xs.length).zipWith (fun i x => .tuple [.int ((i : Nat) : Int), x]) xs
theorem enumD_len {xs : List D} : (enumD xs).length = xs.length := by unfold enumD; simp
theorem enumD_get {xs : List D} {i : Nat} {x : D} (h : xs[i]? = some x) : (enumD xs)[i]? = some (.tuple [.int (i : Nat), x]) := by
  have hi := (List.getElem?_eq_some_iff.mp h).1
  unfold enumD
  rw [List.getElem?_zipWith, List.getElem?_range hi, h]
section
variable {X : Cx} {F : Fx} {e a b : Expr} {tA : DTA} {p pos tpos : Pos}
theorem itok_enum {K : Fg} {H : Hp} {O : List Addr} {a : Addr} {vs : List V} {xs : List D} (lo : LO O H) (h : LsA H O a vs) (r : RpL K H O vs xs) (hz : xs.length ≤ 16777216) : ItOk false K (Ite K a) (enumD xs) O H where
  len := by rw [enumD_len, sizeLine_eq]; omega
  go := fun H2 O2 lo2 hs i hi => by
    rw [enumD_len] at hi
    have h2 : SqL K H2 a vs := .inl (.inl (hs.kp a _ h.1 h.2))
    obtain ⟨v, ev, rv⟩ := (hs_rpl lo hs r).get (List.getElem?_eq_getElem hi)
    refine ⟨⟨vs, v, h2, ev⟩, fun x H3 hy => ?_⟩
    obtain ⟨T, x1, e1, hT, e2, f1⟩ := hy
    subst e1 e2
    have q1 := f1 vs h2
    rw [ev] at q1; cases q1
    have sm := same_new (o := .tup [.int (i : Nat), v]) hT
    refine ⟨_, enumD_get (List.getElem?_eq_getElem hi), sm, T, [.int (i : Nat), v], _, rfl, rfl, .inl (.inl upd_same), ?_⟩
    exact .cons (.int _) (.cons (Rp.mv lo2 (same_keep sm) grow_refl rv) .nil)
  stop := fun H2 O2 lo2 hs => ⟨vs, .inl (.inl (hs.kp a _ h.1 h.2)), by rw [enumD_len, r.length]; omega⟩
theorem itok_enumT {K : Fg} {H : Hp} {O : List Addr} {a : Addr} {vs : List V} {xs : List D} (lo : LO O H) (h : SqT K H a vs) (r : RpL K H O vs xs) (hz : xs.length ≤ 16777216) : ItOk false K (IteT K a) (enumD xs) O H where
  len := by rw [enumD_len, sizeLine_eq]; omega
  go := fun H2 O2 lo2 hs i hi => by
    rw [enumD_len] at hi
    have h2 : SqT K H2 a vs := SqT.mv lo hs.kp h
    obtain ⟨v, ev, rv⟩ := (hs_rpl lo hs r).get (List.getElem?_eq_getElem hi)
    refine ⟨⟨vs, v, h2, ev⟩, fun x H3 hy => ?_⟩
    obtain ⟨T, x1, e1, hT, e2, f1⟩ := hy
    subst e1 e2
    have q1 := f1 vs h2
    rw [ev] at q1; cases q1
    have sm := same_new (o := .tup [.int (i : Nat), v]) hT
    refine ⟨_, enumD_get (List.getElem?_eq_getElem hi), sm, T, [.int (i : Nat), v], _, rfl, rfl, .inl (.inl upd_same), ?_⟩
    exact .cons (.int _) (.cons (Rp.mv lo2 (same_keep sm) grow_refl rv) .nil)
  stop := fun H2 O2 lo2 hs => ⟨vs, SqT.mv lo hs.kp h, by rw [enumD_len, r.length]⟩
def dEnum (tA : DTA) : DTI := fun ds Q => tA ds fun xs ds1 => match frzL ds1 xs with
  | some ([.list xs], ds2) => xs.length ≤ 16777216 ∧ Q (enumD xs) ds2
  | some ([.tuple xs], ds2) => xs.length ≤ 16777216 ∧ Q (enumD xs) ds2
  | _ => False
theorem di_enum {elts : List Expr} {kk : Nat} (hg : Gl X "enumerate") (hm : X.mg "enumerate" = none) (ha : DA X F [a] tA) (hs : starEach [a] X.env = [(false, eval a X.env)] := by rfl) :
    DI false X F (.Tuple elts kk tpos) (.Call (.Name "enumerate" p) [a] [] pos) (dEnum tA) :=
  PI_imp (pi_enumT hg hm ha hs) fun σ H Q ⟨O, ds, Qa, R, ht, hq⟩ => ⟨O, ds, _, R, ht, fun xs ds1 vs H1 O1 s1 R1 rx hx => by
    split at hx
    · rename_i xs ds2 e
      obtain ⟨O2, s2, R2, rl, _⟩ := frzL_ok R s1 R1 rx e
      cases rl with
      | cons r1 rl =>
        cases rl
        cases r1 with
        | lst h1 l1 => exact ⟨_, _, rfl, .inl ⟨.inl (.inl h1.1), hq _ ds2 H1 O2 _ s2 R2 (itok_enum R2.lo h1 l1 hx.1) hx.2⟩⟩
    · rename_i xs ds2 e
      obtain ⟨O2, s2, R2, rl, _⟩ := frzL_ok R s1 R1 rx e
      cases rl with
      | cons r1 rl =>
        cases rl
        cases r1 with
        | tup h1 l1 => exact ⟨_, _, rfl, .inr ⟨TpA.seq h1, hq _ ds2 H1 O2 _ s2 R2 (itok_enumT R2.lo (TpA.seq h1) l1 hx.1) hx.2⟩⟩
    · exact hx.elim⟩
end
section
variable {X : Cx} {F : Fx}
def dPutIx (k : Nat) (ti : DTE) (d : D) (N : DS → Prop) : DS → Prop := fun ds => match ds.sl[k]? with
  | some (some (.own _)) => ti ds fun x ds2 => match ds2.sl[k]?, peek ds2 x with
    | some (some (.own xs)), some (.int i) => someD (ixN xs.length i) fun j => N ⟨ds2.sl.set k (some (.own (xs.set j d))), ds2.n⟩
    | _, _ => False
  | _ => False
theorem put_ix {K : Fg} {H : Hp} {O : List Addr} {σ : St} {ds : DS} {v : V} {d : D} {k : Nat} {ti : DTE} {N : DS → Prop} {Q : St → Hp → Prop} (R : Rep K F H O σ ds) (rv : Rp K H O v d) (h : dPutIx k ti d N ds)
    (hq : ∀ O' ds' H', Step σ H O ds H' O' ds' → Rep K F H' O' σ ds' → N ds' → Q σ H') : gSub (tVar k) (lift K F ti) rSetL v σ H Q := by
  unfold dPutIx at h
  split at h
  · rename_i xs0 e0
    obtain ⟨w, ew, q, vs0, e2, hO, hH, hL⟩ := R.sl k _ e0
    subst e2
    refine ⟨_, ew, O, ds, _, R, h, fun x ds2 u H2 O2 s2 R2 rx hx => ?_⟩
    split at hx
    · rename_i xs i ek ei
      cases ej : ixN xs.length i with
      | none => rw [ej] at hx; exact hx.elim
      | some j =>
        rw [ej] at hx
        have eu : u = .int i := (RpV.vw R2 rx ei).int
        obtain ⟨w3, ew3, q3, vs3, e3, hO3, hH3, hL3⟩ := R2.sl k _ ek
        rw [ew] at ew3; cases ew3; cases e3
        obtain ⟨R4, s4⟩ := R2.updO ew ek (RpL.set (Rp.mv R.lo (s2.keepO R) s2.o1 rv) j hL3)
        exact ⟨q, vs3, i, j, rfl, eu, hH3, by rw [hL3.length]; exact ej, hq _ _ _ (s2.trans s4) R4 hx⟩
    · exact hx.elim
  · exact h.elim
def dSwap (k : Nat) (ti1 ti2 : DTE) (tA : DTA) : DTS := fun E ds => dTup tA ds fun v ds1 => match v with
  | .d (.tuple [x, y]) => dPutIx k ti1 x (dPutIx k ti2 y E.nx) ds1
  | _ => False
theorem ds_swap {k : Nat} {st : Stmt} {ti1 ti2 : DTE} {tA : DTA} (h : PS X st (tAsg (lift X.K F (dTup tA)) (gTup X.K 2 (gCons (gSub (tVar k) (lift X.K F ti1) rSetL) (gCons (gSub (tVar k) (lift X.K F ti2) rSetL) gNil))))) :
    DSt X F st (dSwap k ti1 ti2 tA) := PS_imp h fun D σ H ⟨O, ds, E, R, ht, kk⟩ =>
  ⟨O, ds, _, R, ht, fun y ds1 v H1 O1 s1 R1 ry hy => by
    split at hy
    · rename_i x y
      obtain ⟨a, vs, e, hs, rl⟩ := Vw.tuple (.inl ry)
      subst e
      cases rl with
      | cons r1 rl =>
        cases rl with
        | cons r2 rl =>
          cases rl
          refine ⟨a, _, rfl, hs, rfl, _, _, rfl, put_ix R1 r1 hy fun O2 ds2 H2 s2 R2 h2 => ?_⟩
          refine ⟨_, _, rfl, put_ix R2 (Rp.mv R1.lo (s2.keepO R1) s2.o1 r2) h2 fun O3 ds3 H3 s3 R3 h3 => ?_⟩
          exact ⟨rfl, kk.nx O3 _ σ _ ((s1.trans (s2.trans s3)).hs R) R3 h3⟩
    · exact hy.elim⟩
theorem ps_swap {a b t1 t2 : Expr} {g1 g2 : TG} {tA : DTA} {kt k2 : Nat} {pt pt2 pos : Pos} (hc : X.calm = true) (hd : DA X F [a, b] tA) (h1 : PG X t1 g1) (h2 : PG X t2 g2)
    (hs : swapsWithSole [.Tuple [t1, t2] kt pt] (.Tuple [a, b] k2 pt2) pos.line X.env = pure false := by rfl) (hw : swappedStores [.Tuple [t1, t2] kt pt] (.Tuple [a, b] k2 pt2) X.env = pure none := by rfl)
    (ha : (assignEach [.Tuple [t1, t2] kt pt] X.env).map (·.2) = [assign (.Tuple [t1, t2] kt pt) X.env] := by rfl) (e1 : (assignEach [t1, t2] X.env).map (·.2) = assign t1 X.env :: (assignEach [t2] X.env).map (·.2) := by rfl) (e2 : (assignEach [t2] X.env).map (·.2) = assign t2 X.env :: (assignEach [] X.env).map (·.2) := by rfl)
    (hn : (assignEach [t1, t2] X.env).length = 2 := by rfl) (hst : (assignEach [t1, t2] X.env).findIdx? (·.1) = none := by rfl) :
    PS X (.Assign [.Tuple [t1, t2] kt pt] (.Tuple [a, b] k2 pt2) pos) (tAsg (lift X.K F (dTup tA)) (gTup X.K 2 (gCons g1 (gCons g2 gNil)))) :=
  ps_asg (de_tup hd) (pg_tup hc (pgs_cons h1 (pgs_cons h2 pgs_nil e2) e1) hn hst) hs hw ha
end
section
variable {X : Cx} {F : Fx} {a b e : Expr} {ta tb : DTE} {pos : Pos}
@[irreducible] def gIx : F2 := fIx
theorem gIx_i {d e : D} {Q : DV → Prop} (h : fIx d e Q) : gIx d e Q := by unfold gIx; exact h
theorem gIx_eq : gIx = fIx := by unfold gIx; rfl
theorem de_gix (ha : DE X F a ta) (hb : DE X F b tb) (hs : PlainIx b) : DE X F (.Subscript a b pos) (dOp2 gIx ta tb) := by rw [gIx_eq]; exact de_ix ha hb hs
@[irreducible] def gIn : F2 := fIn
@[irreducible] def gNotIn : F2 := fNotIn
theorem gIn_i {d e : D} {Q : DV → Prop} (h : fIn d e Q) : gIn d e Q := by unfold gIn; exact h
theorem gNotIn_i {d e : D} {Q : DV → Prop} (h : fNotIn d e Q) : gNotIn d e Q := by unfold gNotIn; exact h
theorem cd_gin : CmpD X .In gIn := by unfold gIn; exact cd_in
theorem cd_gnotIn : CmpD X .NotIn gNotIn := by unfold gNotIn; exact cd_notIn
@[irreducible] def gLen : FN := fLen
theorem gLen_i {xs : List D} {Q : DV → Prop} (h : fLen xs Q) : gLen xs Q := by unfold gLen; exact h
theorem bd_glen : BlD X (.builtin "len") gLen := by unfold gLen; exact bd_len
theorem RoomG.units65 {k : Nat} {A : Around} (h : RoomG k A) : A.units + 65 < cLine := by have := h.rm.un; omega
end
inductive AV where
  | one (x : DV)
  | many (xs : List DV)
abbrev DTM := DS → (List AV → DS → Prop) → Prop
end SF
namespace SF
section
open PySem
open PySem.Sem (wp)
def ItK (t : Bool) (h : Heap) (it l : Addr) (i : Nat) : Prop := match t with
  | true => h.IsTupleIter it l i
  | false => h.IsListIter it l i
def SqK (t : Bool) (h : Heap) (l : Addr) (items : Array Value) : Prop := match t with
  | true => h.IsTuple l items
  | false => h.IsList l items
theorem ItK.ext {t : Bool} {h h' : Heap} {it l z : Addr} {i : Nat} (p : ItK t h it l i) (k : Heap.ExtBut z h h') (ne : it ≠ z) : ItK t h' it l i := by
  cases t
  · exact Heap.IsListIter.extBut p k ne
  · exact Heap.IsTupleIter.extBut p k ne
theorem ItK.mv {t : Bool} {h h' : Heap} {it l : Addr} {i : Nat} (p : ItK t h it l i) (k : ∀ o, h.get? it = some o → h'.get? it = some o) : ItK t h' it l i := by
  cases t
  · exact Heap.IsListIter.at p k
  · exact Heap.IsTupleIter.at p k
theorem SqK.ext {t : Bool} {h h' : Heap} {l z : Addr} {items : Array Value} (p : SqK t h l items) (k : Heap.ExtBut z h h') (ne : l ≠ z) : SqK t h' l items := by
  cases t
  · exact Heap.IsList.extBut p k ne
  · exact Heap.IsTuple.extBut p k ne
theorem ItK.lt {t : Bool} {h : Heap} {it l : Addr} {i : Nat} (p : ItK t h it l i) : it < h.objs.size := by
  cases t
  · obtain ⟨_, e, _⟩ := p; exact Heap.lt_size e
  · obtain ⟨_, e, _⟩ := p; exact Heap.lt_size e
theorem SqK.lt {t : Bool} {h : Heap} {l : Addr} {items : Array Value} (p : SqK t h l items) : l < h.objs.size := by
  cases t
  · obtain ⟨_, e, _⟩ := p; exact Heap.lt_size e
  · obtain ⟨_, e, _⟩ := p; exact Heap.lt_size e
variable {prog : Program} {w : World} {A : Around} {E : Value → Shared → Prop} {s : Shared}
theorem nextK_item {t : Bool} {it l : Addr} {i : Nat} {items : Array Value} {x : Value} {Q : Value → Shared → Prop} (hit : ItK t s.heap it l i) (hl : SqK t s.heap l items) (hx : items[i]? = some x)
    (hQ : ∀ h', ItK t h' it l (i + 1) → Heap.SameBut it s.heap h' → Q x { s with heap := h' }) : wpAny (model prog w) A (Builtin.SmallTypes.nextOf (.ref it)) Q E s := by
  cases t
  · exact wpAny_nextOf_list_item hit hl hx hQ
  · exact RZ.nextOf_tuple_item hit hl hx hQ
theorem nextK_end {t : Bool} {it l : Addr} {i : Nat} {items : Array Value} {Q : Value → Shared → Prop} (hh : A.handled = none) (hit : ItK t s.heap it l i) (hl : SqK t s.heap l items) (hx : items[i]? = none)
    (hE : ∀ h' e, Heap.ExtBut it s.heap h' → (∃ o, h'.get? e = some o ∧ o.cls = .type "StopIteration") → E (.ref e) { s with heap := h' }) : wpAny (model prog w) A (Builtin.SmallTypes.nextOf (.ref it)) Q E s := by
  cases t
  · exact wpAny_nextOf_list_end hh hit hl hx hE
  · exact RZ.nextOf_tuple_end hh hit hl hx hE
section
variable {t u : Bool} {z TI TO i1 i2 l1 l2 : Addr} {k1 k2 : Nat} {xs ys : Array Value} {a b : Value}
theorem zipK_item {x y : Value} {Q : Value → Shared → Prop} (D : ZipApart z TI TO i1 i2 l1 l2) (hz : IsZip s.heap z TI TO .none) (hTI : IsPair s.heap TI (.ref i1) (.ref i2)) (hTO : IsPair s.heap TO a b)
    (h1 : ItK t s.heap i1 l1 k1) (h2 : ItK u s.heap i2 l2 k2) (hl1 : SqK t s.heap l1 xs) (hl2 : SqK u s.heap l2 ys) (hx : xs[k1]? = some x) (hy : ys[k2]? = some y)
    (hQ : ∀ h', IsZip h' z TI TO (rawInt s.heap.objs.size) → IsPair h' TO x y → ItK t h' i1 l1 (k1 + 1) → ItK u h' i2 l2 (k2 + 1) → IsPair h' s.heap.objs.size x y → h'.objs.size = s.heap.objs.size + 1 → (∀ c o, c ≠ z → c ≠ TO → c ≠ i1 → c ≠ i2 → s.heap.get? c = some o → h'.get? c = some o) → Q (.ref s.heap.objs.size) { s with heap := h' }) :
    wpAny (model prog w) A (Builtin.«zip.__next__» ⟨[.ref z], []⟩) (fun fin s' => ∃ v, fin = .done (.ret v) ∧ Q v s') E s := by
  show wpAny _ _ (field (.ref z) 2 >>= _) _ _ _
  refine wpAny_bind (wpAny_field hz rfl (x := .bool false) rfl ?_); show wpAny _ _ (field (.ref z) 3 >>= _) _ _ _
  refine wpAny_bind (wpAny_field hz rfl (x := .ref TI) rfl (wpAny_bind (wpAny_seqItems hTI rfl ?_)))
  show wpAny _ _ (Builtin.SmallTypes.ownedTupleIsFree (.ref z) >>= _) _ _ _; refine wpAny_bind ?_
  unfold Builtin.SmallTypes.ownedTupleIsFree
  refine wpAny_bind (wpAny_field hz rfl (x := .none) rfl (wpAny_pure ?_)); simp only [if_true]
  refine wpAny_bind (wpAny_rule (wpAny_bind (wpAny_field hz rfl (x := .ref TO) rfl (wpAny_bind (wpAny_setField_rec hz (by simp) fun g1 hz1 hs1 => ?_)))))
  have hz1 : IsZip g1 z TI TO .ellipsis := hz1
  refine wpAny_bind ?_; simp only [List.zipIdx_cons, List.zipIdx_nil, List.forIn_cons, List.forIn_nil]
  refine wpAny_bind (wpAny_bind (wpAny_onRaise ?_)); show wpAny _ _ (Builtin.SmallTypes.nextOf (.ref i1) >>= _) _ _ _
  refine wpAny_bind (nextK_item (h1.ext hs1.extBut D.i1z) (hl1.ext hs1.extBut D.l1z) hx fun g2 h12 hs2 => wpAny_pure ?_)
  have hTO2 : IsPair g2 TO a b := hs2.extBut _ _ D.TOi1 (hs1.extBut _ _ D.TOz hTO)
  refine wpAny_bind (wpAny_seqItems hTO2 rfl (wpAny_bind (wpAny_updateSeq_pair hTO2 fun g3 hTO3 hs3 => ?_)))
  have hTO3 : IsPair g3 TO x b := hTO3
  refine wpAny_bind (wpAny_letGo (wpAny_pure (wpAny_bind (wpAny_bind (wpAny_onRaise ?_))))); show wpAny _ _ (Builtin.SmallTypes.nextOf (.ref i2) >>= _) _ _ _
  refine wpAny_bind (nextK_item (((h2.ext hs1.extBut D.i2z).ext hs2.extBut D.i12.symm).ext hs3.extBut D.TOi2.symm) (((hl2.ext hs1.extBut D.l2z).ext hs2.extBut D.l2i1).ext hs3.extBut D.l2TO) hy fun g4 h24 hs4 => wpAny_pure ?_)
  have hTO4 : IsPair g4 TO x b := hs4.extBut _ _ D.TOi2 hTO3
  refine wpAny_bind (wpAny_seqItems hTO4 rfl (wpAny_bind (wpAny_updateSeq_pair hTO4 fun g5 hTO5 hs5 => ?_)))
  have hTO5 : IsPair g5 TO x y := hTO5
  refine wpAny_bind (wpAny_letGo (wpAny_pure (wpAny_pure (wpAny_bind (wpAny_seqItems hTO5 rfl (wpAny_bind (wpAny_newTuple ?_)))))))
  have sz : g5.objs.size = s.heap.objs.size := by rw [hs5.1, hs4.1, hs3.1, hs2.1, hs1.1]
  have hz5 : IsZip g5 z TI TO .ellipsis := hs5.extBut _ _ D.TOz.symm (hs4.extBut _ _ D.i2z.symm (hs3.extBut _ _ D.TOz.symm (hs2.extBut _ _ D.i1z.symm hz1)))
  have kp : ∀ c o, c ≠ z → c ≠ TO → c ≠ i1 → c ≠ i2 → s.heap.get? c = some o → g5.get? c = some o := fun c o c1 c2 c3 c4 e => hs5.extBut _ _ c2 (hs4.extBut _ _ c4 (hs3.extBut _ _ c2 (hs2.extBut _ _ c3 (hs1.extBut _ _ c1 e))))
  have h15 : ItK t g5 i1 l1 (k1 + 1) := ((h12.ext hs3.extBut D.TOi1.symm).ext hs4.extBut D.i12).ext hs5.extBut D.TOi1.symm
  have h25 : ItK u g5 i2 l2 (k2 + 1) := h24.ext hs5.extBut D.TOi2.symm
  have zl : z < g5.objs.size := Heap.lt_size hz5
  show wpAny _ _ (Builtin.SmallTypes.ownedTupleHandOut (.ref z) (.ref g5.objs.size) >>= _) _ _ _; refine wpAny_bind ?_
  unfold Builtin.SmallTypes.ownedTupleHandOut
  have hz6 : IsZip (g5.push { cls := .type "tuple", data := .seq #[x, y] }) z TI TO .ellipsis := Heap.get?_push_of_some _ hz5
  refine wpAny_bind (wpAny_setField_rec hz6 (by simp) fun g7 hz7 hs7 => ?_)
  have hz7 : IsZip g7 z TI TO (rawInt g5.objs.size) := hz7
  refine wpAny_setField_rec hz7 (by simp) fun g8 hz8 hs8 => ?_
  have hz8 : IsZip g8 z TI TO (rawInt g5.objs.size) := hz8
  have up : ∀ c o, c ≠ z → g5.get? c = some o → g8.get? c = some o := fun c o c1 e => hs8.extBut _ _ c1 (hs7.extBut _ _ c1 (Heap.get?_push_of_some _ e))
  have hT8 : IsPair g8 g5.objs.size x y := hs8.extBut _ _ (Nat.ne_of_gt zl) (hs7.extBut _ _ (Nat.ne_of_gt zl) (Heap.get?_push_size _ rfl))
  have s8 : g8.objs.size = g5.objs.size + 1 := by rw [hs8.1, hs7.1, Heap.size_push]
  rw [sz] at hz8 hT8 s8
  refine wpAny_pure ⟨_, rfl, ?_⟩
  show Q (.ref g5.objs.size) _
  rw [sz]
  exact hQ g8 hz8 (up _ _ D.TOz hTO5) (h15.mv fun o e => up _ o D.i1z e) (h25.mv fun o e => up _ o D.i2z e) hT8 s8 fun c o c1 c2 c3 c4 e => up c o c1 (kp c o c1 c2 c3 c4 e)
theorem zipK_end {Q : Fin → Shared → Prop} (hh : A.handled = none) (D : ZipApart z TI TO i1 i2 l1 l2) (hz : IsZip s.heap z TI TO .none) (hTI : IsPair s.heap TI (.ref i1) (.ref i2)) (hTO : IsPair s.heap TO a b)
    (h1 : ItK t s.heap i1 l1 k1) (h2 : ItK u s.heap i2 l2 k2) (hl1 : SqK t s.heap l1 xs) (hl2 : SqK u s.heap l2 ys) (hend : xs[k1]? = none ∨ ys[k2]? = none)
    (hE : ∀ h' e, (∀ c o, c ≠ z → c ≠ TO → c ≠ i1 → c ≠ i2 → s.heap.get? c = some o → h'.get? c = some o) → (∃ o, h'.get? e = some o ∧ o.cls = .type "StopIteration") → E (.ref e) { s with heap := h' }) : wpAny (model prog w) A (Builtin.«zip.__next__» ⟨[.ref z], []⟩) Q E s := by
  show wpAny _ _ (field (.ref z) 2 >>= _) _ _ _
  refine wpAny_bind (wpAny_field hz rfl (x := .bool false) rfl ?_); show wpAny _ _ (field (.ref z) 3 >>= _) _ _ _
  refine wpAny_bind (wpAny_field hz rfl (x := .ref TI) rfl (wpAny_bind (wpAny_seqItems hTI rfl ?_)))
  show wpAny _ _ (Builtin.SmallTypes.ownedTupleIsFree (.ref z) >>= _) _ _ _; refine wpAny_bind ?_
  unfold Builtin.SmallTypes.ownedTupleIsFree
  refine wpAny_bind (wpAny_field hz rfl (x := .none) rfl (wpAny_pure ?_)); simp only [if_true]
  refine wpAny_bind (wpAny_rule (wpAny_bind (wpAny_field hz rfl (x := .ref TO) rfl (wpAny_bind (wpAny_setField_rec hz (by simp) fun g1 hz1 hs1 => ?_)))))
  have hz1 : IsZip g1 z TI TO .ellipsis := hz1
  refine wpAny_bind ?_; simp only [List.zipIdx_cons, List.zipIdx_nil, List.forIn_cons, List.forIn_nil]
  refine wpAny_bind (wpAny_bind (wpAny_onRaise ?_)); show wpAny _ _ (Builtin.SmallTypes.nextOf (.ref i1) >>= _) _ _ _
  cases hx : xs[k1]? with
  | none =>
    refine wpAny_bind (nextK_end hh (h1.ext hs1.extBut D.i1z) (hl1.ext hs1.extBut D.l1z) hx fun g2 e hs2 he => ?_)
    obtain ⟨oe, hoe, hce⟩ := he
    have hz2 : IsZip g2 z TI TO .ellipsis := hs2 _ _ D.i1z.symm hz1
    have ez : e ≠ z := fun q => by subst q; rw [hz2] at hoe; cases hoe; simp at hce
    exact wpAny_setField_rec hz2 (by simp) fun g3 _ hs3 => hE g3 e (fun c o c1 _ c3 _ q => hs3.extBut _ _ c1 (hs2 _ _ c3 (hs1.extBut _ _ c1 q))) ⟨oe, hs3.extBut _ _ ez hoe, hce⟩
  | some x =>
    have hy : ys[k2]? = none := by
      rcases hend with q | q
      · rw [hx] at q; cases q
      · exact q
    refine wpAny_bind (nextK_item (h1.ext hs1.extBut D.i1z) (hl1.ext hs1.extBut D.l1z) hx fun g2 h12 hs2 => wpAny_pure ?_)
    have hTO2 : IsPair g2 TO a b := hs2.extBut _ _ D.TOi1 (hs1.extBut _ _ D.TOz hTO)
    refine wpAny_bind (wpAny_seqItems hTO2 rfl (wpAny_bind (wpAny_updateSeq_pair hTO2 fun g3 hTO3 hs3 => ?_)))
    refine wpAny_bind (wpAny_letGo (wpAny_pure (wpAny_bind (wpAny_bind (wpAny_onRaise ?_))))); show wpAny _ _ (Builtin.SmallTypes.nextOf (.ref i2) >>= _) _ _ _
    refine wpAny_bind (nextK_end hh (((h2.ext hs1.extBut D.i2z).ext hs2.extBut D.i12.symm).ext hs3.extBut D.TOi2.symm) (((hl2.ext hs1.extBut D.l2z).ext hs2.extBut D.l2i1).ext hs3.extBut D.l2TO) hy fun g4 e hs4 he => ?_)
    obtain ⟨oe, hoe, hce⟩ := he
    have hz4 : IsZip g4 z TI TO .ellipsis := hs4 _ _ D.i2z.symm (hs3.extBut _ _ D.TOz.symm (hs2.extBut _ _ D.i1z.symm hz1))
    have ez : e ≠ z := fun q => by subst q; rw [hz4] at hoe; cases hoe; simp at hce
    exact wpAny_setField_rec hz4 (by simp) fun g5 _ hs5 => hE g5 e (fun c o c1 c2 c3 c4 q => hs5.extBut _ _ c1 (hs4 _ _ c4 (hs3.extBut _ _ c2 (hs2.extBut _ _ c3 (hs1.extBut _ _ c1 q))))) ⟨oe, hs5.extBut _ _ ez hoe, hce⟩
theorem pyNextK_item {x y : Value} {Q : Option Value → Shared → Prop} (D : ZipApart z TI TO i1 i2 l1 l2) (hz : IsZip s.heap z TI TO .none) (hTI : IsPair s.heap TI (.ref i1) (.ref i2)) (hTO : IsPair s.heap TO a b)
    (h1 : ItK t s.heap i1 l1 k1) (h2 : ItK u s.heap i2 l2 k2) (hl1 : SqK t s.heap l1 xs) (hl2 : SqK u s.heap l2 ys) (hx : xs[k1]? = some x) (hy : ys[k2]? = some y)
    (hQ : ∀ h', IsZip h' z TI TO (rawInt s.heap.objs.size) → IsPair h' TO x y → ItK t h' i1 l1 (k1 + 1) → ItK u h' i2 l2 (k2 + 1) → IsPair h' s.heap.objs.size x y → h'.objs.size = s.heap.objs.size + 1 → (∀ c o, c ≠ z → c ≠ TO → c ≠ i1 → c ≠ i2 → s.heap.get? c = some o → h'.get? c = some o) → Q (some (.ref s.heap.objs.size)) { s with heap := h' }) :
    wpAny (model prog w) A (pyNext (.ref z)) Q E s := by
  have hT : s.TypeIs (.ref z) "zip" := ⟨_, hz, rfl⟩
  unfold pyNext
  refine wpAny_bind (wpAny_attempt (wpAny_callSpecial?_slot (name := Str.ofString "__next__") hT F.slot_zip_next ?_))
  exact wpAny_call_entry F.slot_zip_next hT F.entry_zip_next (zipK_item D hz hTI hTO h1 h2 hl1 hl2 hx hy fun g b1 b2 b3 b4 b5 b6 b7 => wpAny_pure (hQ g b1 b2 b3 b4 b5 b6 b7)) (F.args_zip_next_1 _)
theorem pyNextK_end {Q : Option Value → Shared → Prop} (hh : A.handled = none) (D : ZipApart z TI TO i1 i2 l1 l2) (hz : IsZip s.heap z TI TO .none) (hTI : IsPair s.heap TI (.ref i1) (.ref i2)) (hTO : IsPair s.heap TO a b)
    (h1 : ItK t s.heap i1 l1 k1) (h2 : ItK u s.heap i2 l2 k2) (hl1 : SqK t s.heap l1 xs) (hl2 : SqK u s.heap l2 ys) (hend : xs[k1]? = none ∨ ys[k2]? = none)
    (hQ : ∀ h', (∀ c o, c ≠ z → c ≠ TO → c ≠ i1 → c ≠ i2 → s.heap.get? c = some o → h'.get? c = some o) → Q none { s with heap := h' }) : wpAny (model prog w) A (pyNext (.ref z)) Q E s := by
  have hT : s.TypeIs (.ref z) "zip" := ⟨_, hz, rfl⟩
  unfold pyNext
  refine wpAny_bind (wpAny_attempt (wpAny_callSpecial?_slot (name := Str.ofString "__next__") hT F.slot_zip_next ?_))
  refine wpAny_call_entry F.slot_zip_next hT F.entry_zip_next (zipK_end hh D hz hTI hTO h1 h2 hl1 hl2 hend fun g e hk he => ?_) (F.args_zip_next_1 _)
  obtain ⟨o, ho, hc⟩ := he
  exact wpAny_bind (wpAny_isInstance (T := "StopIteration") (b := true) ⟨o, ho, hc⟩ isSubtype_stop (wpAny_pure (hQ _ hk)))
end
def itN (t : Bool) : String := match t with
  | true => "tuple_iterator"
  | false => "list_iterator"
abbrev zk1 (t : Bool) (h : Heap) (l1 : Addr) : Heap := h.push { cls := .type (itN t), data := .fields #[.ref l1, .int 0 0] }
abbrev zk2 (t u : Bool) (h : Heap) (l1 l2 : Addr) : Heap := (zk1 t h l1).push { cls := .type (itN u), data := .fields #[.ref l2, .int 0 0] }
abbrev zk3 (t u : Bool) (h : Heap) (l1 l2 : Addr) : Heap := (zk2 t u h l1 l2).push { cls := .type "tuple", data := .seq #[.ref h.objs.size, .ref (zk1 t h l1).objs.size] }
abbrev zk4 (t u : Bool) (h : Heap) (l1 l2 : Addr) : Heap := (zk3 t u h l1 l2).push { cls := .type "tuple", data := .seq #[.none, .none] }
abbrev zk5 (t u : Bool) (h : Heap) (l1 l2 : Addr) : Heap := (zk4 t u h l1 l2).push { cls := .type "zip", data := .fields #[.none, .bool false, .bool false, .ref (zk2 t u h l1 l2).objs.size, .ref (zk3 t u h l1 l2).objs.size] }
theorem meets_zipLT (l1 l2 : Addr) (xs ys : Array Value) : Meets (Builtin.«zip.__new__» ⟨[.type "zip", .ref l1, .ref l2], []⟩) (fun _ R s => s.heap.IsList l1 xs ∧ s.heap.IsTuple l2 ys ∧ R (.ok (.ret (.ref (zk4 false true s.heap l1 l2).objs.size))) { s with heap := zk5 false true s.heap l1 l2 }) :=
  .of_wp fun prog w A R s h => by
    obtain ⟨hp, g, d, tk, os⟩ := s
    obtain ⟨hl1, hl2, h⟩ := h
    have hsub := sub_zip
    have q1 : Heap.IsList (Shared.heap ⟨hp, g, d, tk, os⟩) l1 xs := hl1
    have q2 : Heap.IsTuple (Shared.heap ⟨hp.push { cls := .type "list_iterator", data := .fields #[.ref l1, .int 0 0] }, g, d, tk, os⟩) l2 ys := Heap.IsTuple.push hl2 _
    wp_walk using wpAny_pyIter_list q1, wpAny_pyIter_tuple q2
    exact ⟨_, rfl, h⟩
theorem meets_zipTL (l1 l2 : Addr) (xs ys : Array Value) : Meets (Builtin.«zip.__new__» ⟨[.type "zip", .ref l1, .ref l2], []⟩) (fun _ R s => s.heap.IsTuple l1 xs ∧ s.heap.IsList l2 ys ∧ R (.ok (.ret (.ref (zk4 true false s.heap l1 l2).objs.size))) { s with heap := zk5 true false s.heap l1 l2 }) :=
  .of_wp fun prog w A R s h => by
    obtain ⟨hp, g, d, tk, os⟩ := s
    obtain ⟨hl1, hl2, h⟩ := h
    have hsub := sub_zip
    have q1 : Heap.IsTuple (Shared.heap ⟨hp, g, d, tk, os⟩) l1 xs := hl1
    have q2 : Heap.IsList (Shared.heap ⟨hp.push { cls := .type "tuple_iterator", data := .fields #[.ref l1, .int 0 0] }, g, d, tk, os⟩) l2 ys := Heap.IsList.push hl2 _
    wp_walk using wpAny_pyIter_tuple q1, wpAny_pyIter_list q2
    exact ⟨_, rfl, h⟩
theorem call_zipK {t : Bool} {l1 l2 : Addr} {xs ys : Array Value} {Q : Value → Shared → Prop} (hl1 : SqK t s.heap l1 xs) (hl2 : SqK (!t) s.heap l2 ys)
    (h : ∀ h', IsZip h' (s.heap.objs.size + 4) (s.heap.objs.size + 2) (s.heap.objs.size + 3) .none → IsPair h' (s.heap.objs.size + 2) (.ref s.heap.objs.size) (.ref (s.heap.objs.size + 1)) →
      IsPair h' (s.heap.objs.size + 3) .none .none → ItK t h' s.heap.objs.size l1 0 → ItK (!t) h' (s.heap.objs.size + 1) l2 0 → h'.objs.size = s.heap.objs.size + 5 → (∀ c o, s.heap.get? c = some o → h'.get? c = some o) → Q (.ref (s.heap.objs.size + 4)) { s with heap := h' }) :
    wpAny (model prog w) A (call (.type "zip") [.ref l1, .ref l2]) Q E s := by
  have z1 : (zk1 t s.heap l1).objs.size = s.heap.objs.size + 1 := Heap.size_push ..
  have z2 : (zk2 t (!t) s.heap l1 l2).objs.size = s.heap.objs.size + 2 := by rw [Heap.size_push, z1]
  have z3 : (zk3 t (!t) s.heap l1 l2).objs.size = s.heap.objs.size + 3 := by rw [Heap.size_push, z2]
  have z4 : (zk4 t (!t) s.heap l1 l2).objs.size = s.heap.objs.size + 4 := by rw [Heap.size_push, z3]
  have z5 : (zk5 t (!t) s.heap l1 l2).objs.size = s.heap.objs.size + 5 := by rw [Heap.size_push, z4]
  have up1 : ∀ {hh : Heap} {c : Addr} {o o' : Obj}, hh.get? c = some o → (hh.push o').get? c = some o := fun e => Heap.get?_push_of_some _ e
  have g5 : (zk5 t (!t) s.heap l1 l2).get? (zk4 t (!t) s.heap l1 l2).objs.size = some _ := Heap.get?_push_size _ rfl
  have g4 : (zk5 t (!t) s.heap l1 l2).get? (zk3 t (!t) s.heap l1 l2).objs.size = some _ := up1 (Heap.get?_push_size _ rfl)
  have g3 : (zk5 t (!t) s.heap l1 l2).get? (zk2 t (!t) s.heap l1 l2).objs.size = some _ := up1 (up1 (Heap.get?_push_size _ rfl))
  have g2 : (zk5 t (!t) s.heap l1 l2).get? (zk1 t s.heap l1).objs.size = some _ := up1 (up1 (up1 (Heap.get?_push_size _ rfl)))
  have g1 : (zk5 t (!t) s.heap l1 l2).get? s.heap.objs.size = some _ := up1 (up1 (up1 (up1 (Heap.get?_push_size _ rfl))))
  rw [z2, z3, z4] at g5
  rw [z1, z2] at g3
  rw [z3] at g4
  rw [z1] at g2
  have r1 : ItK t (zk5 t (!t) s.heap l1 l2) s.heap.objs.size l1 0 := by cases t <;> exact ⟨_, g1, rfl, rfl⟩
  have r2 : ItK (!t) (zk5 t (!t) s.heap l1 l2) (s.heap.objs.size + 1) l2 0 := by cases t <;> exact ⟨_, g2, rfl, rfl⟩
  have fin := h _ g5 g3 g4 r1 r2 z5 fun c o q => up1 (up1 (up1 (up1 (up1 q))))
  cases t
  · refine callType_new F.called_zip (by decide) (F.typeCall_zip_2 _ _) (F.newCall_zip_2 _ _) (fun obj => F.args_object_init_3 obj _ _) F.entry_zip_new (meets_zipLT l1 l2 xs ys) ⟨hl1, hl2, ?_⟩
    show _ ∧ _
    rw [show (zk4 false true s.heap l1 l2).objs.size = s.heap.objs.size + 4 from z4]
    exact ⟨⟨_, g5, rfl⟩, fin⟩
  · refine callType_new F.called_zip (by decide) (F.typeCall_zip_2 _ _) (F.newCall_zip_2 _ _) (fun obj => F.args_object_init_3 obj _ _) F.entry_zip_new (meets_zipTL l1 l2 xs ys) ⟨hl1, hl2, ?_⟩
    show _ ∧ _
    rw [show (zk4 true false s.heap l1 l2).objs.size = s.heap.objs.size + 4 from z4]
    exact ⟨⟨_, g5, rfl⟩, fin⟩
end
end SF
namespace SF
open PySem PySem.Spec PyProof.Rows L2
def SqV (K : Fg) (t : Bool) (H : Hp) (a : Addr) (xs : List V) : Prop := match t with
  | true => SqT K H a xs
  | false => SqL K H a xs
theorem sqv_in {X : Cx} {pins : List (Addr × Obj)} {σ : L2.St} {H : Hp} {s : Shared} {t : Bool} {a : Addr} {xs : List V} (I : Inv X pins σ H s) (h : SqV X.K t H a xs) : ∃ its, Vals xs its ∧ SqK t s.heap a its.toArray := by
  cases t
  · obtain ⟨its, rv, p, _⟩ := I.list h
    exact ⟨its, rv, p.isList⟩
  · obtain ⟨its, rv, p, _⟩ := I.tuple h
    exact ⟨its, rv, p⟩
theorem sqv_inj {X : Cx} {pins : List (Addr × Obj)} {σ : L2.St} {H : Hp} {s : Shared} {t : Bool} {a : Addr} {xs ys : List V} (I : Inv X pins σ H s) (h : SqV X.K t H a xs) (h' : SqV X.K t H a ys) : xs = ys := by
  cases t
  · exact I.list_inj h h'
  · exact I.tuple_inj h h'
def ItzK (K : Fg) (t u : Bool) (a b : Addr) : It :=
  ⟨fun i H => ∃ (xs ys : List V) (x y : V), SqV K t H a xs ∧ SqV K u H b ys ∧ xs[i]? = some x ∧ ys[i]? = some y, fun i H v H' => ∃ T x y, v = .ref T ∧ H T = none ∧ H' = upd H T (.tup [x, y]) ∧ (∀ xs, SqV K t H a xs → xs[i]? = some x) ∧ ∀ ys, SqV K u H b ys → ys[i]? = some y,
    fun i H => ∃ xs ys : List V, SqV K t H a xs ∧ SqV K u H b ys ∧ (xs.length ≤ i ∨ ys.length ≤ i)⟩
theorem five {z TI TO i1 i2 c : Addr} (h : c ∈ [z, TI, TO, i1, i2]) : c = z ∨ c = TI ∨ c = TO ∨ c = i1 ∨ c = i2 := by simpa using h
theorem five_no {z TI TO i1 i2 c : Addr} (h : ¬ c ∈ [z, TI, TO, i1, i2]) : c ≠ z ∧ c ≠ TI ∧ c ≠ TO ∧ c ≠ i1 ∧ c ≠ i2 := by
  simp only [List.mem_cons, List.not_mem_nil, or_false, not_or] at h
  exact h
theorem ItK.ob {t : Bool} {h : Heap} {it l : Addr} {i : Nat} (p : ItK t h it l i) : ∃ o, h.get? it = some o ∧ ∀ v, o.data ≠ .cell v := by
  cases t
  · obtain ⟨o, e, _, d⟩ := p
    exact ⟨o, e, fun v q => by rw [d] at q; cases q⟩
  · obtain ⟨o, e, _, d⟩ := p
    exact ⟨o, e, fun v q => by rw [d] at q; cases q⟩
theorem turn_zipK {P : Program} {w : World} {K : Fg} {elts : List Expr} {kk : Nat} {tpos : Pos} {t u : Bool} {a b z TI TO i1 i2 : Addr} (D : ZipApart z TI TO i1 i2 a b) :
    Turn P w K (.Tuple elts kk tpos) (ItzK K t u a b) [z, TI, TO, i1, i2] z (fun i h => IsZip h z TI TO .none ∧ IsPair h TI (.ref i1) (.ref i2) ∧ (∃ x y, IsPair h TO x y) ∧ ItK t h i1 a i ∧ ItK u h i2 b i) where
  mem := by simp
  obj := fun i h st c hc => by
    obtain ⟨hz, hTI, ⟨x, y, hTO⟩, p1, p2⟩ := st
    rcases five hc with q | q | q | q | q <;> rw [q]
    · exact ⟨_, hz, fun v q => nomatch q⟩
    · exact ⟨_, hTI, fun v q => nomatch q⟩
    · exact ⟨_, hTO, fun v q => nomatch q⟩
    · exact p1.ob
    · exact p2.ob
  keep := fun i h h' st k => by
    obtain ⟨hz, hTI, ⟨x, y, hTO⟩, h1, h2⟩ := st
    exact ⟨k z (by simp) _ hz, k TI (by simp) _ hTI, ⟨x, y, k TO (by simp) _ hTO⟩, h1.mv fun o q => k i1 (by simp) o q, h2.mv fun o q => k i2 (by simp) o q⟩
  item := by
    intro X hP hw hK hc i pins s σ H E I hf st hg
    subst hP hw hK
    obtain ⟨hz, hTI, ⟨x0, y0, hTO⟩, h1, h2⟩ := st
    obtain ⟨xs, ys, x, y, hqx, hqy, hx, hy⟩ := hg
    obtain ⟨its, rv, p⟩ := sqv_in I hqx
    obtain ⟨its2, rv2, p2⟩ := sqv_in I hqy
    obtain ⟨v1, hu, ru⟩ := rv.get hx
    obtain ⟨v2, hu2, ru2⟩ := rv2.get hy
    have zl : z < s.heap.objs.size := Heap.lt_size hz
    refine pyNextK_item D hz hTI hTO h1 h2 p p2 (x := v1) (y := v2) (by simpa using hu) (by simpa using hu2) fun g z' TO' h1' h2' hT hsz hk => ?_
    refine ⟨_, rfl, wpAny_letOwnedTupleGo_zip (s := { s with heap := g }) z' fun g2 z2 sb => ?_⟩
    have hT2 : g2.get? s.heap.objs.size = some { cls := .type "tuple", data := .seq #[v1, v2] } := (sb.2 _ (Nat.ne_of_gt zl)).trans hT
    have new : ObjOk X.prog X.w (upd H s.heap.objs.size (.tup [x, y])) g2 s.heap.objs.size (.tup [x, y]) := ⟨by show 2 ≤ sizeLine; decide, [v1, v2], .cons ru (.cons ru2 .nil), ⟨_, hT2, rfl, _, rfl⟩⟩
    have I1 : Inv X pins σ (upd H s.heap.objs.size (.tup [x, y])) { s with heap := g2 } :=
      I.turnedNew (t' := s.toks) (ch := [z, TI, TO, i1, i2]) (fun c o hb q => by
        obtain ⟨n1, n2, n3, n4, n5⟩ := five_no hb
        exact (sb.2 c n1).trans (hk c o n1 n3 n4 n5 q)) hf (Nat.le_refl _) new
    refine ⟨.ref s.heap.objs.size, _, I1, rfl, ⟨_, x, y, rfl, I.hok.fresh (Nat.le_refl _), rfl, fun l hl => by rw [sqv_inj I hl hqx]; exact hx, fun l hl => by rw [sqv_inj I hl hqy]; exact hy⟩, ⟨z2, ?_, ⟨v1, v2, ?_⟩, ?_, ?_⟩, fun c hcm => ?_⟩
    · exact (sb.2 _ D.TIz).trans (hk _ _ D.TIz D.TITO D.TIi1 D.TIi2 hTI)
    · exact (sb.2 _ D.TOz).trans TO'
    · exact h1'.mv fun o q => (sb.2 _ D.i1z).trans q
    · exact h2'.mv fun o q => (sb.2 _ D.i2z).trans q
    · have hlt : c < s.heap.objs.size := by
        rcases five hcm with q | q | q | q | q <;> rw [q]
        · exact zl
        · exact Heap.lt_size hTI
        · exact Heap.lt_size hTO
        · exact h1.lt
        · exact h2.lt
      rw [upd_ne (Nat.ne_of_lt hlt)]
      exact (hf c hcm).1
  done := by
    intro X hP hw hK hc i pins s σ H E I hf st hg
    subst hP hw hK
    obtain ⟨hz, hTI, ⟨x0, y0, hTO⟩, h1, h2⟩ := st
    obtain ⟨xs, ys, hqx, hqy, hend⟩ := hg
    obtain ⟨its, rv, p⟩ := sqv_in I hqx
    obtain ⟨its2, rv2, p2⟩ := sqv_in I hqy
    have l1 := rv.length
    have l2 := rv2.length
    have he : its.toArray[i]? = none ∨ its2.toArray[i]? = none := by
      rcases hend with q | q
      · exact .inl (by simp; omega)
      · exact .inr (by simp; omega)
    exact pyNextK_end (I.ok.hd hc) D hz hTI hTO h1 h2 p p2 he fun g hk => ⟨rfl, I.turnedL (t' := s.toks) (ch := [z, TI, TO, i1, i2]) (fun c o hb q => by
      obtain ⟨n1, n2, n3, n4, n5⟩ := five_no hb
      exact hk c o n1 n3 n4 n5 q) hf⟩
  self := fun A i s Q E st h => wpAny_pyIter_zip st.1 h
section
variable {prog : Program} {w : World} {A : Around} {E : Value → Shared → Prop} {s : Shared}
theorem call_zipU {t u : Bool} {l1 l2 : Addr} {xs ys : Array Value} {Q : Value → Shared → Prop} (hl1 : SqK t s.heap l1 xs) (hl2 : SqK u s.heap l2 ys)
    (h : ∀ h', IsZip h' (s.heap.objs.size + 4) (s.heap.objs.size + 2) (s.heap.objs.size + 3) .none → IsPair h' (s.heap.objs.size + 2) (.ref s.heap.objs.size) (.ref (s.heap.objs.size + 1)) → IsPair h' (s.heap.objs.size + 3) .none .none → ItK t h' s.heap.objs.size l1 0 → ItK u h' (s.heap.objs.size + 1) l2 0 → h'.objs.size = s.heap.objs.size + 5 → (∀ c o, s.heap.get? c = some o → h'.get? c = some o) → Q (.ref (s.heap.objs.size + 4)) { s with heap := h' }) :
    wpAny (model prog w) A (call (.type "zip") [.ref l1, .ref l2]) Q E s := by
  cases t <;> cases u
  · exact call_zip_2 hl1 hl2 h
  · exact call_zipK (t := false) hl1 hl2 h
  · exact call_zipK (t := true) hl1 hl2 h
  · exact RZ.call_zipT hl1 hl2 h
end
def iZipM (K : Fg) (ta : TA) : TI := fun σ H R => ta σ H fun vs H1 => ∃ a b xs ys t u, vs = [.ref a, .ref b] ∧ SqV K t H1 a xs ∧ SqV K u H1 b ys ∧ R (ItzK K t u a b) H1
theorem pi_zipM {X : Cx} {e e2 : Expr} {ta : TA} {p pos tpos : Pos} {elts : List Expr} {kk : Nat} (hg : Gl X "zip") (hm : X.mg "zip" = none) (ha : PA X [e, e2] ta) (hs : starEach [e, e2] X.env = (false, eval e X.env) :: starEach [e2] X.env := by rfl) (hpl : (backTo pos (starEach [e2] X.env)).any (·.1) = false := by rfl) :
    PI X (.Tuple elts kk tpos) (.Call (.Name "zip" p) [e, e2] [] pos) (iZipM X.K ta) := by
  refine ⟨fun pins s σ H R I h => ?_⟩
  refine Call_ (ld_blt I hg hm PyProof.Rows.boot_zip (PyProof.Rows.callWith_type1 (thn (ha.run pos pins s σ H _ I h) fun us s1 ⟨vs, H1, I1, r1, q1⟩ => ?_) hs hpl))
  obtain ⟨a, b, xs, ys, t, u, ex, hqx, hqy, q⟩ := q1
  subst ex
  cases r1 with
  | cons r rr =>
    cases rr with
    | cons r' rr =>
      cases rr
      cases r
      cases r'
      obtain ⟨its, rv, p1⟩ := sqv_in I1 hqx
      obtain ⟨its2, rv2, p2⟩ := sqv_in I1 hqy
      refine call_zipU p1 p2 fun g hz hTI hTO h1 h2 hsz hk => wpAny_pyIter_zip hz ?_
      have I2 : Inv X pins σ H1 { s1 with heap := g } := I1.kept (t' := s1.toks) hk
      refine ⟨s1.heap.objs.size + 4, [s1.heap.objs.size + 4, s1.heap.objs.size + 2, s1.heap.objs.size + 3, s1.heap.objs.size, s1.heap.objs.size + 1], _, _, H1, rfl, I2, turn_zipK (PySem.W.ktu_apart s1.heap.objs.size a b p1.lt p2.lt), ⟨hz, hTI, ⟨_, _, hTO⟩, h1, h2⟩, fun c hcm => ?_, q⟩
      have hle : s1.heap.objs.size ≤ c := by
        rcases five hcm with z | z | z | z | z <;> rw [z]
        · exact Nat.le_add_right _ _
        · exact Nat.le_add_right _ _
        · exact Nat.le_add_right _ _
        · exact Nat.le_refl _
        · exact Nat.le_add_right _ _
      exact I1.fpOk hle (I1.hok.fresh hle)
section
variable {X : Cx} {F : Fx} {tg e a b : Expr} {te : DTE} {tA : DTA} {p pos tpos : Pos}
theorem seq_of {K : Fg} {H : Hp} {O : List Addr} {v : V} {d : D} {xs : List D} (r : Rp K H O v d) (h : seqD d = some xs) : ∃ a vs t, v = .ref a ∧ SqV K t H a vs ∧ RpL K H O vs xs ∧ ∀ H2 O2, HS O H O2 H2 → LO O H → SqV K t H2 a vs := by
  unfold seqD at h
  split at h
  · cases h
    cases r with
    | lst h1 l1 => exact ⟨_, _, false, rfl, .inl (.inl h1.1), l1, fun H2 O2 hs lo => .inl (.inl (hs.kp _ _ h1.1 h1.2))⟩
  · cases h
    cases r with
    | tup h1 l1 => exact ⟨_, _, true, rfl, TpA.seq h1, l1, fun H2 O2 hs lo => SqT.mv lo hs.kp (TpA.seq h1)⟩
  · cases h
theorem itok_zipU {K : Fg} {H : Hp} {O : List Addr} {t u : Bool} {a b : Addr} {vs ws : List V} {xs ys : List D} (lo : LO O H) (h : ∀ H2 O2, HS O H O2 H2 → LO O H → SqV K t H2 a vs) (h' : ∀ H2 O2, HS O H O2 H2 → LO O H → SqV K u H2 b ws) (r : RpL K H O vs xs) (r' : RpL K H O ws ys) (hz : xs.length ≤ 16777216) : ItOk false K (ItzK K t u a b) (zipD xs ys) O H where
  len := by rw [zipD_len, sizeLine_eq]; omega
  go := fun H2 O2 lo2 hs i hi => by
    rw [zipD_len] at hi
    have h2 := h H2 O2 hs lo
    have h2' := h' H2 O2 hs lo
    have i1 : i < xs.length := by omega
    have i2 : i < ys.length := by omega
    obtain ⟨v, ev, rv⟩ := (hs_rpl lo hs r).get (List.getElem?_eq_getElem i1)
    obtain ⟨w, ew, rw'⟩ := (hs_rpl lo hs r').get (List.getElem?_eq_getElem i2)
    refine ⟨⟨vs, ws, v, w, h2, h2', ev, ew⟩, fun x H3 hy => ?_⟩
    obtain ⟨T, x1, x2, e1, hT, e2, f1, f2⟩ := hy
    subst e1 e2
    have q1 := f1 vs h2
    have q2 := f2 ws h2'
    rw [ev] at q1; cases q1
    rw [ew] at q2; cases q2
    have sm := same_new (o := .tup [v, w]) hT
    refine ⟨_, zipD_get (List.getElem?_eq_getElem i1) (List.getElem?_eq_getElem i2), sm, T, [v, w], _, rfl, rfl, .inl (.inl upd_same), ?_⟩
    exact .cons (Rp.mv lo2 (same_keep sm) grow_refl rv) (.cons (Rp.mv lo2 (same_keep sm) grow_refl rw') .nil)
  stop := fun H2 O2 lo2 hs => ⟨vs, ws, h H2 O2 hs lo, h' H2 O2 hs lo, by rw [zipD_len, r.length, r'.length]; omega⟩
def dZip2 (tA : DTA) : DTI := fun ds Q => tA ds fun xs ds1 => match frzL ds1 xs with
  | some ([x, y], ds2) => match seqD x, seqD y with
    | some xs, some ys => xs.length ≤ 16777216 ∧ Q (zipD xs ys) ds2
    | _, _ => False
  | _ => False
theorem di_zip2 {elts : List Expr} {kk : Nat} (hg : Gl X "zip") (hm : X.mg "zip" = none) (ha : DA X F [a, b] tA) (hs : starEach [a, b] X.env = (false, eval a X.env) :: starEach [b] X.env := by rfl) (hpl : (backTo pos (starEach [b] X.env)).any (·.1) = false := by rfl) :
    DI false X F (.Tuple elts kk tpos) (.Call (.Name "zip" p) [a, b] [] pos) (dZip2 tA) :=
  PI_imp (pi_zipM hg hm ha hs hpl) fun σ H Q ⟨O, ds, Qa, R, ht, hq⟩ => ⟨O, ds, _, R, ht, fun xs ds1 vs H1 O1 s1 R1 rx hx => by
    split at hx
    · rename_i x y ds2 e
      split at hx
      · rename_i xs ys ex ey
        obtain ⟨O2, s2, R2, rl, _⟩ := frzL_ok R s1 R1 rx e
        cases rl with
        | cons r1 rl =>
          cases rl with
          | cons r2 rl =>
            cases rl
            obtain ⟨p1, us1, t1, e1, h1, l1, k1⟩ := seq_of r1 ex
            obtain ⟨p2, us2, t2, e2, h2, l2, k2⟩ := seq_of r2 ey
            subst e1 e2
            exact ⟨_, _, _, _, _, _, rfl, h1, h2, hq _ ds2 H1 O2 _ s2 R2 (itok_zipU R2.lo k1 k2 l1 l2 hx.1) hx.2⟩
      · exact hx.elim
    · exact hx.elim⟩
end
section
variable {X : Cx} {F : Fx}
@[irreducible] def gMinD : FN := fun ds Q => match ds with
  | [.list (y :: ys)] => PySem.W.AlikeAll (y :: ys) ∧ PyData.depthAll (y :: ys) ≤ 60 ∧ Q (.d (PySem.W.minD y ys))
  | _ => False
end
theorem dpAll_len {K : Fg} {H : Hp} : ∀ {vs : List V} {ds : List D}, DpAll K H vs ds → vs.length = ds.length
  | _, _, .nil => rfl
  | _, _, .cons _ r => by simp [dpAll_len r]
end SF
namespace SF
open PySem PySem.Spec PyProof.Rows L2 PpSet
def dc : List Int → Nat
  | [] => 0
  | x :: xs => if x ∈ xs then dc xs else dc xs + 1
end SF
namespace SF
open PySem PySem.Spec PyProof.Rows L2 PpSet
end SF
namespace SF
open PySem PySem.Spec PyProof.Rows L2
def rwE (p : List Int) : D := .list (p.map .int)
def leR (p q : List Int) : Bool := decide (p ≤ q)
def rSortedRD (K : Fg) : List V → Hp → VK → Prop := fun xs H Q => ∃ (a : Addr) (vs : List V) (ps : List (List Int)), xs = [.ref a] ∧ SqL K H a vs ∧ DpAll K H vs (ps.map rwE) ∧ ps.length ≤ 4000 ∧ ∀ (zs : List (V × List Int)) (p : Addr), zs.Perm (vs.zip ps) → zs.map (·.2) = ps.mergeSort leR → H p = none → Q (.ref p) (upd H p (.lst (zs.map (·.1))))
theorem each_valsR {β : Type} : ∀ {vs : List V} {us : List Value} {ps : List β}, Vals vs us → ps.length = vs.length → PySem.W.EachIs (fun v (b : V × β) => RelV b.1 v) us (vs.zip ps)
  | _, _, [], .nil, _ => .nil
  | _, _, _ :: _, .nil, h => by simp at h
  | _, _, [], .cons _ _, h => by simp at h
  | _, _, p :: ps, .cons r rs, h => .cons r (each_valsR rs (by simpa using h))
theorem each_sndR {β : Type} {R : Value → β → Prop} : ∀ {vs : List V} {us : List Value} {ps : List β}, PySem.W.EachIs R us ps → ps.length = vs.length → PySem.W.EachIs (fun v (b : V × β) => R v b.2) us (vs.zip ps)
  | [], _, _, .nil, _ => .nil
  | _ :: _, _, _, .nil, h => by simp at h
  | [], _, _, .cons _ _, h => by simp at h
  | v :: vs, _, _, .cons r rs, h => .cons r (each_sndR rs (by simpa using h))
theorem vals_eachR {β : Type} : ∀ {zs : List (V × β)} {us : List Value}, PySem.W.EachIs (fun v (b : V × β) => RelV b.1 v) us zs → Vals (zs.map (·.1)) us
  | _, _, .nil => .nil
  | _, _, .cons r rs => .cons r (vals_eachR rs)
section
variable {X : Cx} {F : Fx}
theorem cr_sortedRD (hu : X.A.units + 65 < cLine) : CallR X (.builtin "sorted") (rSortedRD X.K) := by
  intro pins s σ H xs us Q I r h
  obtain ⟨l, vs, ps, rfl, hs, hd, hl4, q⟩ := h
  obtain ⟨its, rv, hl, _⟩ := I.list hs
  rw [Vals.ref1 r]
  have hlen : vs.length = ps.length := by rw [dpAll_len hd, List.length_map]
  obtain ⟨as, hr⟩ := Dp.readsAll I _ _ _ hd rv
  have hsz := sizeLine_eq
  have e := each_valsR (ps := ps) rv hlen.symm
  have er := each_sndR (vs := vs) (PySem.W.readsAll_each rwE hr) hlen.symm
  have hzl : (vs.zip ps).length = ps.length := by rw [List.length_zip]; omega
  refine PySem.W.sorted_data (bs := vs.zip ps) (enc := fun b => rwE b.2) hl.isList e er (PySem.W.AllAlike.of fun b b' => PySem.W.alike_ints _ _) (PySem.W.Sortable.others fun b => ⟨(fun h => by cases h), fun xs h => by cases h⟩) (by rw [hzl]; omega) (fun b _ => ?_) fun out ho hout => ?_
  · show X.A.units + 2 + (PyData.list (b.2.map .int)).depth < cLine
    simp only [PyData.depth, PySem.W.depth_ints]
    omega
  · have ed : PySem.W.dataLe false (fun b : V × List Int => rwE b.2) = fun p q => decide (p.2 ≤ q.2) := PySem.W.dataLe_rows (fun b : V × List Int => b.2)
    rw [ed] at hout
    have pm := List.mergeSort_perm (vs.zip ps) (fun p q : V × List Int => decide (p.2 ≤ q.2))
    obtain ⟨ep, he'⟩ := PyProof.Rows.sortedAll_at s.heap its (List.toArray out)
    have vl := vals_eachR hout
    have hz1 : (((vs.zip ps).mergeSort fun p q : V × List Int => decide (p.2 ≤ q.2)).map (·.1)).length ≤ sizeLine := by
      rw [List.length_map, pm.length_eq, hzl]; omega
    have pw : (((vs.zip ps).mergeSort fun p q : V × List Int => decide (p.2 ≤ q.2)).map (·.2)) = ps.mergeSort leR := by
      have hm := List.map_mergeSort (r := fun p q : V × List Int => decide (p.2 ≤ q.2)) (s := leR) (f := fun x : V × List Int => x.2) (l := vs.zip ps) (fun a _ b _ => rfl)
      rw [List.map_snd_zip (by omega)] at hm
      exact hm
    exact ⟨.ref _, upd H (s.heap.objs.size + 1) (.lst (((vs.zip ps).mergeSort fun p q : V × List Int => decide (p.2 ≤ q.2)).map (·.1))), I.laid (t' := s.toks) (fun _ _ => PyProof.Rows.sortedAll_old) (Nat.le_succ _) ⟨hz1, (List.toArray out).toList, ep, by simpa using vl, he'⟩, rfl, q _ _ pm pw (I.hok.fresh (Nat.le_succ _))⟩
def rwsD : List D → Option (List (List Int))
  | [] => some []
  | .list ys :: xs => match intsD ys with
    | some r => (rwsD xs).map fun q => r :: q
    | none => none
  | _ => none
theorem rwsD_ok : ∀ {xs : List D} {ps : List (List Int)}, rwsD xs = some ps → xs = ps.map rwE
  | [], ps, h => by cases h; rfl
  | x :: xs, ps, h => by
    have key : ∃ ys r, x = .list ys ∧ intsD ys = some r ∧ (rwsD xs).map (fun q => r :: q) = some ps := by
      unfold rwsD at h
      split at h
      · rename_i e; cases e
      · rename_i ys zs e
        cases e
        split at h
        · rename_i r e2
          exact ⟨ys, r, rfl, e2, h⟩
        · cases h
      · cases h
    obtain ⟨ys, r, rfl, h2, h3⟩ := key
    cases e2 : rwsD xs with
    | none => rw [e2] at h3; cases h3
    | some qs =>
      rw [e2] at h3
      cases h3
      rw [rwsD_ok e2, intsD_ok h2]; rfl
theorem rwsD_map : ∀ ps : List (List Int), rwsD (ps.map rwE) = some ps
  | [] => rfl
  | p :: ps => by
    show (match intsD (p.map .int) with | some r => (rwsD (ps.map rwE)).map fun q => r :: q | none => none) = _
    rw [intsD_map, rwsD_map ps]; rfl
@[irreducible] def fSortedR : FN := fun ds Q => match ds with
  | [.list xs] => someD (rwsD xs) fun ps => ps.length ≤ 4000 ∧ Q (.own ((ps.mergeSort leR).map rwE))
  | _ => False
theorem sortedR_i {ps : List (List Int)} {Q : DV → Prop} (h : ps.length ≤ 4000) (q : Q (.own ((ps.mergeSort leR).map rwE))) : fSortedR [.list (ps.map rwE)] Q := by
  unfold fSortedR
  show someD (rwsD (ps.map rwE)) _
  rw [rwsD_map]
  exact ⟨h, q⟩
theorem rpl_ofR {K : Fg} {H : Hp} {O : List Addr} : ∀ {zs : List (V × List Int)}, (∀ z ∈ zs, Rp K H O z.1 (rwE z.2)) → RpL K H O (zs.map (·.1)) ((zs.map (·.2)).map rwE)
  | [], _ => .nil
  | z :: zs, h => .cons (h z (by simp)) (rpl_ofR fun y hy => h y (List.mem_cons_of_mem _ hy))
theorem rpl_zipR {K : Fg} {H : Hp} {O : List Addr} : ∀ {vs : List V} {ps : List (List Int)}, RpL K H O vs (ps.map rwE) → ∀ z ∈ vs.zip ps, Rp K H O z.1 (rwE z.2)
  | [], _, _, z, hz => by simp at hz
  | _ :: _, [], _, z, hz => by simp at hz
  | v :: vs, p :: ps, r, z, hz => by
    cases r with
    | cons r1 r2 =>
      rcases List.mem_cons.mp hz with rfl | hz
      · exact r1
      · exact rpl_zipR r2 z hz
theorem bd_sortedR (hu : X.A.units + 65 < cLine) : BlD X (.builtin "sorted") fSortedR := ⟨_, cr_sortedRD hu, by
  intro H O xs ds Qa Q lo w hf k
  unfold fSortedR at hf
  split at hf
  · rename_i ys
    cases e : rwsD ys with
    | none => rw [e] at hf; exact hf.elim
    | some ps =>
      rw [e] at hf
      obtain ⟨v, ev, w1⟩ := vw1 w
      subst ev
      obtain ⟨p, vs, e1, h1, r1⟩ := w1.list
      subst e1
      rw [rwsD_ok e] at r1
      obtain ⟨h4, q⟩ := hf
      have hlen : vs.length = ps.length := by rw [r1.length, List.length_map]
      refine ⟨p, vs, ps, rfl, .inl (.inl h1), r1.dp, h4, fun zs p' pm so hn => ?_⟩
      have rl := rpl_ofR (zs := zs) fun z hz => rpl_zipR r1 z (pm.mem_iff.mp hz)
      rw [so] at rl
      exact k.lst p' _ _ hn rl q
  · exact hf.elim⟩
end
def FzOk (F : Fx) : Prop := ∀ p xs, F.Hin p = some (.lst xs) → p ∈ F.O
section
variable {K : Fg} {H : Hp} {O O' : List Addr}
mutual
theorem Rp.lessF (sub : ∀ p ∈ O, p ∈ O') : ∀ {v : V} {d : D}, Rp K H O' v d → Rp K H O v d
  | _, _, .non => .non
  | _, _, .bl b => .bl b
  | _, _, .int i => .int i
  | _, _, .str x => .str x
  | _, _, .lst h r => .lst ⟨h.1, fun z => h.2 (sub _ z)⟩ (RpL.lessF sub r)
  | _, _, .tup h r => .tup h (RpL.lessF sub r)
theorem RpL.lessF (sub : ∀ p ∈ O, p ∈ O') : ∀ {vs : List V} {ds : List D}, RpL K H O' vs ds → RpL K H O vs ds
  | _, _, .nil => .nil
  | _, _, .cons h r => .cons (Rp.lessF sub h) (RpL.lessF sub r)
end
end
section
variable {P : Program} {w : World} {K : Fg} {mg : Str → Option Value} {base : Heap} {CX : CXT}
theorem fnG_ofF {x qual : Str} {st : Stmt} {f : Addr} {fd : FuncData} {N ps : List Str} {k : Nat} {sp : Sp} (Fu : Fun K x qual st f fd) (S : FnScope N ps (defScope st)) (len : ∀ vs H Q E, sp vs H Q E → vs.length = ps.length)
    (hbody : ∀ (cdv : Value) (A : Around) (outer : List Env) (s : Shared) (H : Hp) (vs : List V) (Q : VK) (E : XK), (∀ a, s.heap.objs.size ≤ a → H a = none) → RoomG k (A.deeper (envOfC qual (defScope st) s.heap.objs.size f cdv)) → sp vs H Q E →
      ∃ t, PSs (cxOf CX P w K mg base N qual (defScope st) f cdv A outer s H E) (defBody st) t ∧ t { nx := fun _ H' => Q .non H', rt := Q } (start N vs) H) : FnG P w K mg base CX (k + 1) f fd ps sp := by
  obtain ⟨oc, od, kV, doc, pm, an, cdv, ct, osl, efd, lk, hcd⟩ := Fu.ex
  constructor
  · exact len
  intro A outer s H args us vs Q E hr e0 hb r hsp
  subst efd
  have old : ∀ b o, base.get? b = some o → s.heap.get? b = some o := fun b o e => (e0.bs b o e).1
  have KX : K.In s.heap := e0.mod.kin.keeps old
  have lim : s.heap.NoLimit := e0.mod.nolimit.keeps old
  refine codeAny_call_function hr.rm.depth (KX _ _ lk) rfl S.co S.gen rfl (PySem.W.codeRec_of KX hcd) (hb _ _ _ _ ?_)
  refine wpAny_newFunctionEnv_cells S.kind ?_ ?_
  · rintro ⟨n, v⟩ hy
    exact (S.par n (List.of_mem_zip hy).1).elim .inl fun q => .inr ⟨q, PySem.W.cellsFrom_some _ _ _ (.inl q)⟩
  rintro env rfl s1 x1
  obtain ⟨t, ht, hq⟩ := hbody cdv A outer s H vs Q E (fun a ha => e0.hok.fresh ha) ⟨hr.rm.deeper _, hr.gd⟩ hsp
  have I := inv_start (CX := CX) (E := E) S hr.rm.hd e0 (len _ _ _ _ hsp) r x1
  refine ⟨lim.keeps x1.toInCall.keep, codeAny_func (wpAny_mono (ht.run [] s1 _ H _ I hq) ?_ fun e s' z => z)⟩
  intro fl s' hs
  cases fl with
  | ret u => obtain ⟨v, σ', H', J, rv, q⟩ := hs; exact ⟨v, H', J.os, J.bare, J.base, J.hok, rv, q⟩
  | next => obtain ⟨σ', H', J, q⟩ := hs; exact ⟨.non, H', J.os, J.bare, J.base, J.hok, rfl, q⟩
  | brk => obtain ⟨_, _, _, q⟩ := hs; exact q.elim
  | cont => obtain ⟨_, _, _, q⟩ := hs; exact q.elim
end
open Classical in
theorem Df.prF {P : Program} {w : World} {K : Fg} {mg : Str → Option Value} {base : Heap} {k : Nat} {x : Str} {st : Stmt} {N ps : List Str} {dsp : DSp} {t : DTS} (D : Df K mg x st ps) (S : FnScope N ps (defScope st)) (len : ∀ args n Q E, dsp args n Q E → args.length = ps.length)
    (box : ∀ args n Q E, dsp args n Q E → args = [.box])
    (der : ∀ (f : Addr) (cdv : Value) (A : Around) (outer : List Env) (s : Shared) (H : Hp) (E : XK) (F : Fx), FzOk F → RoomG k (A.deeper (envOfC x (defScope st) s.heap.objs.size f cdv)) →
      PSs (cxOf (L2.CX P w) P w K mg base N x (defScope st) f cdv A outer s H E).nox (defBody st) (liftS0 K F t))
    (rd : ∀ args n Qa Ea, dsp args n Qa Ea → t ⟨fun ds => Qa (.d .none) ds.n, fun r ds => Qa r ds.n, fun _ => False, fun _ => False⟩ (startD N.length args n)) : Pr P w K mg base (k + 1) x st ps dsp := by
  obtain ⟨f, fd, Fu, g, b⟩ := D.ex
  have hlen : ∀ vs H Q E, spD K mg dsp vs H Q E → vs.length = ps.length := fun vs H Q E ⟨B, O, args, n, Qa, Ea, _, _, ha, _, hd, _⟩ => by rw [paired_len ha]; exact len _ _ _ _ hd
  refine ⟨f, fd, fnG_ofF Fu S hlen fun cdv A outer s H vs Q E hfin hr hsp => ?_, Fu, g, b⟩
  have hl := hlen vs H Q E hsp
  obtain ⟨B, O, args, n, Qa, Ea, lo, hb, ha, h1, hd, hq, _⟩ := hsp
  have hpl : ps.length ≤ N.length := by have := congrArg List.length S.pre; rw [List.length_take] at this; omega
  let O2 : List Addr := O ++ (List.range s.heap.objs.size).filter fun p => decide (∃ xs, H p = some (.lst xs))
  have sub : ∀ p ∈ O, p ∈ O2 := fun p hp => List.mem_append.mpr (.inl hp)
  have lo2 : LO O2 H := fun p hp => by
    rcases List.mem_append.mp hp with h | h
    · exact lo p h
    · obtain ⟨xs, e⟩ := of_decide_eq_true (List.mem_filter.mp h).2
      exact ⟨_, e, rfl⟩
  have fz : FzOk ⟨H, B, O2, []⟩ := fun p xs h => by
    refine List.mem_append.mpr (.inr (List.mem_filter.mpr ⟨List.mem_range.mpr ?_, decide_eq_true ⟨xs, h⟩⟩))
    by_cases z : p < s.heap.objs.size
    · exact z
    · have := hfin p (Nat.le_of_not_lt z)
      have h' : H p = some (.lst xs) := h
      rw [this] at h'
      cases h'
  have eb := box _ _ _ _ hd
  subst eb
  have ha2 : Paired (ArgD K H B O2) vs [.box] := by
    cases ha with
    | cons r rr => cases rr with | nil => exact .cons r .nil
  refine ⟨_, (der f cdv A outer s H E ⟨H, B, O2, []⟩ fz hr).nox, O2, _, _, rep_start lo2 (fun b hb' => ⟨sub b (hb b hb').1, (hb b hb').2⟩) ha2 h1 (by omega), rd [.box] n Qa Ea hd, ?_⟩
  refine ⟨fun O' ds' σ' H' R' q => ?_, fun O' ds' σ' H' v dv R' r q => ?_, fun _ _ _ _ _ q => q, fun _ _ _ _ _ q => q⟩
  · exact hq (.d .none) ds'.n .non H' R'.ext (fun b hb => (R'.bx b hb).resolve_left (fun z => nomatch z)) .non q
  · refine hq dv ds'.n v H' R'.ext (fun b hb => (R'.bx b hb).resolve_left (fun z => nomatch z)) ?_ q
    have r := r.out R'.lo R'.sub
    cases dv with
    | d x => exact Rp.lessF sub r
    | own xs =>
      obtain ⟨p, vs', e, h2, h3, h4⟩ := r
      exact ⟨p, vs', e, h2, h3, RpL.lessF (fun a ha => by
        rcases List.mem_cons.mp ha with z | z
        · rw [z]; exact List.mem_cons_self
        · exact List.mem_cons_of_mem _ (sub a z)) h4⟩
    | box => exact r
    | mu c a0 =>
      obtain ⟨e, h2, h3⟩ := r
      have lf : ∀ a ∈ a0 :: (innM c ++ O), a ∈ a0 :: (innM c ++ O2) := fun a ha => by
        rcases List.mem_cons.mp ha with z | z
        · rw [z]; exact List.mem_cons_self
        · rcases List.mem_append.mp z with z | z
          · exact List.mem_cons_of_mem _ (List.mem_append.mpr (.inl z))
          · exact List.mem_cons_of_mem _ (List.mem_append.mpr (.inr (sub a z)))
      refine ⟨e, h2, ?_⟩
      cases c with
      | lst xs => obtain ⟨es, q1, q2⟩ := h3; exact ⟨es, q1, RpL.lessF lf q2⟩
      | dK kvs => obtain ⟨es, q1, q2, q3⟩ := h3; exact ⟨es, q1, q2, RpL.lessF lf q3⟩
      | dT kvs => obtain ⟨es, q1, q2, q3, q4⟩ := h3; exact ⟨es, q1, q2, RpL.lessF lf q3, RpL.lessF lf q4⟩
      | ab A => exact A.less lf h3
    | slot j => exact r
    | exc a b => exact r
    | fd c =>
      obtain ⟨p, e, h2, h3⟩ := r
      refine ⟨p, e, fun z => h2 (sub p z), ?_⟩
      cases c with
      | lst xs => exact h3
      | ab A => exact h3
      | dK kvs => obtain ⟨o, es, q1, q2, q3⟩ := h3; exact ⟨o, es, q1, q2, RpL.lessF sub q3⟩
      | dT kvs => obtain ⟨o, es, q1, q2, q3, q4⟩ := h3; exact ⟨o, es, q1, q2, RpL.lessF sub q3, RpL.lessF sub q4⟩
variable {X : Cx}
end SF
namespace SF
section
open PySem
open PySem.Sem (wp)
variable {prog : Program} {w : World} {A : Around} {E : Value → Shared → Prop} {s : Shared}
variable {t u : Bool} {z TI TO i1 i2 l1 l2 : Addr} {k1 k2 : Nat} {xs ys : Array Value} {a b : Value}
end
end SF
namespace SF
open PySem PySem.Spec PyProof.Rows L2
end SF
namespace SF
section
open PySem
open PySem.Sem (wp)
structure ZQ where
  t : Bool
  it : Addr
  l : Addr
variable {prog : Program} {w : World} {A : Around} {E : Value → Shared → Prop} {s : Shared}
variable {z TI TO : Addr} {qs : List ZQ} {i : Nat} {ws vals : List Value} {f0 : Value} {f1 : Bool}
end
end SF
namespace SF
section
open PySem
open PySem.Sem (wp)
variable {prog : Program} {w : World} {A : Around} {E : Value → Shared → Prop} {s : Shared}
variable {z TI TO : Addr} {q0 : ZQ} {qs : List ZQ} {i : Nat} {ws vals : List Value} {f0 : Value} {f1 : Bool}
end
end SF
namespace SF
section
open PySem
open PySem.Sem (wp)
end
end SF
namespace SF
open PySem PySem.Spec PyProof.Rows L2
section
variable {K : Fg} {F : Fx} {H H' H0 G : Hp} {O O0 : List Addr} {σ : St} {ds ds0 : DS} {p : Addr} {c c' : Mu} {ob : HO}
theorem Rep.updS {j : Nat} {dv : DV} {v : V} (R : Rep K F H O σ ds) (ho : p ∈ O) (hn : ¬ MutAt σ ds j p) (hj : ds.sl[j]? = some (some dv)) (ev : σ[j]? = some (some v)) (r : RpS K H O ds.n v dv) : RpS K (upd H p ob) O ds.n v dv := by
  have kp : Keep O H (upd H p ob) := fun a o h n => by rw [upd_ne (fun z : a = p => n (z ▸ ho))]; exact h
  cases dv with
  | exc xa xb => exact ExS.mv R.lo kp grow_refl r
  | fd xc => exact FdS.mv R.lo kp grow_refl r
  | d x => exact Rp.mv R.lo kp grow_refl r
  | own zs =>
    obtain ⟨q, us, e3, a1, a2, a3⟩ := r
    subst e3
    refine ⟨q, us, rfl, a1, ?_, RpL.mv R.lo kp grow_refl a3⟩
    rw [upd_ne (fun z : q = p => hn (mutAt (z ▸ ev) hj trivial))]; exact a2
  | box =>
    obtain ⟨q, e3, a1, x, y, c, a2, a3⟩ := r
    subst e3
    refine ⟨q, rfl, a1, x, y, c, ?_, a3⟩
    rw [upd_ne (fun z : q = p => hn (mutAt (z ▸ ev) hj trivial))]; exact a2
  | mu c q =>
    obtain ⟨e3, a1, a2⟩ := r
    subst e3
    exact ⟨rfl, a1, MuAt.mv R.lo kp grow_refl (fun u hu o ho => by rw [upd_ne (fun z : u = p => hn (z ▸ mutAtM ev hj hu))]; exact ho) a2⟩
  | slot k => exact r
theorem Rep.updN (R : Rep K F H O σ ds) (ho : p ∈ O) (hn : F.Hin p = none) (hs : ∀ j, ¬ MutAt σ ds j p) (po : prt ob = true) : Rep K F (upd H p ob) O σ ds := by
  have nb : ∀ q ∈ F.B, q ≠ p := fun q hq z => R.fo q (R.bo q hq) (z ▸ hn)
  refine ⟨fun q hq => ?_, R.sub, fun a o h n => ?_, fun j dv hj => ?_, R.mu, R.new, R.newO, fun q hq => ?_, R.bu, R.b1, R.fo, R.bo, R.len, R.nm⟩
  · by_cases z : q = p
    · subst z; exact ⟨_, upd_same, po⟩
    · rw [upd_ne z]; exact R.lo q hq
  · rw [upd_ne (fun z : a = p => by subst z; rw [hn] at h; cases h)]
    exact R.ext a o h n
  · obtain ⟨w, ew, r⟩ := R.sl j dv hj
    exact ⟨w, ew, R.updS ho (hs j) hj ew r⟩
  · rcases R.bx q hq with h | ⟨x, y, c0, h, r⟩
    · exact .inl h
    · exact .inr ⟨x, y, c0, by rw [upd_ne (nb q hq)]; exact h, r⟩
end
abbrev DSpM := List D → List Mu → (DV → List Mu → Prop) → Prop
def lkT (kvs : List (D × D)) (d : D) : Option D := (kvs.find? fun kv => decide (nkD kv.1 = nkD d)).map (·.2)
def kOk : D → Bool
  | .tuple xs => match nkD (.tuple xs) with
    | some k => decide (k.depth ≤ 8)
    | none => false
  | _ => false
section
variable {X : Cx} {F : Fx} {e k0 p2 : Expr} {te tk tv : DTE} {p pos pos' pos2 : Pos}
def getT (i : Nat) (tk : DTE) : DTE := fun ds Q => match ds.sl[i]? with
  | some (some (.mu (.dT _) _)) => tk ds fun x ds1 => match ds1.sl[i]?, peek ds1 x with
    | some (some (.mu (.dT kvs) _)), some k => kOk k = true ∧ someD (lkT kvs k) fun d => Q (.d d) ds1
    | _, _ => False
  | _ => False
end
def NoM (F : Fx) : Prop := F.M = []
theorem Df.prN {P : Program} {w : World} {K : Fg} {mg : Str → Option Value} {base : Heap} {k : Nat} {x : Str} {st : Stmt} {N ps : List Str} {dsp : DSp} {t : DTS} (D : Df K mg x st ps) (S : FnScope N ps (defScope st)) (len : ∀ args n Q E, dsp args n Q E → args.length = ps.length)
    (der : ∀ (f : Addr) (cdv : Value) (A : Around) (outer : List Env) (s : Shared) (H : Hp) (E : XK) (F : Fx), NoM F → RoomG k (A.deeper (envOfC x (defScope st) s.heap.objs.size f cdv)) →
      DSs (cxOf (L2.CX P w) P w K mg base N x (defScope st) f cdv A outer s H E).nox F (defBody st) t)
    (rd : ∀ args n Qa Ea, dsp args n Qa Ea → t ⟨fun ds => Qa (.d .none) ds.n, fun r ds => Qa r ds.n, fun _ => False, fun _ => False⟩ (startD N.length args n)) : Pr P w K mg base (k + 1) x st ps dsp := by
  obtain ⟨f, fd, Fu, g, b⟩ := D.ex
  have hlen : ∀ vs H Q E, spD K mg dsp vs H Q E → vs.length = ps.length := fun vs H Q E ⟨B, O, args, n, Qa, Ea, _, _, ha, _, hd, _⟩ => by rw [paired_len ha]; exact len _ _ _ _ hd
  refine ⟨f, fd, fnG_of Fu S hlen fun cdv A outer s H vs Q E hr hsp => ?_, Fu, g, b⟩
  have hl := hlen vs H Q E hsp
  obtain ⟨B, O, args, n, Qa, Ea, lo, hb, ha, h1, hd, hq, _⟩ := hsp
  have ht := der f cdv A outer s H E ⟨H, B, O, []⟩ rfl hr
  have hpl : ps.length ≤ N.length := by have := congrArg List.length S.pre; rw [List.length_take] at this; omega
  refine ⟨_, ht.nox, O, _, _, rep_start lo hb ha h1 (by omega), rd args n Qa Ea hd, ?_⟩
  refine ⟨fun O' ds' σ' H' a R' q => ?_, fun O' ds' σ' H' v dv a R' r q => ?_, fun _ _ _ _ _ _ q => q, fun _ _ _ _ _ _ q => q⟩
  · exact hq (.d .none) ds'.n .non H' R'.ext (fun b hb => (R'.bx b hb).resolve_left (fun z => nomatch z)) .non q
  · exact hq dv ds'.n v H' R'.ext (fun b hb => (R'.bx b hb).resolve_left (fun z => nomatch z)) (r.out R'.lo R'.sub) q
inductive Fv where
  | d (x : D)
  | own (c : Mu) (k : Addr)
abbrev Fl := List (Str × Fv)
def innF : Fv → List Addr
  | .d _ => []
  | .own c k => k :: innM c
section
variable {K : Fg} {H H' : Hp} {O O' : List Addr}
theorem MuAt.lessA {p : Addr} {c : Mu} (h : ∀ q ∈ O', q ∈ O) (m : MuAt K H O p c) : MuAt K H O' p c := by
  cases c with
  | lst xs => obtain ⟨es, q1, q2⟩ := m; exact ⟨es, q1, RpL.lessF h q2⟩
  | dK kvs => obtain ⟨es, q1, q2, q3⟩ := m; exact ⟨es, q1, q2, RpL.lessF h q3⟩
  | dT kvs => obtain ⟨es, q1, q2, q3, q4⟩ := m; exact ⟨es, q1, q2, RpL.lessF h q3, RpL.lessF h q4⟩
  | ab A => exact A.less h m
end
def FvAt (K : Fg) (H : Hp) (O : List Addr) (v : V) : Fv → Prop
  | .d x => Rp K H O v x
  | .own c k => v = .ref k ∧ MuAt K H O k c
section
variable {K : Fg} {H H' : Hp} {O O' : List Addr}
theorem FvAt.mv {v : V} {x : Fv} (lo : LO O H) (k : Keep O H H') (g : Grow O O' H) (hp : ∀ q ∈ innF x, ∀ o, H q = some o → H' q = some o) (h : FvAt K H O v x) : FvAt K H' O' v x := by
  cases x with
  | d x => exact Rp.mv lo k g h
  | own c q => exact ⟨h.1, MuAt.mv lo k g (fun u hu => hp u (by rcases hu with e | e; (· rw [e]; exact List.mem_cons_self); (· exact List.mem_cons_of_mem _ e))) h.2⟩
end
abbrev DSpO := Mu → List D → (DV → Mu → Prop) → Prop
abbrev DSpI := List D → (Fl → Prop) → Prop
end SF
namespace SF
open PySem
end SF
namespace SF
open PySem PySem.Spec PyProof.Rows L2
abbrev EN := List Int × Nat
abbrev SL := List Int
structure Gr (V : SL → Prop) (nb : SL → List SL) (d : SL → Nat) (s0 : SL) : Prop where
  v0 : V s0
  d0 : d s0 = 0
  z : ∀ σ, V σ → d σ = 0 → σ = s0
  nbv : ∀ σ τ, V σ → τ ∈ nb σ → V τ
  up : ∀ σ τ, V σ → τ ∈ nb σ → d τ ≤ d σ + 1
  pre : ∀ τ k, V τ → d τ = k + 1 → ∃ σ, V σ ∧ d σ = k ∧ τ ∈ nb σ
section
variable {V : SL → Prop} {nb : SL → List SL} {d : SL → Nat} {s0 : SL}
abbrev FdN := List Int × Nat × Nat
end
def t_pick (sp_take : DSp) : DTS :=
  (dRet (dOp2 fIx (dVar 1) (dCall sp_take (fun as => as) (dCons (dVar 0) (dCons (dCB fLen (dCons (dVar 1) dNil)) dNil)))))
def t_same_0 (sp_same : DSp) : DTS :=
  (dIfS (dTr (dOp1 (fIsi2 "list" "tuple") (dVar 1))) (dSeq (dIfS (dOr (dTst (dOp2 fNe (dOp1 (fIsi "list") (dVar 0)) (dOp1 (fIsi "list") (dVar 1)))) (dTst (dOp2 fNe (dOp1 (fIsi "tuple") (dVar 0)) (dOp1 (fIsi "tuple") (dVar 1))))) (dRet (dC (.bool false))) dNext)
    (dRet (dAndV (dOp2 fEq (dCB fLen (dCons (dVar 0) dNil)) (dCB fLen (dCons (dVar 1) dNil))) (dCB fAll (dCons (dLc (dZip (dCons (dVar 0) (dCons (dVar 1) dNil))) (gdTup 2 (gdCons (gdName 2) (gdCons (gdName 3) gdNil))) dYes (dCall sp_same (fun as => as) (dCons (dVar 2) (dCons (dVar 3) dNil))) [2, 3]) dNil))))) dNext)
def t_same_1 : DTS :=
  (dIfS (dOr (dTst (dOp2 fIs (dVar 1) (dC .none))) (dTr (dOp1 (fIsi "str") (dVar 1)))) (dRet (dAndV (dOp2 fEq (dVar 0) (dVar 1)) (dOp2 fEq (dOp1 (fIsi "str") (dVar 0)) (dOp1 (fIsi "str") (dVar 1))))) dNext)
def t_same_2 : DTS :=
  (dRet (dAndV (dOp1 (fIsi "int") (dVar 0)) (dAndV (dOp2 fEq (dOp1 (fIsi "bool") (dVar 0)) (dOp1 (fIsi "bool") (dVar 1))) (dOp2 fEq (dVar 0) (dVar 1)))))
def t_same (sp_same : DSp) : DTS := (dSeq (t_same_0 sp_same) (dSeq (t_same_1) (t_same_2)))
def t_lists (sp_lists : DSp) : DTS :=
  (dRet (dIf (dTr (dOp1 (fIsi2 "list" "tuple") (dVar 0))) (dLc (dSq (dVar 0)) (gdName 1) dYes (dCall sp_lists (fun as => as) (dCons (dVar 1) dNil)) [1]) (dVar 0)))
def t_shuffled_0 : DTS :=
  (dPar 2 3 (dCons (dCB fList (dCons (dVar 1) dNil)) (dCons (dLst dNil) dNil)))
def t_shuffled_1 (sp_take : DSp) : DTS :=
  (dWhile (dTst (dOp2 fNe (dVar 2) (dLst dNil))) (dDrop (dMut 3 gAppend (dCons (dMut 2 gPopAt (dCons (dCall sp_take (fun as => as) (dCons (dVar 0) (dCons (dCB fLen (dCons (dVar 2) dNil)) dNil))) dNil)) dNil))))
def t_shuffled_2 : DTS :=
  (dRet (dVar 3))
def t_shuffled (sp_take : DSp) : DTS := (dSeq (t_shuffled_0) (dSeq (t_shuffled_1 sp_take) (t_shuffled_2)))
def t_gauges_0 (sp_take : DSp) (sp_pick : DSp) : DTS :=
  (dPar3 2 3 4 (dCons (dCall sp_pick (fun as => as) (dCons (dVar 0) (dCons (dLst (dCons (dC (.int 1)) (dCons (dC (.int 1)) (dCons (dC (.int 3)) (dCons (dOp2 fPow (dC (.int 10)) (dC (.int 7))) dNil))))) dNil))) (dCons (dCall sp_take (fun as => as) (dCons (dVar 0) (dCons (dC (.int 3)) dNil))) (dCons (dLst dNil) dNil))))
def t_gauges_1 (sp_take : DSp) : DTS :=
  (dFor (dRng1 (dCons (dVar 1) dNil)) (gdName 5) (dSeq (dSet 3 (dOp2 fAdd (dOp2 fAdd (dVar 3) (dC (.int 1))) (dCall sp_take (fun as => as) (dCons (dVar 0) (dCons (dVar 2) dNil)))))
    (dDrop (dMut 4 gAppend (dCons (dVar 3) dNil)))))
def t_gauges_2 : DTS :=
  (dRet (dCB fTuple (dCons (dVar 4) dNil)))
def t_gauges (sp_take : DSp) (sp_pick : DSp) : DTS := (dSeq (t_gauges_0 sp_take sp_pick) (dSeq (t_gauges_1 sp_take) (t_gauges_2)))
def t_span_0 (sp_take : DSp) : DTS :=
  (dPar 3 4 (dCons (dIdx (dVar 1) (dVar 2)) (dCons (dCall sp_take (fun as => as) (dCons (dVar 0) (dCons (dC (.int 5)) dNil))) dNil)))
def t_span_1 (sp_take : DSp) : DTS :=
  (dPar 5 6 (dCons (dOp2 fSub (dVar 3) (dCB fMin (dCons (dVar 3) (dCons (dVar 4) dNil)))) (dCons (dCB fMin (dCons (dOp2 fSub (dCB fLen (dCons (dVar 1) dNil)) (dC (.int 1))) (dCons (dOp2 fAdd (dVar 3) (dCall sp_take (fun as => as) (dCons (dVar 0) (dCons (dOp2 fAdd (dVar 4) (dC (.int 1))) dNil)))) dNil))) dNil)))
def t_span_2 (sp_take : DSp) : DTS :=
  (dPar 7 8 (dCons (dOp2 fIx (dVar 1) (dOp2 fAdd (dCall sp_take (fun as => as) (dCons (dVar 0) (dCons (dOp2 fAdd (dOp2 fSub (dVar 3) (dVar 5)) (dC (.int 1))) dNil))) (dVar 5))) (dCons (dOp2 fIx (dVar 1) (dVar 6)) dNil)))
def t_span_3 (sp_take : DSp) : DTS :=
  (dRet (dTup (dCons (dOp2 fSub (dVar 7) (dCB fMin (dCons (dOp2 fSub (dVar 7) (dC (.int 1))) (dCons (dCall sp_take (fun as => as) (dCons (dVar 0) (dCons (dC (.int 2)) dNil))) dNil)))) (dCons (dOp2 fAdd (dVar 8) (dCall sp_take (fun as => as) (dCons (dVar 0) (dCons (dC (.int 2)) dNil)))) dNil))))
def t_span (sp_take : DSp) : DTS := (dSeq (t_span_0 sp_take) (dSeq (t_span_1 sp_take) (dSeq (t_span_2 sp_take) (t_span_3 sp_take))))
def t_plant_0 (sp_take : DSp) : DTS :=
  (dSet 3 (dOp2 fAdd (dC (.int 1)) (dCall sp_take (fun as => as) (dCons (dVar 0) (dCons (dVar 1) dNil)))))
def t_plant_1 (sp_gauges : DSp) (sp_take : DSp) : DTS :=
  (dSet 4 (dCall sp_gauges (fun as => as) (dCons (dVar 0) (dCons (dCB fMin (dCons (dVar 2) (dCons (dOp2 fAdd (dVar 3) (dCall sp_take (fun as => as) (dCons (dVar 0) (dCons (dOp2 fAdd (dOp2 fSub (dVar 2) (dVar 3)) (dC (.int 1))) dNil)))) dNil))) dNil))))
def t_plant_2 (sp_shuffled : DSp) : DTS :=
  (dSet 5 (dCB fTuple (dCons (dSl (dCall sp_shuffled (fun as => as) (dCons (dVar 0) (dCons (dVar 4) dNil))) dNoP (dP (dVar 3))) dNil)))
def t_plant_3 (sp_span : DSp) : DTS :=
  (dRet (dTup (dCons (dTup (dCons (dVar 4) (dCons (dCB fTuple (dCons (dLc (dSq (dVar 5)) (gdName 6) dYes (dCall sp_span (fun as => as) (dCons (dVar 0) (dCons (dVar 4) (dCons (dVar 6) dNil)))) [6]) dNil)) dNil))) (dCons (dVar 5) dNil))))
def t_plant (sp_take : DSp) (sp_gauges : DSp) (sp_shuffled : DSp) (sp_span : DSp) : DTS := (dSeq (t_plant_0 sp_take) (dSeq (t_plant_1 sp_gauges sp_take) (dSeq (t_plant_2 sp_shuffled) (t_plant_3 sp_span))))
mutual
def siz : D → Nat
  | .none => 5
  | .bool _ => 5
  | .int _ => 60
  | .str x => 10 * x.length + 2
  | .list xs => sizL xs + 4
  | .tuple xs => sizL xs + 4
  | .dict _ => 0
def sizL : List D → Nat
  | [] => 0
  | x :: xs => siz x + 2 + sizL xs
end
mutual
def wfB (b : Nat) : D → Bool
  | .none => true
  | .bool _ => true
  | .int i => decide (i.natAbs ≤ b)
  | .str x => x.cps.all (· < 1114112)
  | .list xs => wfLB b xs
  | .tuple xs => wfLB b xs
  | .dict _ => false
def wfLB (b : Nat) : List D → Bool
  | [] => true
  | x :: xs => wfB b x && wfLB b xs
end
def big : Nat := 100000000000000000000000000000000000000000000000000
abbrev wf : D → Bool := wfB big
abbrev wfL : List D → Bool := wfLB big
theorem wfL_iff {b : Nat} : ∀ {xs : List D}, wfLB b xs = true ↔ ∀ x ∈ xs, wfB b x = true
  | [] => by simp [wfLB]
  | x :: xs => by simp [wfLB, wfL_iff (xs := xs)]
mutual
theorem wf_mono {b b' : Nat} (h : b ≤ b') : ∀ d : D, wfB b d = true → wfB b' d = true
  | .none, _ => by simp [wfB]
  | .bool _, _ => by simp [wfB]
  | .int i, e => by simp only [wfB, decide_eq_true_eq] at e ⊢; omega
  | .str x, e => by simpa only [wfB] using e
  | .list xs, e => by simp only [wfB] at e ⊢; exact wfL_mono h xs e
  | .tuple xs, e => by simp only [wfB] at e ⊢; exact wfL_mono h xs e
  | .dict _, e => by simp [wfB] at e
theorem wfL_mono {b b' : Nat} (h : b ≤ b') : ∀ xs : List D, wfLB b xs = true → wfLB b' xs = true
  | [], _ => by simp [wfLB]
  | x :: xs, e => by
    simp only [wfLB, Bool.and_eq_true] at e ⊢
    exact ⟨wf_mono h x e.1, wfL_mono h xs e.2⟩
end
theorem big_log {i : Int} (h : i.natAbs ≤ big) : i.natAbs.log2 < 1900 := by
  by_cases z : i.natAbs = 0
  · rw [z]; decide
  · have : i.natAbs.log2 < 200 := (Nat.log2_lt z).mpr (Nat.lt_of_le_of_lt h (by decide))
    omega
theorem big_text {i : Int} (h : i.natAbs ≤ big) : (Str.ofString (toString i)).length ≤ 60 := by
  have := int_text_length_le10 (a := i) (k := 51) (by decide) (Nat.lt_of_le_of_lt h (by decide))
  rw [PySem.ofString_length]; omega
theorem depthAll_le : ∀ {xs : List D} {k : Nat}, PyData.depthAll xs ≤ k ↔ ∀ x ∈ xs, x.depth ≤ k
  | [], k => by simp [PyData.depthAll]
  | x :: xs, k => by
    simp only [PyData.depthAll, List.forall_mem_cons, ← depthAll_le (xs := xs)]
    omega
mutual
theorem wf_lay : ∀ d : D, wf d = true → d.canLay0 = true
  | .none, _ => by simp [PyData.canLay0]
  | .bool _, _ => by simp [PyData.canLay0]
  | .int _, _ => by simp [PyData.canLay0]
  | .str x, h => by
    simp only [PyData.canLay0, PyData.strOk]
    exact h
  | .list xs, h => by simp only [PyData.canLay0]; exact wfL_lay xs (by simpa [wf, wfB] using h)
  | .tuple xs, h => by simp only [PyData.canLay0]; exact wfL_lay xs (by simpa [wf, wfB] using h)
  | .dict _, h => by simp [wf, wfB] at h
theorem wfL_lay : ∀ xs : List D, wfL xs = true → PyData.canLayAll0 xs = true
  | [], _ => by simp [PyData.canLayAll0]
  | x :: xs, h => by
    simp only [wfL, wfLB, Bool.and_eq_true] at h
    simp only [PyData.canLayAll0, wf_lay x h.1, wfL_lay xs h.2, Bool.and_self]
end
mutual
theorem wf_show : ∀ d : D, wf d = true → d.showable = true
  | .none, _ => by simp [PyData.showable]
  | .bool _, _ => by simp [PyData.showable]
  | .int i, h => by
    simp only [wf, wfB, decide_eq_true_eq] at h
    simp only [PyData.showable, decide_eq_true_eq]
    have := big_log h
    omega
  | .str x, h => by simp [PyData.showable]
  | .list xs, h => by simp only [PyData.showable]; exact wfL_show xs (by simpa [wf, wfB] using h)
  | .tuple xs, h => by simp only [PyData.showable]; exact wfL_show xs (by simpa [wf, wfB] using h)
  | .dict _, h => by simp [wf, wfB] at h
theorem wfL_show : ∀ xs : List D, wfL xs = true → PyData.showableAll xs = true
  | [], _ => by simp [PyData.showableAll]
  | x :: xs, h => by
    simp only [wfL, wfLB, Bool.and_eq_true] at h
    simp only [PyData.showableAll, wf_show x h.1, wfL_show xs h.2, Bool.and_self]
end
theorem listText_le (ts : List Str) : (listText ts).length ≤ piled ts + 4 := by
  unfold listText
  rw [strLen_append]
  have e1 : (("]" : String) : Str).length = 1 := rfl
  cases ts with
  | nil => show (("[" : String) : Str).length + _ ≤ _; have : (("[" : String) : Str).length = 1 := rfl; omega
  | cons t r =>
    show (textFrom 1 ((("[" : String) : Str) ++ (((if (0 : Nat) > 0 then ", " else "") : String) : Str) ++ t) r).length + _ ≤ _
    rw [textFrom_length_pos r 1 _ (by decide), strLen_append, strLen_append, piled_cons]
    have e2 : (("[" : String) : Str).length = 1 := rfl
    have e3 : ((((if (0 : Nat) > 0 then ", " else "") : String)) : Str).length = 0 := rfl
    omega
theorem tupleText_le (ts : List Str) : (tupleText ts).length ≤ piled ts + 4 := by
  unfold tupleText
  rw [strLen_append, strLen_append]
  have e1 : ((("(" : String) : Str)).length = 1 := rfl
  have e2 : (((if ts.length == 1 then ",)" else ")") : String) : Str).length ≤ 2 := by split <;> decide
  by_cases h : ts = []
  · subst h
    have e3 : (Str.join ", " []).length = 0 := rfl
    omega
  · have := join_length_add ts h
    omega
mutual
theorem shown_le : ∀ d : D, wf d = true → d.shown.length ≤ siz d
  | .none, _ => by simp only [PyData.shown, siz]; decide
  | .bool b, _ => by simp only [PyData.shown, siz]; cases b <;> decide
  | .int i, h => by
    simp only [wf, wfB, decide_eq_true_eq] at h
    simp only [PyData.shown, siz]
    exact big_text h
  | .str x, h => by
    simp only [PyData.shown, siz]
    refine StrLaws.reprText_len x fun c hc => ?_
    have h' : x.cps.all (· < 1114112) = true := by simpa [wf, wfB] using h
    have := (Array.all_eq_true'.mp h') c (by simpa using hc)
    simp only [decide_eq_true_eq] at this
    have e : (16 : Nat) ^ 8 = 4294967296 := by decide
    omega
  | .list xs, h => by
    simp only [PyData.shown, siz]
    have := shownL_le xs (by simpa [wf, wfB] using h)
    have := listText_le (PyData.shownAll xs)
    omega
  | .tuple xs, h => by
    simp only [PyData.shown, siz]
    have := shownL_le xs (by simpa [wf, wfB] using h)
    have := tupleText_le (PyData.shownAll xs)
    omega
  | .dict _, h => by simp [wf, wfB] at h
theorem shownL_le : ∀ xs : List D, wfL xs = true → piled (PyData.shownAll xs) ≤ sizL xs
  | [], _ => by simp [PyData.shownAll, piled_nil]
  | x :: xs, h => by
    simp only [wfL, wfLB, Bool.and_eq_true] at h
    have h1 := shown_le x h.1
    have h2 := shownL_le xs h.2
    simp only [PyData.shownAll, piled_cons, sizL]
    omega
end
structure NiceB (b k m : Nat) (d : D) : Prop where
  okB : wfB b d = true
  bb : b ≤ big
  dp : d.depth ≤ k
  sz : siz d ≤ m
abbrev Nice (k m : Nat) (d : D) : Prop := NiceB big k m d
section
variable {b b' k m k' m' : Nat} {d : D} {xs : List D}
theorem NiceB.ok (h : NiceB b k m d) : wf d = true := wf_mono h.bb d h.okB
theorem NiceB.shaped (h : NiceB b k m d) (hk : k ≤ 60) : SeqAt.shaped d = true := by
  unfold SeqAt.shaped
  rw [wf_lay d h.ok, Bool.true_and, decide_eq_true_eq]
  exact Nat.le_trans h.dp (by omega)
theorem NiceB.shows (h : NiceB b k m d) (hk : k ≤ 60) (hm : m ≤ 16777216) : Shows d :=
  ⟨wf_show d h.ok, PyData.hasDict_of_canLay d (wf_lay d h.ok), Nat.le_trans (shown_le d h.ok) (Nat.le_trans h.sz hm), Nat.le_trans h.dp hk⟩
theorem NiceB.mono (h : NiceB b k m d) (hk : k ≤ k') (hm : m ≤ m') : NiceB b k' m' d := ⟨h.okB, h.bb, Nat.le_trans h.dp hk, Nat.le_trans h.sz hm⟩
theorem sizL_le {m : Nat} : ∀ {xs : List D}, (∀ x ∈ xs, siz x ≤ m) → sizL xs ≤ xs.length * (m + 2)
  | [], _ => by simp [sizL]
  | x :: xs, h => by
    have h1 := h x (by simp)
    have h2 := sizL_le (xs := xs) fun y hy => h y (by simp [hy])
    simp only [sizL, List.length_cons, Nat.add_mul]
    omega
theorem nice_list (hb : b ≤ big) (h : ∀ x ∈ xs, NiceB b k m x) : NiceB b (k + 1) (xs.length * (m + 2) + 4) (.list xs) :=
  ⟨by simp only [wfB]; exact wfL_iff.mpr fun x hx => (h x hx).okB, hb, by simp only [PyData.depth]; have := depthAll_le.mpr fun x hx => (h x hx).dp; omega, by simp only [siz]; have := sizL_le fun x hx => (h x hx).sz; omega⟩
theorem nice_tuple (hb : b ≤ big) (h : ∀ x ∈ xs, NiceB b k m x) : NiceB b (k + 1) (xs.length * (m + 2) + 4) (.tuple xs) :=
  ⟨by simp only [wfB]; exact wfL_iff.mpr fun x hx => (h x hx).okB, hb, by simp only [PyData.depth]; have := depthAll_le.mpr fun x hx => (h x hx).dp; omega, by simp only [siz]; have := sizL_le fun x hx => (h x hx).sz; omega⟩
theorem nice_int {i : Int} (hb : b ≤ big) (h : i.natAbs ≤ b) : NiceB b 0 60 (.int i) := ⟨by simpa [wfB] using h, hb, by simp [PyData.depth], by simp [siz]⟩
theorem nice_small {i : Int} (h0 : -1267650600228229401496703205376 < i) (h1 : i < 1267650600228229401496703205376) : Nice 0 60 (.int i) := by
  have e : big = 100000000000000000000000000000000000000000000000000 := rfl
  exact nice_int (Nat.le_refl _) (by omega)
end
theorem shp_in {d : D} {P : Prop} (h : SeqAt.shaped d = true) (p : P) : shp d P := by
  unfold shp
  rw [h]
  exact p
theorem feq_in {d e : D} {Q : DV → Prop} (h : SeqAt.shaped d = true) (h' : SeqAt.shaped e = true) (q : Q (.d (.bool (PyData.eqv d e)))) : fEq d e Q := by
  unfold fEq
  exact .inl (shp_in h (shp_in h' q))
theorem fne_in {d e : D} {Q : DV → Prop} (h : SeqAt.shaped d = true) (h' : SeqAt.shaped e = true) (q : Q (.d (.bool (!PyData.eqv d e)))) : fNe d e Q := by
  unfold fNe
  exact .inl (shp_in h (shp_in h' q))
theorem fne_str {x y : Str} {Q : DV → Prop} (q : Q (.d (.bool (!decide (x = y))))) : fNe (.str x) (.str y) Q := by
  unfold fNe
  exact .inr ⟨x, y, rfl, rfl, q⟩
theorem feq_str {x y : Str} {Q : DV → Prop} (q : Q (.d (.bool (decide (x = y))))) : fEq (.str x) (.str y) Q := by
  unfold fEq
  exact .inr ⟨x, y, rfl, rfl, q⟩
theorem few_in {n : Nat} {P : Prop} (h : n ≤ 1000) (p : P) : few n P := by
  unfold few
  rw [Nat.ble_eq_true_of_le h]
  exact p
abbrev fin (Qa : DV → Nat → Prop) : DEn := ⟨fun ds => Qa (.d .none) ds.n, fun r ds => Qa r ds.n, fun _ => False, fun _ => False⟩
def itsD : D → Option (List D)
  | .list xs => some xs
  | .tuple xs => some xs
  | _ => none
theorem atI_in {α : Type} {xs : List α} {k : Int} (h0 : 0 ≤ k) (h : k < (xs.length : Int)) : ∃ v, atI xs k = some v ∧ xs[k.toNat]? = some v := by
  have hk : k.toNat < xs.length := by omega
  have ek : k = ((k.toNat : Nat) : Int) := by omega
  have q : atI xs ((k.toNat : Nat) : Int) = some xs[k.toNat] := atI_nat (List.getElem?_eq_getElem hk)
  rw [← ek] at q
  exact ⟨_, q, List.getElem?_eq_getElem hk⟩
def sp_pick : DSp := fun args n Q _ => ∃ d xs, args = [.box, .d d] ∧ itsD d = some xs ∧ 0 < xs.length ∧ xs.length ≤ 100000 ∧ 3 ≤ n ∧ ∀ x ∈ xs, Q (.d x) (n - 3)
theorem r_pick : ∀ args n Qa Ea, sp_pick args n Qa Ea → t_pick sp_take (fin Qa) (startD 2 args n) := by
  rintro args n Qa Ea ⟨d, xs, rfl, hd, h0, h1, hn, hq⟩
  have main : ∀ r : Int, 0 ≤ r → r < (xs.length : Int) → someD (atI xs r) fun x => Qa (.d x) (n - 3) := fun r r0 r1 => by
    obtain ⟨v, e1, e2⟩ := atI_in r0 r1
    rw [e1]
    exact hq v (List.mem_of_getElem? e2)
  cases d with
  | list ys => cases hd; exact ⟨_, rfl, by omega, by omega, hn, main⟩
  | tuple ys => cases hd; exact ⟨_, rfl, by omega, by omega, hn, main⟩
  | _ => cases hd
def sp_shuffled : DSp := fun args n Q _ => ∃ d xs, args = [.box, .d d] ∧ itsD d = some xs ∧ xs.length ≤ 1000 ∧ (∀ x ∈ xs, Nice 50 100000 x) ∧ 3 * xs.length ≤ n ∧ ∀ ys, ys.Perm xs → Q (.own ys) (n - 3 * xs.length)
theorem eqvNil {l : List D} : PyData.eqv (.list l) (.list []) = l.isEmpty := by cases l <;> simp [PyData.eqv, PyData.eqvAll]
theorem ixN_in {n : Nat} {r : Int} (h0 : 0 ≤ r) (h : r < (n : Int)) : ixN n r = some r.toNat := by
  unfold ixN
  first
    | (split <;> first | rfl | omega | (split <;> first | rfl | omega))
    | simp [h0, h]
theorem perm_erase {α : Type} : ∀ {l : List α} {j : Nat} {y : α}, l[j]? = some y → (y :: l.eraseIdx j).Perm l
  | [], j, y, h => by simp at h
  | a :: l, 0, y, h => by simp at h; subst h; exact .refl _
  | a :: l, j + 1, y, h => by
    rw [List.eraseIdx_cons_succ]
    exact (List.Perm.swap a y _).trans (.cons a (perm_erase (by simpa using h)))
theorem perm_pop {f l xs : List D} {j : Nat} {y : D} (h : (f ++ l).Perm xs) (hy : l[j]? = some y) : ((f ++ [y]) ++ l.eraseIdx j).Perm xs := by
  have hj : j < l.length := (List.getElem?_eq_some_iff.mp hy).1
  have e : l[j] = y := (List.getElem?_eq_some_iff.mp hy).2
  have p : (y :: l.eraseIdx j).Perm l := perm_erase hy
  rw [List.append_assoc]
  exact (List.Perm.append_left f p).trans h
theorem r_shuffled : ∀ args n Qa Ea, sp_shuffled args n Qa Ea → t_shuffled sp_take (fin Qa) (startD 4 args n) := by
  rintro args n Qa Ea ⟨d, xs, rfl, hd, h1, hs, hn, hq⟩
  have main : (dSeq (dWhile (dTst (dOp2 fNe (dVar 2) (dLst dNil))) (dDrop (dMut 3 gAppend (dCons (dMut 2 gPopAt (dCons (dCall sp_take (fun as => as) (dCons (dVar 0) (dCons (dCB fLen (dCons (dVar 2) dNil)) dNil))) dNil)) dNil))))
    (dRet (dVar 3))) (fin Qa) ⟨[some .box, some (.d d), some (.own xs), some (.own [])], n⟩ := by
    refine ⟨fun m ds => ∃ l f, ds = ⟨[some .box, some (.d d), some (.own l), some (.own f)], n - 3 * f.length⟩ ∧ m = l.length ∧ (f ++ l).Perm xs, ⟨xs.length, xs, [], rfl, rfl, .refl _⟩, ?_⟩
    rintro m ds ⟨l, f, rfl, rfl, hp⟩
    have hl : l.length + f.length = xs.length := by have := hp.length_eq; rw [List.length_append] at this; omega
    refine fne_in ((nice_list (k := 50) (m := 100000) (Nat.le_refl _) fun x hx => hs x (hp.subset (List.mem_append.mpr (.inr hx)))).shaped (by omega)) (by decide) ?_
    rw [eqvNil]
    cases l with
    | nil =>
      have e : f.length = xs.length := by simpa using hl
      show Qa (.own f) (n - 3 * f.length)
      rw [e]
      exact hq f (by simpa using hp)
    | cons a l =>
      have hl' : l.length + 1 + f.length = xs.length := by simpa using hl
      refine ⟨_, rfl, by simp only [List.length_cons]; omega, by simp only [List.length_cons]; omega, by show 3 ≤ n - 3 * f.length; omega, fun r r0 r1 => ?_⟩
      show someD (ixN (a :: l).length r) _
      rw [ixN_in r0 r1]
      obtain ⟨v, e1, e2⟩ := atI_in r0 r1
      show someD ((a :: l)[r.toNat]?) _
      rw [e2]
      refine ⟨by simp only [List.length_cons]; omega, ?_, ?_⟩
      · show f.length < 16777216
        omega
      · refine ⟨l.length, by simp, (a :: l).eraseIdx r.toNat, f ++ [v], ?_, ?_, perm_pop hp e2⟩
        · show (⟨_, n - 3 * f.length - 3⟩ : DS) = ⟨_, n - 3 * (f ++ [v]).length⟩
          rw [List.length_append, List.length_singleton, show n - 3 * f.length - 3 = n - 3 * (f.length + 1) by omega]
          rfl
        · rw [List.length_eraseIdx]
          have : r.toNat < (a :: l).length := by simp only [List.length_cons] at r1 ⊢; omega
          rw [if_pos this, List.length_cons]; omega
  cases d with
  | list ys => cases hd; exact main
  | tuple ys => cases hd; exact main
  | _ => cases hd
structure Asc (m : Int) (gs : List Int) : Prop where
  lt : gs.Pairwise (· < ·)
  lo : ∀ g ∈ gs, 1 ≤ g
  hi : ∀ g ∈ gs, g ≤ m
def sp_gauges : DSp := fun args n Q _ => ∃ t : Int, args = [.box, .d (.int t)] ∧ 0 ≤ t ∧ t ≤ 100 ∧ 6 + 3 * t.toNat ≤ n ∧ ∀ gs n', Asc 2000000000 gs → gs.length = t.toNat → n ≤ n' + 6 + 3 * t.toNat → Q (.d (.tuple (gs.map .int))) n'
theorem r_gauges : ∀ args n Qa Ea, sp_gauges args n Qa Ea → t_gauges sp_take sp_pick (fin Qa) (startD 6 args n) := by
  rintro args n Qa Ea ⟨t, rfl, t0, t1, hn, hq⟩
  refine ⟨⟨by decide, by decide, by decide⟩, _, [.int 1, .int 1, .int 3, .int 10000000], rfl, rfl, by decide, by decide, by show 3 ≤ n; omega, fun x hx => ?_⟩
  have hg : ∃ g : Int, x = .int g ∧ 1 ≤ g ∧ g ≤ 10000000 := by
    simp only [List.mem_cons, List.not_mem_nil, or_false] at hx
    rcases hx with h | h | h | h <;> subst h <;> exact ⟨_, rfl, by decide, by decide⟩
  obtain ⟨g, rfl, g0, g1⟩ := hg
  refine ⟨3, rfl, by decide, by decide, by show 3 ≤ n - 3; omega, fun r r0 r1 => ?_⟩
  refine ⟨by omega, by omega, ?_⟩
  refine ⟨fun i ds => ∃ (top : Int) (gs : List Int) (k : Option DV) (n' : Nat), ds = ⟨[some .box, some (.d (.int t)), some (.d (.int g)), some (.d (.int top)), some (.own (gs.map .int)), k], n'⟩ ∧ gs.length = i ∧ gs.Pairwise (· < ·) ∧ (∀ z ∈ gs, 1 ≤ z ∧ z ≤ top) ∧ 0 ≤ top ∧ top ≤ 2 + 10000000 * i ∧ n ≤ n' + 6 + 3 * i, ⟨r, [], none, _, rfl, rfl, .nil, by simp, r0, by omega, by show n ≤ n - 3 - 3 + 6 + 3 * 0; omega⟩, ?_, ?_⟩
  · rintro i d ds hi ⟨top, gs, k, n', rfl, hl, hp, hb, h0, h1, hn'⟩
    have hi' : i < t.toNat := by
      obtain ⟨q, _⟩ := List.getElem?_eq_some_iff.mp hi
      rw [rangeD_len] at q
      exact q
    refine ⟨g, rfl, by omega, by omega, by show 3 ≤ n'; omega, fun s s0 s1 => ?_⟩
    refine ⟨by rw [List.length_map, hl]; omega, ?_⟩
    refine ⟨top + 1 + s, gs ++ [top + 1 + s], _, n' - 3, by rw [List.map_append]; rfl, by rw [List.length_append, hl]; rfl, ?_, ?_, by omega, by omega, by omega⟩
    · rw [List.pairwise_append]
      exact ⟨hp, List.pairwise_singleton _ _, fun a ha b hb' => by have := hb a ha; simp at hb'; omega⟩
    · intro z hz
      rw [List.mem_append] at hz
      rcases hz with hz | hz
      · have := hb z hz; omega
      · simp at hz; omega
  · rintro ds ⟨top, gs, k, n', rfl, hl, hp, hb, h0, h1, hn'⟩
    rw [rangeD_len] at hl h1 hn'
    exact hq gs n' ⟨hp, fun z hz => (hb z hz).1, fun z hz => by have := hb z hz; omega⟩ hl hn'
theorem idx_int {gs : List Int} {h : Int} (hm : h ∈ gs) : ∃ j, idxD (gs.map .int) (.int h) = some j ∧ gs[j]? = some h := by
  have hs : (scD (.int h) && (gs.map PyData.int).all scD) = true := by
    rw [Bool.and_eq_true]
    exact ⟨rfl, List.all_eq_true.mpr fun x hx => by obtain ⟨g, _, e⟩ := List.mem_map.mp hx; subst e; rfl⟩
  unfold idxD
  rw [hs]
  show ∃ j, List.findIdx? _ _ = some j ∧ _
  cases e : List.findIdx? (fun y => PyData.eqv y (.int h)) (gs.map PyData.int) with
  | none =>
    rw [List.findIdx?_eq_none_iff] at e
    have := e (.int h) (List.mem_map.mpr ⟨h, hm, rfl⟩)
    simp [PyData.eqv] at this
  | some j =>
    refine ⟨j, rfl, ?_⟩
    rw [List.findIdx?_eq_some_iff_getElem] at e
    obtain ⟨hj, he, _⟩ := e
    rw [List.getElem_map] at he
    have : gs[j]'(by simpa using hj) = h := by simpa [PyData.eqv] using he
    exact List.getElem?_eq_some_iff.mpr ⟨by simpa using hj, this⟩
theorem asc_get {gs : List Int} (hp : gs.Pairwise (· < ·)) {i j : Nat} {a b : Int} (hi : gs[i]? = some a) (hj : gs[j]? = some b) (h : i ≤ j) : a ≤ b := by
  obtain ⟨h1, e1⟩ := List.getElem?_eq_some_iff.mp hi
  obtain ⟨h2, e2⟩ := List.getElem?_eq_some_iff.mp hj
  rcases Nat.lt_or_eq_of_le h with h | h
  · have := List.pairwise_iff_getElem.mp hp i j h1 h2 h
    omega
  · subst h; rw [← e1, ← e2]; exact Int.le_refl _
theorem at_map {gs : List Int} {k : Int} (h0 : 0 ≤ k) (h : k < (gs.length : Int)) : ∃ v, atI (gs.map PyData.int) k = some (.int v) ∧ gs[k.toNat]? = some v := by
  obtain ⟨v, e1, e2⟩ := atI_in (xs := gs.map PyData.int) h0 (by rw [List.length_map]; exact h)
  rw [List.getElem?_map] at e2
  cases q : gs[k.toNat]? with
  | none => rw [q] at e2; cases e2
  | some g => rw [q] at e2; cases e2; exact ⟨g, e1, rfl⟩
theorem someI {α : Type} {o : Option α} {x : α} {P : α → Prop} (e : o = some x) (h : P x) : someD o P := by subst e; exact h
def prD (p : Int × Int) : D := .tuple [.int p.1, .int p.2]
def sp_span : DSp := fun args n Q _ => ∃ (gs : List Int) (h : Int), args = [.box, .d (.tuple (gs.map .int)), .d (.int h)] ∧ Asc 2000000000 gs ∧ gs.length ≤ 1000 ∧ h ∈ gs ∧ 15 ≤ n ∧
  ∀ p : Int × Int, 1 ≤ p.1 → p.1 ≤ h → h ≤ p.2 → p.2 ≤ 2000000001 → Q (.d (prD p)) (n - 15)
theorem r_span : ∀ args n Qa Ea, sp_span args n Qa Ea → t_span sp_take (fin Qa) (startD 9 args n) := by
  rintro args n Qa Ea ⟨gs, h, rfl, ha, hl, hm, hn, hq⟩
  obtain ⟨j, ej, gj⟩ := idx_int hm
  have jl : j < gs.length := (List.getElem?_eq_some_iff.mp gj).1
  refine someI (intsD_map gs) (someI ej ?_)
  refine ⟨5, rfl, by decide, by decide, by show 3 ≤ n; omega, fun r r0 r1 => ?_⟩
  refine ⟨_, rfl, by omega, by omega, by show 3 ≤ n - 3; omega, fun r2 r20 r21 => ?_⟩
  have hlen : ((gs.map PyData.int).length : Int) = gs.length := by rw [List.length_map]
  generalize ef : ((j : Nat) : Int) - (if r < ((j : Nat) : Int) then r else ((j : Nat) : Int)) = first
  generalize el : (if ((j : Nat) : Int) + r2 < ((gs.map PyData.int).length : Int) - 1 then ((j : Nat) : Int) + r2 else ((gs.map PyData.int).length : Int) - 1) = last
  have f0 : 0 ≤ first ∧ first ≤ j := by
    subst ef
    split <;> constructor <;> omega
  have l0 : (j : Int) ≤ last ∧ last < gs.length := by
    subst el
    rw [hlen]
    split <;> constructor <;> omega
  subst ef el
  refine ⟨_, rfl, ?_, ?_, by show 3 ≤ n - 3 - 3; omega, fun r3 r30 r31 => ?_⟩
  · omega
  · omega
  have hr3 : 0 ≤ r3 + ((j : Nat) - (if r < (j : Nat) then r else (j : Nat)) : Int) ∧ r3 + ((j : Nat) - (if r < (j : Nat) then r else (j : Nat)) : Int) ≤ j := ⟨by omega, by omega⟩
  obtain ⟨b, eb, gb⟩ := at_map (gs := gs) hr3.1 (by omega)
  refine someI eb ?_
  obtain ⟨t, et, gt⟩ := at_map (gs := gs) (Int.le_trans (Int.natCast_nonneg j) l0.1) l0.2
  refine someI et ?_
  refine ⟨2, rfl, by decide, by decide, by show 3 ≤ n - 3 - 3 - 3; omega, fun r4 r40 r41 => ?_⟩
  refine ⟨2, rfl, by decide, by decide, by show 3 ≤ n - 3 - 3 - 3 - 3; omega, fun r5 r50 r51 => ?_⟩
  have b1 : 1 ≤ b := ha.lo b (List.mem_of_getElem? gb)
  have bh : b ≤ h := asc_get ha.lt gb gj (by omega)
  have ht : h ≤ t := asc_get ha.lt gj gt (by omega)
  have tM : t ≤ 2000000000 := ha.hi t (List.mem_of_getElem? gt)
  have key := hq (b - (if r4 < b - 1 then r4 else b - 1), t + r5) (by dsimp only; split <;> omega) (by dsimp only; split <;> omega) (by dsimp only; omega) (by dsimp only; omega)
  show Qa _ (n - 3 - 3 - 3 - 3 - 3)
  rw [show n - 3 - 3 - 3 - 3 - 3 = n - 15 by omega]
  exact key
def toI : D → Int
  | .int i => i
  | _ => 0
theorem perm_ints {ys : List D} {gs : List Int} (h : ys.Perm (gs.map .int)) : ∃ zs : List Int, zs.Perm gs ∧ ys = zs.map .int := by
  refine ⟨ys.map toI, ?_, ?_⟩
  · have := h.map toI
    rw [List.map_map] at this
    have e : gs.map (toI ∘ PyData.int) = gs := by
      induction gs with
      | nil => rfl
      | cons g gs ih => simp [toI, Function.comp_def]
    rw [e] at this
    exact this
  · rw [List.map_map]
    have : ∀ y ∈ ys, (PyData.int ∘ toI) y = y := fun y hy => by
      obtain ⟨g, _, e⟩ := List.mem_map.mp (h.subset hy)
      subst e; rfl
    calc ys = ys.map id := by simp
      _ = ys.map (PyData.int ∘ toI) := List.map_congr_left fun y hy => (this y hy).symm
theorem cut_head {xs : List D} {k : Int} (h0 : 0 ≤ k) (h : k ≤ (xs.length : Int)) : cutD xs none (some k) = xs.take k.toNat := by
  unfold cutD
  rw [HT.sIx_none, List.drop_zero, Nat.sub_zero]
  have ek : k = ((k.toNat : Nat) : Int) := by omega
  rw [ek, HT.sIx_nat, Int.toNat_natCast, Nat.min_eq_left (by omega)]
structure Shop (gs : List Int) (ps : List (Int × Int)) (st : List Int) : Prop where
  asc : Asc 2000000000 gs
  len : gs.length ≤ 100
  one : 0 < st.length
  eqv : st.length = ps.length
  nd : st.Nodup
  sub : ∀ g ∈ st, g ∈ gs
  rng : ∀ p ∈ ps, 1 ≤ p.1 ∧ p.1 ≤ p.2 ∧ p.2 ≤ 2000000001
  fit : ∀ (i : Nat) p g, ps[i]? = some p → st[i]? = some g → p.1 ≤ g ∧ g ≤ p.2
def shopD (gs : List Int) (ps : List (Int × Int)) : D := .tuple [.tuple (gs.map .int), .tuple (ps.map prD)]
def sp_plant : DSp := fun args n Q _ => ∃ a b : Int, args = [.box, .d (.int a), .d (.int b)] ∧ 1 ≤ a ∧ a ≤ b ∧ b ≤ 100 ∧ 100000 ≤ n ∧
  ∀ gs ps st n', Shop gs ps st → (st.length : Int) ≤ a → (gs.length : Int) ≤ b → n ≤ n' + 100000 → Q (.d (.tuple [shopD gs ps, .tuple (st.map .int)])) n'
theorem r_plant : ∀ args n Qa Ea, sp_plant args n Qa Ea → t_plant sp_take sp_gauges sp_shuffled sp_span (fin Qa) (startD 7 args n) := by
  rintro args n Qa Ea ⟨a, b, rfl, a1, ab, b1, hn, hq⟩
  refine ⟨a, rfl, by omega, by omega, by show 3 ≤ n; omega, fun r r0 r1 => ?_⟩
  refine ⟨b - (1 + r) + 1, rfl, by omega, by omega, by show 3 ≤ n - 3; omega, fun r2 r20 r21 => ?_⟩
  generalize et : (if 1 + r + r2 < b then 1 + r + r2 else b) = t
  have ht : 1 + r ≤ t ∧ t ≤ b := by subst et; split <;> constructor <;> omega
  refine ⟨t, by rw [← et], by omega, by omega, by show _ ≤ n - 3 - 3; omega, fun gs n2 ha hl hn2 => ?_⟩
  have hn2' : n - 3 - 3 ≤ n2 + 6 + 3 * t.toNat := hn2
  refine ⟨_, gs.map .int, rfl, rfl, by rw [List.length_map]; omega, fun x hx => ?_, by rw [List.length_map]; show _ ≤ n2; omega, fun ys hy => ?_⟩
  · obtain ⟨g, hg, e⟩ := List.mem_map.mp hx
    subst e
    exact (nice_small (by have := ha.lo g hg; omega) (by have := ha.hi g hg; omega)).mono (by omega) (by omega)
  rw [List.length_map]
  obtain ⟨zs, hz, rfl⟩ := perm_ints hy
  have hzl : zs.length = t.toNat := hz.length_eq.trans hl
  have e : cutD (zs.map PyData.int) none (some (1 + r)) = (zs.take (1 + r).toNat).map .int := by
    rw [cut_head (by omega) (by rw [List.length_map]; omega), List.map_take]
  have rest : ∀ (st : List Int) (n3 : Nat), st.Nodup → (∀ g ∈ st, g ∈ gs) → 0 < st.length → (st.length : Int) ≤ a → n2 ≤ n3 + 3 * t.toNat → t_plant_3 sp_span (fin Qa) ⟨[some .box, some (.d (.int a)), some (.d (.int b)), some (.d (.int (1 + r))), some (.d (.tuple (gs.map .int))), some (.d (.tuple (st.map .int))), none], n3⟩ := by
    intro st n3 s1 s2 s3 s4 hn3
    refine lc_in (fun K hK => hK) rfl (fun i acc ds => ∃ (ps : List (Int × Int)) (n4 : Nat), acc = ps.map prD ∧ ps.length = i ∧ ds = ⟨[some .box, some (.d (.int a)), some (.d (.int b)), some (.d (.int (1 + r))), some (.d (.tuple (gs.map .int))), some (.d (.tuple (st.map .int))), none], n4⟩ ∧ n3 ≤ n4 + 15 * i ∧ (∀ p ∈ ps, 1 ≤ p.1 ∧ p.1 ≤ p.2 ∧ p.2 ≤ 2000000001) ∧ ∀ (j : Nat) p g, ps[j]? = some p → st[j]? = some g → p.1 ≤ g ∧ g ≤ p.2) ⟨[], n3, rfl, rfl, rfl, by omega, by simp, by simp⟩ ?_ ?_
    · rintro i d acc ds hi ⟨ps, n4, rfl, hl', rfl, hn4, hb, hf⟩
      rw [List.getElem?_map] at hi
      cases q : st[i]? with
      | none => rw [q] at hi; cases hi
      | some g =>
        rw [q] at hi; cases hi
        have il : i < st.length := (List.getElem?_eq_some_iff.mp q).1
        refine ⟨gs, g, rfl, ha, by omega, s2 g (List.mem_of_getElem? q), by show 15 ≤ n4; omega, fun p p1 p2 p3 p4 => ?_⟩
        refine ⟨ps ++ [p], n4 - 15, by rw [List.map_append]; rfl, by rw [List.length_append, hl']; rfl, rfl, by omega, fun x hx => ?_, fun j x y hx hy => ?_⟩
        · rw [List.mem_append] at hx
          rcases hx with hx | hx
          · exact hb x hx
          · simp at hx; subst hx; exact ⟨p1, by omega, p4⟩
        · by_cases hj : j < ps.length
          · rw [List.getElem?_append_left hj] at hx
            exact hf j x y hx hy
          · rw [List.getElem?_append_right (by omega)] at hx
            have hj2 : j - ps.length < 1 := by simpa using (List.getElem?_eq_some_iff.mp hx).1
            have ej : j = i := by omega
            subst ej
            rw [show j - ps.length = 0 by omega] at hx
            simp at hx; subst hx
            rw [q] at hy; cases hy
            exact ⟨p2, p3⟩
    · rintro acc ds ⟨ps, n4, rfl, hl', rfl, hn4, hb, hf⟩
      rw [List.length_map] at hl' hn4
      exact hq gs ps st n4 ⟨ha, by omega, s3, hl'.symm, s1, s2, hb, hf⟩ s4 (by omega) (by omega)
  have nz : zs.Nodup := hz.nodup_iff.mpr (ha.lt.imp fun h => Int.ne_of_lt h)
  have key := rest (zs.take (1 + r).toNat) (n2 - 3 * gs.length) (nz.sublist (List.take_sublist _ _)) (fun g hg => hz.subset (List.mem_of_mem_take hg)) (by rw [List.length_take]; omega) (by rw [List.length_take]; omega) (by omega)
  rw [← e] at key
  exact key
mutual
theorem eqv_refl : ∀ d : D, wf d = true → PyData.eqv d d = true
  | .none, _ => by simp [PyData.eqv]
  | .bool _, _ => by simp [PyData.eqv]
  | .int _, _ => by simp [PyData.eqv]
  | .str _, _ => by simp [PyData.eqv]
  | .list xs, h => by simp only [PyData.eqv]; exact eqvL_refl xs (by simpa [wf, wfB] using h)
  | .tuple xs, h => by simp only [PyData.eqv]; exact eqvL_refl xs (by simpa [wf, wfB] using h)
  | .dict _, h => by simp [wf, wfB] at h
theorem eqvL_refl : ∀ xs : List D, wfL xs = true → PyData.eqvAll xs xs = true
  | [], _ => by simp [PyData.eqvAll]
  | x :: xs, h => by
    simp only [wfL, wfLB, Bool.and_eq_true] at h
    simp only [PyData.eqvAll, eqv_refl x h.1, eqvL_refl xs h.2, Bool.and_self]
end
theorem shaped_int (i : Int) : SeqAt.shaped (.int i) = true := by simp [SeqAt.shaped, PyData.canLay0, PyData.depth]
theorem shaped_bool (b : Bool) : SeqAt.shaped (.bool b) = true := by simp [SeqAt.shaped, PyData.canLay0, PyData.depth]
theorem feq_self {d : D} {Q : DV → Prop} {k m : Nat} (h : Nice k m d) (hk : k ≤ 60) (q : Q (.d (.bool true))) : fEq d d Q := feq_in (h.shaped hk) (h.shaped hk) (by rw [eqv_refl d h.ok]; exact q)
theorem feq_bool {a b : Bool} {Q : DV → Prop} (q : Q (.d (.bool (a == b)))) : fEq (.bool a) (.bool b) Q := feq_in (shaped_bool a) (shaped_bool b) (by simpa [PyData.eqv] using q)
theorem feq_int {a b : Int} {Q : DV → Prop} (q : Q (.d (.bool (a == b)))) : fEq (.int a) (.int b) Q := feq_in (shaped_int a) (shaped_int b) (by simpa [PyData.eqv] using q)
theorem fne_bool {a b : Bool} {Q : DV → Prop} (q : Q (.d (.bool (!(a == b))))) : fNe (.bool a) (.bool b) Q := fne_in (shaped_bool a) (shaped_bool b) (by simpa [PyData.eqv] using q)
theorem fne_int {a b : Int} {Q : DV → Prop} (q : Q (.d (.bool (!(a == b))))) : fNe (.int a) (.int b) Q := fne_in (shaped_int a) (shaped_int b) (by simpa [PyData.eqv] using q)
def sp_same (k : Nat) : DSp := fun args n Q _ => ∃ a, args = [.d a, .d a] ∧ Nice 50 16000000 a ∧ a.depth < k ∧ Q (.d (.bool true)) n
theorem zip_self : ∀ {xs : List D} {i : Nat} {d : D}, (zipD xs xs)[i]? = some d → ∃ x, xs[i]? = some x ∧ d = .tuple [x, x]
  | [], i, d, h => by simp [zipD] at h
  | x :: xs, 0, d, h => by simp [zipD] at h; exact ⟨x, rfl, h.symm⟩
  | x :: xs, i + 1, d, h => by
    simp only [zipD, List.getElem?_cons_succ] at h
    exact zip_self (xs := xs) (i := i) (d := d) h
theorem sizL_mem : ∀ {xs : List D} {x : D}, x ∈ xs → siz x ≤ sizL xs
  | y :: xs, x, h => by
    simp only [sizL]
    rcases List.mem_cons.mp h with h | h
    · subst h; omega
    · have := sizL_mem h; omega
theorem sizL_len : ∀ {xs : List D}, 2 * xs.length ≤ sizL xs
  | [] => by simp [sizL]
  | x :: xs => by have := sizL_len (xs := xs); simp only [sizL, List.length_cons]; omega
theorem NiceB.items {b k m : Nat} {d : D} {xs : List D} (h : NiceB b k m d) (hx : itsD d = some xs) : (∀ x ∈ xs, NiceB b k m x ∧ x.depth < d.depth) ∧ 2 * xs.length ≤ m := by
  have go : ∀ ys : List D, wfLB b ys = true → PyData.depthAll ys + 1 ≤ k → sizL ys + 4 ≤ m → (∀ x ∈ ys, NiceB b k m x ∧ x.depth < PyData.depthAll ys + 1) ∧ 2 * ys.length ≤ m := fun ys h1 h2 h3 =>
    ⟨fun x hx => ⟨⟨wfL_iff.mp h1 x hx, h.bb, by have := (depthAll_le (k := PyData.depthAll ys)).mp (Nat.le_refl _) x hx; omega, by have := sizL_mem hx; omega⟩, by have := (depthAll_le (k := PyData.depthAll ys)).mp (Nat.le_refl _) x hx; omega⟩, by have := sizL_len (xs := ys); omega⟩
  cases d with
  | list ys => cases hx; exact go xs (by simpa [wfB] using h.okB) (by simpa [PyData.depth] using h.dp) (by simpa [siz] using h.sz)
  | tuple ys => cases hx; exact go xs (by simpa [wfB] using h.okB) (by simpa [PyData.depth] using h.dp) (by simpa [siz] using h.sz)
  | _ => cases hx
theorem same_lc {k : Nat} {a : D} {xs : List D} {n : Nat} {Qa : DV → DS → Prop} (h : Nice 50 16000000 a) (hx : itsD a = some xs) (hk : a.depth < k + 1) (q : Qa (.d (.bool true)) ⟨[some (.d a), some (.d a), none, none], n⟩) :
    (dCB fAll (dCons (dLc (dZip (dCons (dVar 0) (dCons (dVar 1) dNil))) (gdTup 2 (gdCons (gdName 2) (gdCons (gdName 3) gdNil))) dYes (dCall (sp_same k) (fun as => as) (dCons (dVar 2) (dCons (dVar 3) dNil))) [2, 3]) dNil)) ⟨[some (.d a), some (.d a), none, none], n⟩ Qa := by
  obtain ⟨hi, hm⟩ := h.items hx
  have main : ∀ (hw : ∀ K : List D → DS → Prop, K (zipD xs xs) ⟨[some (.d a), some (.d a), none, none], n⟩ → dZip (dCons (dVar 0) (dCons (dVar 1) dNil)) ⟨[some (.d a), some (.d a), none, none], n⟩ K), (dCB fAll (dCons (dLc (dZip (dCons (dVar 0) (dCons (dVar 1) dNil))) (gdTup 2 (gdCons (gdName 2) (gdCons (gdName 3) gdNil))) dYes (dCall (sp_same k) (fun as => as) (dCons (dVar 2) (dCons (dVar 3) dNil))) [2, 3]) dNil)) ⟨[some (.d a), some (.d a), none, none], n⟩ Qa := fun hw => by
    refine lc_in hw rfl (fun i acc ds => acc = List.replicate i (.bool true) ∧ ds = ⟨[some (.d a), some (.d a), none, none], n⟩) ⟨rfl, rfl⟩ ?_ ?_
    · rintro i d acc ds hi' ⟨rfl, rfl⟩
      obtain ⟨x, ex, rfl⟩ := zip_self hi'
      obtain ⟨nx, dx⟩ := hi x (List.mem_of_getElem? ex)
      exact ⟨x, rfl, nx, by omega, by rw [List.replicate_succ'], rfl⟩
    · rintro acc ds ⟨rfl, rfl⟩
      show someD (boolsD _) _
      rw [bools_true]
      show Qa (.d (.bool ((List.replicate _ true).all id))) _
      rw [all_true]
      exact q
  cases a with
  | list ys => cases hx; exact main fun K hK => ⟨by omega, hK⟩
  | tuple ys => cases hx; exact main fun K hK => ⟨by omega, hK⟩
  | _ => cases hx
theorem r_same (k : Nat) : ∀ args n Qa Ea, sp_same (k + 1) args n Qa Ea → t_same (sp_same k) (fin Qa) (startD 4 args n) := by
  rintro args n Qa Ea ⟨a, rfl, hn, hk, hq⟩
  cases a with
  | none =>
    refine feq_self hn (by omega) ?_
    refine feq_bool ?_
    exact hq
  | bool b =>
    refine feq_bool ?_
    rw [beq_self_eq_true]
    refine feq_self hn (by omega) ?_
    exact hq
  | int i =>
    refine feq_bool ?_
    refine feq_self hn (by omega) ?_
    exact hq
  | str x =>
    refine feq_self hn (by omega) ?_
    refine feq_bool ?_
    exact hq
  | list xs =>
    refine fne_bool ?_
    refine fne_bool ?_
    refine feq_int ?_
    rw [beq_self_eq_true]
    refine same_lc hn rfl hk ?_
    exact hq
  | tuple xs =>
    refine fne_bool ?_
    refine fne_bool ?_
    refine feq_int ?_
    rw [beq_self_eq_true]
    refine same_lc hn rfl hk ?_
    exact hq
  | dict k => exact absurd hn.ok (by simp [wf, wfB])
mutual
def listsD : D → D
  | .list xs => .list (listsL xs)
  | .tuple xs => .list (listsL xs)
  | d => d
def listsL : List D → List D
  | [] => []
  | x :: xs => listsD x :: listsL xs
end
theorem listsL_map : ∀ xs : List D, listsL xs = xs.map listsD
  | [] => by simp [listsL]
  | x :: xs => by simp [listsL, listsL_map xs]
def rvL (a : D) : DV := match itsD a with
  | some xs => .own (listsL xs)
  | none => .d a
def sp_lists (k : Nat) : DSp := fun args n Q _ => ∃ a, args = [.d a] ∧ Nice 50 16000000 a ∧ a.depth < k ∧ Q (rvL a) n
theorem take_snoc {α : Type} {xs : List α} {i : Nat} {x : α} (h : xs[i]? = some x) : xs.take (i + 1) = xs.take i ++ [x] := by
  rw [List.take_add_one, h]; rfl
theorem r_lists (k : Nat) : ∀ args n Qa Ea, sp_lists (k + 1) args n Qa Ea → t_lists (sp_lists k) (fin Qa) (startD 2 args n) := by
  rintro args n Qa Ea ⟨a, rfl, hn, hk, hq⟩
  have main : ∀ xs, itsD a = some xs → (dLc (dSq (dVar 0)) (gdName 1) dYes (dCall (sp_lists k) (fun as => as) (dCons (dVar 1) dNil)) [1]) ⟨[some (.d a), none], n⟩ (fun r ds => match retV ds r with | some r => Qa r ds.n | none => False) := fun xs hx => by
    obtain ⟨hi, hm⟩ := hn.items hx
    have e : rvL a = .own (listsL xs) := by unfold rvL; rw [hx]
    rw [e] at hq
    have inner : ∀ (hw : ∀ K : List D → DS → Prop, K xs ⟨[some (.d a), none], n⟩ → dSq (dVar 0) ⟨[some (.d a), none], n⟩ K), (dLc (dSq (dVar 0)) (gdName 1) dYes (dCall (sp_lists k) (fun as => as) (dCons (dVar 1) dNil)) [1]) ⟨[some (.d a), none], n⟩ (fun r ds => match retV ds r with | some r => Qa r ds.n | none => False) := fun hw => by
      refine lc_in hw rfl (fun i acc ds => acc = (xs.take i).map listsD ∧ ds = ⟨[some (.d a), none], n⟩) ⟨rfl, rfl⟩ ?_ ?_
      · rintro i d acc ds hi' ⟨rfl, rfl⟩
        obtain ⟨nx, dx⟩ := hi d (List.mem_of_getElem? hi')
        refine ⟨d, rfl, nx, by omega, ?_⟩
        have fr : ∀ m : DS, frz m (rvL d) = some (listsD d, m) := fun m => by
          cases d <;> rfl
        show (match frz _ (rvL d) with | some (z, ds6) => _ | none => False)
        rw [fr]
        exact ⟨by rw [take_snoc hi', List.map_append]; rfl, rfl⟩
      · rintro acc ds ⟨rfl, rfl⟩
        rw [List.take_length, ← listsL_map]
        exact hq
    cases a with
    | list ys => cases hx; exact inner fun K hK => hK
    | tuple ys => cases hx; exact inner fun K hK => hK
    | _ => cases hx
  cases a with
  | none => exact hq
  | bool b => exact hq
  | int i => exact hq
  | str x => exact hq
  | list xs => exact main xs rfl
  | tuple xs => exact main xs rfl
  | dict k => exact absurd hn.ok (by simp [wf, wfB])
def two : D → Option (Int × Int)
  | .tuple [.int a, .int c] => some (a, c)
  | _ => none
def t_l_fits : DTS :=
  (dRet (dChain fLe fLe (dOp2 gIx (dOp2 gIx (dOp2 gIx (dVar 0) (dC (.int 1))) (dVar 1)) (dC (.int 0))) (dVar 2) (dOp2 gIx (dOp2 gIx (dOp2 gIx (dVar 0) (dC (.int 1))) (dVar 1)) (dC (.int 1)))))
def t_store : DTS :=
  (dRet (dLc (dSq (dOp2 gIx (dVar 0) (dC (.int 0)))) (gdName 2) (dTst (dOp2 gNotIn (dVar 2) (dVar 1))) (dVar 2) [2]))
def t_l_after_0 : DTS :=
  (dSet 2 (dCB fList (dCons (dVar 0) dNil)))
def t_l_after_1 : DTS :=
  (dIfS (dTst (dOp2 fEq (dOp2 gIx (dVar 1) (dC (.int 0))) (dC (.str "take")))) (dSetIx 2 (dOp2 gIx (dVar 1) (dC (.int 1))) (dOp2 gIx (dVar 1) (dC (.int 2)))) (dSwap 2 (dOp2 gIx (dVar 1) (dC (.int 1))) (dOp2 gIx (dVar 1) (dC (.int 2))) (dCons (dOp2 gIx (dVar 0) (dOp2 gIx (dVar 1) (dC (.int 2)))) (dCons (dOp2 gIx (dVar 0) (dOp2 gIx (dVar 1) (dC (.int 1)))) dNil))))
def t_l_after_2 : DTS :=
  (dRet (dCB fTuple (dCons (dVar 2) dNil)))
def t_l_after : DTS := (dSeq (t_l_after_0) (dSeq (t_l_after_1) (t_l_after_2)))
def t_deals_0 : DTS :=
  (dPar 2 3 (dCons (dLst dNil) (dCons (dCB gLen (dCons (dVar 1) dNil)) dNil)))
def t_deals_1 (sp_l_fits : DSp) : DTS :=
  (dFor (dRng1 (dCons (dVar 3) dNil)) (gdName 4) (dFor (dRng2 (dCons (dOp2 fAdd (dVar 4) (dC (.int 1))) (dCons (dVar 3) dNil))) (gdName 5) (dIfS (dAnd (dTr (dCall sp_l_fits (fun as => as) (dCons (dVar 0) (dCons (dVar 4) (dCons (dOp2 gIx (dVar 1) (dVar 5)) dNil))))) (dTr (dCall sp_l_fits (fun as => as) (dCons (dVar 0) (dCons (dVar 5) (dCons (dOp2 gIx (dVar 1) (dVar 4)) dNil)))))) (dDrop (dMut 2 gAppend (dCons (dTup (dCons (dC (.str "swap")) (dCons (dVar 4) (dCons (dVar 5) dNil)))) dNil))) dNext)))
def t_deals_2 (sp_store : DSp) (sp_l_fits : DSp) : DTS :=
  (dFor (dRng1 (dCons (dVar 3) dNil)) (gdName 4) (dDrop (dMut 2 gExtend (dCons (dLc (dSq (dCall sp_store (fun as => as) (dCons (dVar 0) (dCons (dVar 1) dNil)))) (gdName 6) (dTr (dCall sp_l_fits (fun as => as) (dCons (dVar 0) (dCons (dVar 4) (dCons (dVar 6) dNil))))) (dTup (dCons (dC (.str "take")) (dCons (dVar 4) (dCons (dVar 6) dNil)))) [6]) dNil))))
def t_deals_3 : DTS :=
  (dRet (dVar 2))
def t_deals (sp_l_fits : DSp) (sp_store : DSp) : DTS := (dSeq (t_deals_0) (dSeq (t_deals_1 sp_l_fits) (dSeq (t_deals_2 sp_store sp_l_fits) (t_deals_3))))
def t_wandered_0 : DTS :=
  (dSet 4 (dLst dNil))
def t_wandered_1 (sp_deals : DSp) (sp_l_after : DSp) : DTS :=
  (dFor (dRng1 (dCons (dVar 3) dNil)) (gdName 5) (dSeq (dSet 6 (dCall sp_deals (fun as => as) (dCons (dVar 1) (dCons (dVar 2) dNil))))
    (dIfS (dTst (dOp2 fNe (dVar 6) (dLst dNil))) (dSeq (dDrop (dMut 4 gAppend (dCons (dPick 0 (dVar 6)) dNil)))
    (dSet 2 (dCall sp_l_after (fun as => as) (dCons (dVar 2) (dCons (dOp2 gIx (dVar 4) (dOp1 fNeg (dC (.int 1)))) dNil))))) dNext)))
def t_wandered_2 : DTS :=
  (dRet (dTup (dCons (dVar 4) (dCons (dVar 2) dNil))))
def t_wandered (sp_deals : DSp) (sp_l_after : DSp) : DTS := (dSeq (t_wandered_0) (dSeq (t_wandered_1 sp_deals sp_l_after) (t_wandered_2)))
def forR (g : DTG) (tb : DTS) (E : DEn) : List D → DS → Prop
  | [] => E.nx
  | d :: its => fun ds => g d ds fun ds3 => tb { E with nx := forR g tb E its, ct := forR g tb E its, bk := E.nx } ds3
theorem for_run {g : DTG} {tb : DTS} {E : DEn} {its : List D} {ds : DS} (h : forR g tb E its ds) : ∃ W : Nat → DS → Prop, W 0 ds ∧
    (∀ (i : Nat) d ds2, its[i]? = some d → W i ds2 → g d ds2 fun ds3 => tb { E with nx := W (i + 1), ct := W (i + 1), bk := E.nx } ds3) ∧ ∀ ds2, W its.length ds2 → E.nx ds2 := by
  refine ⟨fun i ds => forR g tb E (its.drop i) ds, by simpa using h, ?_, ?_⟩
  · intro i d ds2 hi hw
    have hl := (List.getElem?_eq_some_iff.mp hi)
    obtain ⟨h1, h2⟩ := hl
    rw [List.drop_eq_getElem_cons h1, h2] at hw
    exact hw
  · intro ds2 hw
    rw [List.drop_length] at hw
    exact hw
theorem lc_map {α : Type} (enc : α → D) (xs : List α) (fn : α → Option D) {w : DTI} {g : DTG} {tt : DTT} {te : DTE} {vs : List Nat} {ds ds1 : DS} {Q : DV → DS → Prop} (hw : ∀ K : List D → DS → Prop, K (xs.map enc) ds1 → w ds K) (hb : noBox ds1.sl vs = true)
    (hst : ∀ a ∈ xs, ∀ (acc : List D) (P : List D → DS → Prop), P (acc ++ (fn a).toList) ⟨wipeD ds1.sl vs, ds1.n⟩ → g (enc a) ⟨wipeD ds1.sl vs, ds1.n⟩ fun ds3 => tt ds3 fun b ds4 => match b with
      | true => te ds4 fun y ds5 => match frz ds5 y with
        | some (z, ds6) => P (acc ++ [z]) ⟨wipeD ds6.sl vs, ds6.n⟩
        | none => False
      | false => P acc ⟨wipeD ds4.sl vs, ds4.n⟩)
    (hQ : Q (.own (xs.filterMap fn)) ⟨restD (wipeD ds1.sl vs) ds1.sl vs, ds1.n⟩) : dLc w g tt te vs ds Q := by
  refine lc_in hw hb (fun i acc ds => acc = (xs.take i).filterMap fn ∧ ds = ⟨wipeD ds1.sl vs, ds1.n⟩) ⟨by simp, rfl⟩ ?_ ?_
  · rintro i d acc ds2 hi ⟨rfl, rfl⟩
    rw [List.getElem?_map] at hi
    cases ex : xs[i]? with
    | none => rw [ex] at hi; cases hi
    | some a =>
      rw [ex] at hi
      cases hi
      refine hst a (List.mem_of_getElem? ex) _ (fun acc ds => acc = (xs.take (i + 1)).filterMap fn ∧ ds = ⟨wipeD ds1.sl vs, ds1.n⟩) ⟨?_, rfl⟩
      rw [take_snoc ex, List.filterMap_append]
      refine congrArg _ ?_
      simp only [List.filterMap_cons, List.filterMap_nil]
      cases fn a <;> rfl
  · rintro acc ds2 ⟨rfl, rfl⟩
    rw [List.length_map, List.take_length]
    exact hQ
def mkQ (t : Bool) (xs : List D) : D := if t then .tuple xs else .list xs
def prQ (t : Bool) (p : Int × Int) : D := mkQ t [.int p.1, .int p.2]
def shQ (t : Bool) (gs : List Int) (ps : List (Int × Int)) : D := mkQ t [mkQ t (gs.map .int), mkQ t (ps.map (prQ t))]
def stD (t : Bool) (st : List Int) : D := mkQ t (st.map .int)
abbrev Ex := Bool × Int × Int
def exW (b : Bool) : Str := if b then "swap" else "take"
def exD (t : Bool) (e : Ex) : D := mkQ t [.str (exW e.1), .int e.2.1, .int e.2.2]
theorem w3 : decide (exW true = ("take" : Str)) = false := by decide +kernel
theorem w4 : decide (exW false = ("take" : Str)) = true := by decide +kernel
theorem w_take (b : Bool) : decide (exW b = ("take" : Str)) = !b := by cases b; exact w4; exact w3
theorem sc_ints : ∀ gs : List Int, (gs.map PyData.int).all scD = true
  | [] => rfl
  | g :: gs => by simp only [List.map_cons, List.all_cons, sc_ints gs]; rfl
theorem any_ints {f : Int} : ∀ gs : List Int, ((gs.map PyData.int).any fun y => PyData.eqv y (.int f)) = gs.contains f
  | [] => rfl
  | g :: gs => by
    simp only [List.map_cons, List.any_cons, any_ints gs, PyData.eqv, List.contains_cons]
    rw [show (g == f) = (f == g) from BEq.comm]
theorem insc_ints {gs : List Int} {f : Int} {P : Prop} (h : P) : inSc (.int f) (gs.map .int) P := by
  unfold inSc
  rw [show (scD (.int f) && (gs.map PyData.int).all scD) = true by rw [sc_ints]; rfl]
  exact h
theorem notIn_ints {t : Bool} {gs : List Int} {f : Int} {Q : DV → Prop} (h : Q (.d (.bool (!gs.contains f)))) : gNotIn (.int f) (mkQ t (gs.map .int)) Q := by
  refine gNotIn_i ?_
  cases t <;> (refine insc_ints ?_; rw [any_ints, if_pos rfl]; exact h)
theorem in_ints {t : Bool} {gs : List Int} {f : Int} {Q : DV → Prop} (h : Q (.d (.bool (gs.contains f)))) : gIn (.int f) (mkQ t (gs.map .int)) Q := by
  refine gIn_i ?_
  cases t <;> (refine insc_ints ?_; rw [any_ints, if_neg Bool.false_ne_true]; exact h)
def nth (xs : List Int) (i : Int) : Int := xs.getD i.toNat 0
theorem at_ints {xs : List Int} {i : Int} (h0 : 0 ≤ i) (h : i < (xs.length : Int)) : atI (xs.map PyData.int) i = some (.int (nth xs i)) := by
  obtain ⟨v, e1, e2⟩ := at_map h0 h
  rw [e1, nth, List.getD_eq_getElem?_getD, e2]; rfl
theorem ix_ints {t : Bool} {xs : List Int} {i : Int} {Q : DV → Prop} (h0 : 0 ≤ i) (h : i < (xs.length : Int)) (q : Q (.d (.int (nth xs i)))) : gIx (mkQ t (xs.map .int)) (.int i) Q := by
  refine gIx_i ?_
  cases t <;> exact someI (at_ints h0 h) q
def prAt (ps : List (Int × Int)) (i : Int) : Int × Int := ps.getD i.toNat (0, 0)
theorem at_prs {t : Bool} {ps : List (Int × Int)} {i : Int} (h0 : 0 ≤ i) (h : i < (ps.length : Int)) : atI (ps.map (prQ t)) i = some (prQ t (prAt ps i)) := by
  obtain ⟨v, e1, e2⟩ := atI_in (xs := ps.map (prQ t)) h0 (by rw [List.length_map]; exact h)
  rw [List.getElem?_map] at e2
  rw [e1, prAt, List.getD_eq_getElem?_getD]
  cases q : ps[i.toNat]? with
  | none => rw [q] at e2; cases e2
  | some p => rw [q] at e2; cases e2; rfl
theorem ix_prs {t : Bool} {ps : List (Int × Int)} {i : Int} {Q : DV → Prop} (h0 : 0 ≤ i) (h : i < (ps.length : Int)) (q : Q (.d (prQ t (prAt ps i)))) : gIx (mkQ t (ps.map (prQ t))) (.int i) Q := by
  refine gIx_i ?_
  cases t <;> exact someI (at_prs h0 h) q
theorem ixl0 {t : Bool} {a : D} {xs : List D} {Q : DV → Prop} (q : Q (.d a)) : gIx (mkQ t (a :: xs)) (.int 0) Q := by refine gIx_i ?_; cases t <;> exact someI (x := a) (atI_nat (j := 0) rfl) q
theorem ixl1 {t : Bool} {a b : D} {xs : List D} {Q : DV → Prop} (q : Q (.d b)) : gIx (mkQ t (a :: b :: xs)) (.int 1) Q := by refine gIx_i ?_; cases t <;> exact someI (x := b) (atI_nat (j := 1) rfl) q
theorem ixl2 {t : Bool} {a b c : D} {xs : List D} {Q : DV → Prop} (q : Q (.d c)) : gIx (mkQ t (a :: b :: c :: xs)) (.int 2) Q := by refine gIx_i ?_; cases t <;> exact someI (x := c) (atI_nat (j := 2) rfl) q
theorem lenQ {t : Bool} {xs : List D} {Q : DV → Prop} (q : Q (.d (.int ((xs.length : Nat) : Int)))) : gLen [mkQ t xs] Q := by refine gLen_i ?_; cases t <;> exact q
def inR (p : Int × Int) (g : Int) : Bool := decide (p.1 ≤ g) && decide (g ≤ p.2)
def fitZ (ps : List (Int × Int)) (m g : Int) : Bool := inR (prAt ps m) g
def sp_takes : DSp := fun args n Q _ => ∃ t p, ∃ g : Int, args = [.d (prQ t p), .d (.int g)] ∧ Q (.d (.bool (inR p g))) n
def rackZ (gs st : List Int) : List Int := gs.filter fun g => !st.contains g
def keepI (p : Int → Bool) (g : Int) : Option D := if p g = true then some (.int g) else none
theorem fm_keep (p : Int → Bool) : ∀ gs : List Int, gs.filterMap (keepI p) = (gs.filter p).map .int
  | [] => rfl
  | g :: gs => by
    simp only [List.filterMap_cons, List.filter_cons, keepI]
    cases h : p g with
    | true => simp only [if_true, List.map_cons, ← fm_keep p gs]
    | false => simp only [Bool.false_eq_true, if_false, ← fm_keep p gs]
theorem keep_step {p : Int → Bool} {g : Int} {acc : List D} {P : List D → DS → Prop} {ds : DS} (h : P (acc ++ (keepI p g).toList) ds) : (match p g with
    | true => P (acc ++ [.int g]) ds
    | false => P acc ds) := by
  unfold keepI at h
  cases e : p g with
  | true => rw [e, if_pos rfl] at h; exact h
  | false =>
    rw [e, if_neg Bool.false_ne_true] at h
    have h' : P (acc ++ []) ds := h
    rw [List.append_nil] at h'
    exact h'
def afterZ (st : List Int) (e : Ex) : List Int := match e with
  | (true, a, b) => (st.set a.toNat (nth st b)).set b.toNat (nth st a)
  | (false, a, g) => st.set a.toNat g
theorem after_len {st : List Int} {e : Ex} : (afterZ st e).length = st.length := by
  obtain ⟨b, x, y⟩ := e
  cases b <;> simp [afterZ]
def machs (e : Ex) : List Int := match e with
  | (true, a, b) => [a, b]
  | (false, a, _) => [a]
def OkE (L : Nat) (e : Ex) : Prop := ∀ m ∈ machs e, 0 ≤ m ∧ m < (L : Int)
theorem set_ints {xs : List Int} {j : Nat} {g : Int} : (xs.map PyData.int).set j (.int g) = (xs.set j g).map .int := by
  rw [List.map_set]
theorem ixN_map {xs : List Int} {i : Int} (h0 : 0 ≤ i) (h : i < (xs.length : Int)) : ixN (xs.map PyData.int).length i = some i.toNat := ixN_in h0 (by rw [List.length_map]; exact h)
def sp_after : DSp := fun args n Q _ => ∃ u w st e, args = [.d (stD u st), .d (exD w e)] ∧ OkE st.length e ∧ Q (.d (.tuple ((afterZ st e).map .int))) n
inductive Rs where
  | ok (st : List Int)
  | er (nm fl : Str) (x : Int)
def Rs.K (r : Rs) (Q : List Int → Prop) (E : Str → Option (Str × D) → Prop) : Prop := match r with
  | .ok st => Q st
  | .er nm fl x => E nm (some (fl, .int x))
theorem atI_last {α : Type} {xs : List α} {x : α} : ixN (xs ++ [x]).length (-1) = some xs.length := by
  unfold ixN
  rw [if_neg (by omega), if_pos (by simp; omega)]
  simp
  omega
def rngZ (lo : Int) (n : Nat) : List Int := (List.range n).map fun i => lo + (i : Nat)
theorem rangeD_eq {lo : Int} {n : Nat} : rangeD lo n = (rngZ lo n).map .int := by
  unfold rangeD rngZ
  rw [List.map_map]
  rfl
theorem rngZ_len {lo : Int} {n : Nat} : (rngZ lo n).length = n := by simp [rngZ]
theorem rngZ_mem {lo i : Int} {n : Nat} : i ∈ rngZ lo n ↔ lo ≤ i ∧ i < lo + n := by
  unfold rngZ
  rw [List.mem_map]
  constructor
  · rintro ⟨k, hk, rfl⟩
    have := List.mem_range.mp hk
    omega
  · rintro ⟨h1, h2⟩
    exact ⟨(i - lo).toNat, List.mem_range.mpr (by omega), by omega⟩
theorem getD_set {xs : List Int} {a i : Nat} {x : Int} : (xs.set a x).getD i 0 = if a = i ∧ i < xs.length then x else xs.getD i 0 := by
  rw [List.getD_eq_getElem?_getD, List.getD_eq_getElem?_getD, List.getElem?_set]
  by_cases h : a = i
  · by_cases h2 : i < xs.length
    · subst h; simp [h2]
    · subst h; simp [h2, List.getElem?_eq_none (Nat.le_of_not_lt h2)]
  · simp [h]
theorem nodup_at {xs : List Int} : xs.Nodup ↔ ∀ i j : Nat, i < xs.length → j < xs.length → i ≠ j → xs.getD i 0 ≠ xs.getD j 0 := by
  constructor
  · intro h i j hi hj hn e
    rw [List.getD_eq_getElem?_getD, List.getD_eq_getElem?_getD, List.getElem?_eq_getElem hi, List.getElem?_eq_getElem hj] at e
    have e' : xs[i] = xs[j] := e
    rcases Nat.lt_or_gt_of_ne hn with hlt | hlt
    · exact List.pairwise_iff_getElem.mp h i j hi hj hlt e'
    · exact List.pairwise_iff_getElem.mp h j i hj hi hlt e'.symm
  · intro h
    refine List.pairwise_iff_getElem.mpr fun i j hi hj hij e => h i j hi hj (by omega) ?_
    rw [List.getD_eq_getElem?_getD, List.getD_eq_getElem?_getD, List.getElem?_eq_getElem hi, List.getElem?_eq_getElem hj]
    exact e
theorem mem_at {xs : List Int} {x : Int} : x ∈ xs ↔ ∃ i : Nat, i < xs.length ∧ xs.getD i 0 = x := by
  constructor
  · intro h
    obtain ⟨i, hi, e⟩ := List.mem_iff_getElem.mp h
    exact ⟨i, hi, by rw [List.getD_eq_getElem?_getD, List.getElem?_eq_getElem hi]; exact e⟩
  · rintro ⟨i, hi, e⟩
    rw [List.getD_eq_getElem?_getD, List.getElem?_eq_getElem hi] at e
    exact List.mem_iff_getElem.mpr ⟨i, hi, e⟩
theorem after_at {st : List Int} {e : Ex} {i : Nat} (hi : i < st.length) (ok : OkE st.length e) : (afterZ st e).getD i 0 = match e with
    | (true, a, b) => if b.toNat = i then nth st a else if a.toNat = i then nth st b else st.getD i 0
    | (false, a, g) => if a.toNat = i then g else st.getD i 0 := by
  obtain ⟨b, x, y⟩ := e
  cases b with
  | true =>
    show ((st.set x.toNat (nth st y)).set y.toNat (nth st x)).getD i 0 = _
    rw [getD_set, getD_set, List.length_set]
    by_cases h1 : y.toNat = i <;> by_cases h2 : x.toNat = i <;> simp [h1, h2, hi]
  | false =>
    show (st.set x.toNat y).getD i 0 = _
    rw [getD_set]
    by_cases h2 : x.toNat = i <;> simp [h2, hi]
structure Good (gs : List Int) (ps : List (Int × Int)) (st : List Int) : Prop where
  nd : st.Nodup
  len : st.length = ps.length
  sub : ∀ g ∈ st, g ∈ gs
  fit : ∀ i : Int, 0 ≤ i → i < (ps.length : Int) → fitZ ps i (nth st i) = true
theorem Shop.good {gs : List Int} {ps : List (Int × Int)} {st : List Int} (h : Shop gs ps st) : Good gs ps st where
  nd := h.nd
  len := h.eqv
  sub := h.sub
  fit := fun i h0 h1 => by
    have hi : i.toNat < ps.length := by omega
    have hi' : i.toNat < st.length := by rw [h.eqv]; exact hi
    have := h.fit i.toNat ps[i.toNat] st[i.toNat] (List.getElem?_eq_getElem hi) (List.getElem?_eq_getElem hi')
    unfold fitZ inR prAt nth
    rw [List.getD_eq_getElem?_getD, List.getD_eq_getElem?_getD, List.getElem?_eq_getElem hi, List.getElem?_eq_getElem hi']
    simp [this.1, this.2]
structure Poss (gs : List Int) (ps : List (Int × Int)) (st : List Int) (e : Ex) : Prop where
  ok : OkE ps.length e
  rk : e.1 = false → e.2.2 ∈ rackZ gs st
  fit : ∀ m ∈ machs e, fitZ ps m (nth (afterZ st e) m) = true
theorem Good.after {gs : List Int} {ps : List (Int × Int)} {st : List Int} {e : Ex} (h : Good gs ps st) (p : Poss gs ps st e) : Good gs ps (afterZ st e) := by
  have ok : OkE st.length e := by rw [h.len]; exact p.ok
  have hnd := nodup_at.mp h.nd
  refine ⟨nodup_at.mpr fun i j hi hj hij => ?_, by rw [after_len]; exact h.len, fun g hg => ?_, fun i h0 h1 => ?_⟩
  · rw [after_len] at hi hj
    rw [after_at hi ok, after_at hj ok]
    obtain ⟨b, x, y⟩ := e
    cases b with
    | true =>
      have hx := ok x (by simp [machs])
      have hy := ok y (by simp [machs])
      have xl : x.toNat < st.length := by omega
      have yl : y.toNat < st.length := by omega
      show (if y.toNat = i then nth st x else if x.toNat = i then nth st y else st.getD i 0) ≠ (if y.toNat = j then nth st x else if x.toNat = j then nth st y else st.getD j 0)
      unfold nth
      by_cases a1 : y.toNat = i <;> by_cases a2 : x.toNat = i <;> by_cases a3 : y.toNat = j <;> by_cases a4 : x.toNat = j <;> simp only [a1, a2, a3, a4, hij, Ne.symm hij, if_true, if_false] <;> first
        | (exfalso; omega)
        | (refine hnd _ _ ?_ ?_ ?_ <;> omega)
    | false =>
      have hx := ok x (by simp [machs])
      have xl : x.toNat < st.length := by omega
      have hr := p.rk rfl
      have hn : ∀ k : Nat, k < st.length → st.getD k 0 ≠ y := fun k hk e => by
        have hm : y ∈ st := mem_at.mpr ⟨k, hk, e⟩
        have := (List.mem_filter.mp hr).2
        simp [hm] at this
      show (if x.toNat = i then y else st.getD i 0) ≠ (if x.toNat = j then y else st.getD j 0)
      by_cases a2 : x.toNat = i <;> by_cases a4 : x.toNat = j <;> simp only [a2, a4, hij, Ne.symm hij, if_true, if_false]
      · exfalso; omega
      · exact Ne.symm (hn j hj)
      · exact hn i hi
      · exact hnd i j hi hj hij
  · obtain ⟨i, hi, e1⟩ := mem_at.mp hg
    rw [after_len] at hi
    rw [after_at hi ok] at e1
    obtain ⟨b, x, y⟩ := e
    cases b with
    | true =>
      have hx := ok x (by simp [machs])
      have hy := ok y (by simp [machs])
      have e1' : (if y.toNat = i then nth st x else if x.toNat = i then nth st y else st.getD i 0) = g := e1
      unfold nth at e1'
      split at e1'
      · exact h.sub g (mem_at.mpr ⟨x.toNat, by omega, e1'⟩)
      · split at e1'
        · exact h.sub g (mem_at.mpr ⟨y.toNat, by omega, e1'⟩)
        · exact h.sub g (mem_at.mpr ⟨i, hi, e1'⟩)
    | false =>
      have e1' : (if x.toNat = i then y else st.getD i 0) = g := e1
      split at e1'
      · subst e1'; exact (List.mem_filter.mp (p.rk rfl)).1
      · exact h.sub g (mem_at.mpr ⟨i, hi, e1'⟩)
  · by_cases hm : i ∈ machs e
    · exact p.fit i hm
    · have hi : i.toNat < st.length := by rw [h.len]; omega
      have e2 : nth (afterZ st e) i = nth st i := by
        unfold nth
        rw [after_at hi ok]
        obtain ⟨b, x, y⟩ := e
        cases b with
        | true =>
          have hx := ok x (by simp [machs])
          have hy := ok y (by simp [machs])
          have n1 : ¬ y.toNat = i.toNat := fun z => hm (by simp [machs]; exact .inr (by omega))
          have n2 : ¬ x.toNat = i.toNat := fun z => hm (by simp [machs]; exact .inl (by omega))
          show (if y.toNat = i.toNat then nth st x else if x.toNat = i.toNat then nth st y else st.getD i.toNat 0) = _
          rw [if_neg n1, if_neg n2]
        | false =>
          have hx := ok x (by simp [machs])
          have n2 : ¬ x.toNat = i.toNat := fun z => hm (by simp [machs]; omega)
          show (if x.toNat = i.toNat then y else st.getD i.toNat 0) = _
          rw [if_neg n2]
      rw [e2]
      exact h.fit i h0 h1
section
def sp_l_fits : DSp := fun args n Q _ => ∃ t gs ps, ∃ m g : Int, args = [.d (shQ t gs ps), .d (.int m), .d (.int g)] ∧ (0 ≤ m ∧ m < (ps.length : Int)) ∧ Q (.d (.bool (fitZ ps m g))) n
theorem r_l_fits : ∀ args n Qa Ea, sp_l_fits args n Qa Ea → t_l_fits (fin Qa) (startD 3 args n) := by
  rintro args n Qa Ea ⟨t, gs, ps, m, g, rfl, ⟨h0, h1⟩, hq⟩
  unfold fitZ inR at hq
  refine ixl1 (ix_prs h0 h1 (ixl0 ?_))
  show (match DV.d (.bool (decide ((prAt ps m).1 ≤ g))) with | .d (.bool true) => _ | .d (.bool false) => Qa (.d (.bool false)) n | _ => False)
  cases h1' : decide ((prAt ps m).1 ≤ g)
  · rw [h1'] at hq; exact hq
  · rw [h1'] at hq
    exact ixl1 (ix_prs h0 h1 (ixl1 hq))
def sp_store : DSp := fun args n Q _ => ∃ t u gs ps st, args = [.d (shQ t gs ps), .d (stD u st)] ∧ Q (.own ((rackZ gs st).map .int)) n
theorem r_store : ∀ args n Qa Ea, sp_store args n Qa Ea → t_store (fin Qa) (startD 3 args n) := by
  rintro args n Qa Ea ⟨t, u, gs, ps, st, rfl, hq⟩
  refine lc_map .int gs (keepI fun g => !st.contains g) (ds1 := ⟨[some (.d (shQ t gs ps)), some (.d (stD u st)), none], n⟩) (fun K hK => ixl0 (by cases t <;> exact hK)) rfl (fun g hg acc P hP => ?_) ?_
  · refine notIn_ints ?_
    have := keep_step hP
    revert this
    cases (!st.contains g) <;> exact id
  · rw [fm_keep]
    exact hq
theorem r_l_after : ∀ args n Qa Ea, sp_after args n Qa Ea → t_l_after (fin Qa) (startD 3 args n) := by
  rintro args n Qa Ea ⟨u, w, st, ⟨b, x, y⟩, rfl, ok, hq⟩
  have main : (dSeq t_l_after_1 t_l_after_2) (fin Qa) ⟨[some (.d (stD u st)), some (.d (exD w (b, x, y))), some (.own (st.map .int))], n⟩ := by
    have hx : 0 ≤ x ∧ x < (st.length : Int) := ok x (by cases b <;> simp [machs])
    refine ixl0 (feq_str ?_)
    rw [w_take]
    cases b with
    | true =>
      have hy : 0 ≤ y ∧ y < (st.length : Int) := ok y (by simp [machs])
      refine ixl2 (ix_ints hy.1 hy.2 (ixl1 (ix_ints hx.1 hx.2 ?_)))
      refine ixl1 ?_
      show someD (ixN (st.map PyData.int).length x) _
      rw [ixN_map hx.1 hx.2]
      refine ixl2 ?_
      show someD (ixN ((st.map PyData.int).set x.toNat (.int (nth st y))).length y) _
      rw [List.length_set, ixN_map hy.1 hy.2]
      show Qa (.d (.tuple (((st.map PyData.int).set x.toNat (.int (nth st y))).set y.toNat (.int (nth st x))))) n
      rw [set_ints, set_ints]
      exact hq
    | false =>
      refine ixl2 (ixl1 ?_)
      show someD (ixN (st.map PyData.int).length x) _
      rw [ixN_map hx.1 hx.2]
      show Qa (.d (.tuple ((st.map PyData.int).set x.toNat (.int y)))) n
      rw [set_ints]
      exact hq
  cases u <;> exact main
def swapsZ (ps : List (Int × Int)) (st : List Int) (i : Int) : List Ex := ((rngZ (i + 1) ((st.length : Int) - (i + 1)).toNat).filter fun j => fitZ ps i (nth st j) && fitZ ps j (nth st i)).map fun j => (true, i, j)
def takesZ (gs : List Int) (ps : List (Int × Int)) (st : List Int) (i : Int) : List Ex := ((rackZ gs st).filter (fitZ ps i)).map fun g => (false, i, g)
def dealsZ (gs : List Int) (ps : List (Int × Int)) (st : List Int) : List Ex := (rngZ 0 st.length).flatMap (swapsZ ps st) ++ (rngZ 0 st.length).flatMap (takesZ gs ps st)
def sp_deals : DSp := fun args n Q _ => ∃ t gs ps st, args = [.d (shQ t gs ps), .d (stD true st)] ∧ st.length = ps.length ∧ st.length ≤ 100 ∧ gs.length ≤ 100 ∧ Q (.own ((dealsZ gs ps st).map (exD true))) n
theorem r_deals : ∀ args n Qa Ea, sp_deals args n Qa Ea → t_deals sp_l_fits sp_store (fin Qa) (startD 7 args n) := by
  rintro args n Qa Ea ⟨t, gs, ps, st, rfl, hl, hs, hg, hq⟩
  refine lenQ (t := true) ?_
  rw [List.length_map]
  have takes : ∀ (is : List Int) (fd : List Ex) (m4 m5 : Option DV), (∀ i ∈ is, 0 ≤ i ∧ i < (st.length : Int)) → fd.length + 100 * is.length ≤ 1000000 → Qa (.own ((fd ++ is.flatMap (takesZ gs ps st)).map (exD true))) n →
      forR (gdName 4) (dDrop (dMut 2 gExtend (dCons (dLc (dSq (dCall sp_store (fun as => as) (dCons (dVar 0) (dCons (dVar 1) dNil)))) (gdName 6) (dTr (dCall sp_l_fits (fun as => as) (dCons (dVar 0) (dCons (dVar 4) (dCons (dVar 6) dNil))))) (dTup (dCons (dC (.str "take")) (dCons (dVar 4) (dCons (dVar 6) dNil)))) [6]) dNil))) { fin Qa with nx := t_deals_3 (fin Qa) } (is.map .int) ⟨[some (.d (shQ t gs ps)), some (.d (stD true st)), some (.own (fd.map (exD true))), some (.d (.int (st.length : Nat))), m4, m5, none], n⟩ := by
    intro is
    induction is with
    | nil =>
      intro fd m4 m5 _ _ hq
      rw [List.flatMap_nil, List.append_nil] at hq
      exact hq
    | cons i is ih =>
      intro fd m4 m5 hi hf hq
      have hi0 := hi i (by simp)
      refine lc_map .int (rackZ gs st) (fun g => if fitZ ps i g = true then some (exD true (false, i, g)) else none) (ds1 := ⟨[some (.d (shQ t gs ps)), some (.d (stD true st)), some (.own (fd.map (exD true))), some (.d (.int (st.length : Nat))), some (.d (.int i)), m5, none], n⟩) (fun K hK => ⟨t, true, gs, ps, st, rfl, hK⟩) rfl (fun g _ acc P hP => ?_) ?_
      · refine ⟨t, gs, ps, i, g, rfl, by rw [← hl]; exact hi0, ?_⟩
        cases hfit : fitZ ps i g with
        | true => rw [if_pos hfit] at hP; exact hP
        | false =>
          rw [if_neg (by rw [hfit]; exact Bool.false_ne_true)] at hP
          have hP' : P (acc ++ []) _ := hP
          rw [List.append_nil] at hP'
          exact hP'
      · have e : ((rackZ gs st).filterMap fun g => if fitZ ps i g = true then some (exD true (false, i, g)) else none) = (takesZ gs ps st i).map (exD true) := by
          unfold takesZ
          rw [List.map_map]
          generalize rackZ gs st = rs
          induction rs with
          | nil => rfl
          | cons g rs ih2 =>
            simp only [List.filterMap_cons, List.filter_cons]
            cases fitZ ps i g with
            | true => simp only [if_true, List.map_cons, ih2]; rfl
            | false => simp only [Bool.false_eq_true, if_false, ih2]
        rw [e]
        have tl : (takesZ gs ps st i).length ≤ 100 := by
          unfold takesZ rackZ
          rw [List.length_map]
          refine Nat.le_trans (List.length_filter_le _ _) (Nat.le_trans (List.length_filter_le _ _) hg)
        refine ⟨by rw [List.length_map, List.length_map]; simp only [List.length_cons] at hf; omega, ?_⟩
        have := ih (fd ++ takesZ gs ps st i) (some (.d (.int i))) m5 (fun j hj => hi j (List.mem_cons_of_mem _ hj)) (by rw [List.length_append]; simp only [List.length_cons] at hf; omega) (by rw [List.append_assoc]; exact hq)
        rw [List.map_append] at this
        exact this
  have inner : ∀ (i : Int) (js : List Int) (fd : List Ex) (E : DEn) (m5 : Option DV), 0 ≤ i ∧ i < (st.length : Int) → (∀ j ∈ js, 0 ≤ j ∧ j < (st.length : Int)) → fd.length + js.length ≤ 1000000 →
      (∀ m5', E.nx ⟨[some (.d (shQ t gs ps)), some (.d (stD true st)), some (.own ((fd ++ ((js.filter fun j => fitZ ps i (nth st j) && fitZ ps j (nth st i)).map fun j => (true, i, j))).map (exD true))), some (.d (.int (st.length : Nat))), some (.d (.int i)), m5', none], n⟩) →
      forR (gdName 5) (dIfS (dAnd (dTr (dCall sp_l_fits (fun as => as) (dCons (dVar 0) (dCons (dVar 4) (dCons (dOp2 gIx (dVar 1) (dVar 5)) dNil))))) (dTr (dCall sp_l_fits (fun as => as) (dCons (dVar 0) (dCons (dVar 5) (dCons (dOp2 gIx (dVar 1) (dVar 4)) dNil)))))) (dDrop (dMut 2 gAppend (dCons (dTup (dCons (dC (.str "swap")) (dCons (dVar 4) (dCons (dVar 5) dNil)))) dNil))) dNext) E (js.map .int) ⟨[some (.d (shQ t gs ps)), some (.d (stD true st)), some (.own (fd.map (exD true))), some (.d (.int (st.length : Nat))), some (.d (.int i)), m5, none], n⟩ := by
    intro i js
    induction js with
    | nil =>
      intro fd E m5 _ _ _ hN
      have := hN m5
      rw [List.filter_nil, List.map_nil, List.append_nil] at this
      exact this
    | cons j js ih =>
      intro fd E m5 hi hj hf hN
      have hj0 := hj j (by simp)
      have step : ∀ b, (fitZ ps i (nth st j) && fitZ ps j (nth st i)) = b → (match b with
          | true => (dDrop (dMut 2 gAppend (dCons (dTup (dCons (dC (.str "swap")) (dCons (dVar 4) (dCons (dVar 5) dNil)))) dNil))) { E with nx := forR (gdName 5) (dIfS (dAnd (dTr (dCall sp_l_fits (fun as => as) (dCons (dVar 0) (dCons (dVar 4) (dCons (dOp2 gIx (dVar 1) (dVar 5)) dNil))))) (dTr (dCall sp_l_fits (fun as => as) (dCons (dVar 0) (dCons (dVar 5) (dCons (dOp2 gIx (dVar 1) (dVar 4)) dNil)))))) (dDrop (dMut 2 gAppend (dCons (dTup (dCons (dC (.str "swap")) (dCons (dVar 4) (dCons (dVar 5) dNil)))) dNil))) dNext) E (js.map .int) } ⟨[some (.d (shQ t gs ps)), some (.d (stD true st)), some (.own (fd.map (exD true))), some (.d (.int (st.length : Nat))), some (.d (.int i)), some (.d (.int j)), none], n⟩
          | false => forR (gdName 5) (dIfS (dAnd (dTr (dCall sp_l_fits (fun as => as) (dCons (dVar 0) (dCons (dVar 4) (dCons (dOp2 gIx (dVar 1) (dVar 5)) dNil))))) (dTr (dCall sp_l_fits (fun as => as) (dCons (dVar 0) (dCons (dVar 5) (dCons (dOp2 gIx (dVar 1) (dVar 4)) dNil)))))) (dDrop (dMut 2 gAppend (dCons (dTup (dCons (dC (.str "swap")) (dCons (dVar 4) (dCons (dVar 5) dNil)))) dNil))) dNext) E (js.map .int) ⟨[some (.d (shQ t gs ps)), some (.d (stD true st)), some (.own (fd.map (exD true))), some (.d (.int (st.length : Nat))), some (.d (.int i)), some (.d (.int j)), none], n⟩) := by
        intro b hb
        cases b with
        | true =>
          refine ⟨by rw [List.length_map]; simp only [List.length_cons] at hf; omega, ?_⟩
          have := ih (fd ++ [(true, i, j)]) E (some (.d (.int j))) hi (fun k hk => hj k (List.mem_cons_of_mem _ hk)) (by rw [List.length_append, List.length_singleton]; simp only [List.length_cons] at hf; omega) (fun m5' => by
            have := hN m5'
            rw [List.filter_cons, hb, if_pos rfl, List.map_cons] at this
            rw [List.append_assoc]; exact this)
          rw [List.map_append] at this
          exact this
        | false =>
          exact ih fd E (some (.d (.int j))) hi (fun k hk => hj k (List.mem_cons_of_mem _ hk)) (by simp only [List.length_cons] at hf; omega) (fun m5' => by
            have := hN m5'
            rw [List.filter_cons, hb, if_neg Bool.false_ne_true] at this
            exact this)
      refine ix_ints (t := true) hj0.1 hj0.2 ?_
      refine ⟨t, gs, ps, i, nth st j, rfl, by rw [← hl]; exact hi, ?_⟩
      cases hf1 : fitZ ps i (nth st j) with
      | false => exact step false (by rw [hf1]; rfl)
      | true =>
        refine ix_ints (t := true) hi.1 hi.2 ?_
        refine ⟨t, gs, ps, j, nth st i, rfl, by rw [← hl]; exact hj0, ?_⟩
        cases hf2 : fitZ ps j (nth st i) with
        | false => exact step false (by rw [hf1, hf2]; rfl)
        | true => exact step true (by rw [hf1, hf2]; rfl)
  have outer : ∀ (is : List Int) (fd : List Ex) (m4 m5 : Option DV), (∀ i ∈ is, 0 ≤ i ∧ i < (st.length : Int)) → fd.length + 100 * is.length ≤ 20000 →
      (∀ m4' m5', (dSeq (t_deals_2 sp_store sp_l_fits) t_deals_3) (fin Qa) ⟨[some (.d (shQ t gs ps)), some (.d (stD true st)), some (.own ((fd ++ is.flatMap (swapsZ ps st)).map (exD true))), some (.d (.int (st.length : Nat))), m4', m5', none], n⟩) →
      forR (gdName 4) (dFor (dRng2 (dCons (dOp2 fAdd (dVar 4) (dC (.int 1))) (dCons (dVar 3) dNil))) (gdName 5) (dIfS (dAnd (dTr (dCall sp_l_fits (fun as => as) (dCons (dVar 0) (dCons (dVar 4) (dCons (dOp2 gIx (dVar 1) (dVar 5)) dNil))))) (dTr (dCall sp_l_fits (fun as => as) (dCons (dVar 0) (dCons (dVar 5) (dCons (dOp2 gIx (dVar 1) (dVar 4)) dNil)))))) (dDrop (dMut 2 gAppend (dCons (dTup (dCons (dC (.str "swap")) (dCons (dVar 4) (dCons (dVar 5) dNil)))) dNil))) dNext)) { fin Qa with nx := (dSeq (t_deals_2 sp_store sp_l_fits) t_deals_3) (fin Qa) } (is.map .int) ⟨[some (.d (shQ t gs ps)), some (.d (stD true st)), some (.own (fd.map (exD true))), some (.d (.int (st.length : Nat))), m4, m5, none], n⟩ := by
    intro is
    induction is with
    | nil =>
      intro fd m4 m5 _ _ hq
      have := hq m4 m5
      rw [List.flatMap_nil, List.append_nil] at this
      exact this
    | cons i is ih =>
      intro fd m4 m5 hi hf hq
      have hi0 := hi i (by simp)
      have lj : (rngZ (i + 1) ((st.length : Int) - (i + 1)).toNat).length ≤ 100 := by rw [rngZ_len]; omega
      refine ⟨⟨by omega, by omega, by omega, by omega, by omega⟩, ?_⟩
      rw [rangeD_eq]
      refine for_run (inner i (rngZ (i + 1) ((st.length : Int) - (i + 1)).toNat) fd _ m5 hi0 (fun j hj => by rw [rngZ_mem] at hj; omega) (by omega) fun m5' => ?_)
      refine ih (fd ++ swapsZ ps st i) (some (.d (.int i))) m5' (fun k hk => hi k (List.mem_cons_of_mem _ hk)) ?_ (fun a b => by rw [List.append_assoc]; exact hq a b)
      have : (swapsZ ps st i).length ≤ 100 := by
        unfold swapsZ
        rw [List.length_map]
        exact Nat.le_trans (List.length_filter_le _ _) lj
      rw [List.length_append]; simp only [List.length_cons] at hf; omega
  have r0 : ∀ i ∈ rngZ 0 st.length, 0 ≤ i ∧ i < (st.length : Int) := fun i hi => by rw [rngZ_mem] at hi; omega
  have rl : ((st.length : Nat) : Int).toNat = st.length := by omega
  refine ⟨by omega, by omega, ?_⟩
  rw [rl, rangeD_eq]
  refine for_run (outer (rngZ 0 st.length) [] none none r0 (by rw [rngZ_len, List.length_nil]; omega) fun m4 m5 => ?_)
  refine ⟨by omega, by omega, ?_⟩
  rw [rl, rangeD_eq]
  refine for_run (takes (rngZ 0 st.length) _ m4 m5 r0 ?_ ?_)
  · rw [rngZ_len]
    have : ∀ is : List Int, (∀ i ∈ is, 0 ≤ i) → (is.flatMap (swapsZ ps st)).length ≤ 100 * is.length := by
      intro is
      induction is with
      | nil => intro _; simp
      | cons i is ih =>
        intro hi
        rw [List.flatMap_cons, List.length_append, List.length_cons]
        have h1 := ih fun k hk => hi k (List.mem_cons_of_mem _ hk)
        have h0 := hi i (by simp)
        have h2 : (swapsZ ps st i).length ≤ 100 := by
          unfold swapsZ
          rw [List.length_map]
          refine Nat.le_trans (List.length_filter_le _ _) ?_
          rw [rngZ_len]; omega
        omega
    have := this (rngZ 0 st.length) fun i hi => (r0 i hi).1
    rw [rngZ_len] at this
    rw [List.nil_append]
    omega
  · rw [List.nil_append]
    exact hq
end
theorem nth_after {st : List Int} {e : Ex} {i : Int} (hi : 0 ≤ i ∧ i < (st.length : Int)) (ok : OkE st.length e) : nth (afterZ st e) i = match e with
    | (true, a, b) => if b.toNat = i.toNat then nth st a else if a.toNat = i.toNat then nth st b else nth st i
    | (false, a, g) => if a.toNat = i.toNat then g else nth st i := by
  unfold nth
  rw [after_at (by omega) ok]
  obtain ⟨b, x, y⟩ := e
  cases b <;> rfl
def WfE (e : Ex) : Prop := e.1 = true → e.2.1 < e.2.2
theorem deal_poss {gs : List Int} {ps : List (Int × Int)} {st : List Int} {e : Ex} (hl : st.length = ps.length) (h : e ∈ dealsZ gs ps st) : Poss gs ps st e ∧ WfE e := by
  unfold dealsZ at h
  rcases List.mem_append.mp h with h | h
  · obtain ⟨i, hi, h⟩ := List.mem_flatMap.mp h
    obtain ⟨j, hj, rfl⟩ := List.mem_map.mp h
    obtain ⟨hj, hf⟩ := List.mem_filter.mp hj
    rw [rngZ_mem] at hi hj
    rw [Bool.and_eq_true] at hf
    have ok : OkE st.length (true, i, j) := fun m hm => by
      simp only [machs, List.mem_cons, List.not_mem_nil, or_false] at hm
      rcases hm with rfl | rfl <;> omega
    refine ⟨⟨by rw [← hl]; exact ok, fun he => (by cases he), fun m hm => ?_⟩, fun _ => ?_⟩
    · have hm' := ok m hm
      rw [nth_after hm' ok]
      show fitZ ps m (if j.toNat = m.toNat then nth st i else if i.toNat = m.toNat then nth st j else nth st m) = true
      simp only [machs, List.mem_cons, List.not_mem_nil, or_false] at hm
      rcases hm with rfl | rfl
      · rw [if_neg (by omega), if_pos rfl]; exact hf.1
      · rw [if_pos rfl]; exact hf.2
    · show i < j
      omega
  · obtain ⟨i, hi, h⟩ := List.mem_flatMap.mp h
    obtain ⟨g, hg, rfl⟩ := List.mem_map.mp h
    obtain ⟨hg, hf⟩ := List.mem_filter.mp hg
    rw [rngZ_mem] at hi
    have ok : OkE st.length (false, i, g) := fun m hm => by
      simp only [machs, List.mem_cons, List.not_mem_nil, or_false] at hm
      subst hm; omega
    refine ⟨⟨by rw [← hl]; exact ok, fun _ => hg, fun m hm => ?_⟩, fun he => by cases he⟩
    have hm' := ok m hm
    rw [nth_after hm' ok]
    simp only [machs, List.mem_cons, List.not_mem_nil, or_false] at hm
    subst hm
    show fitZ ps m (if m.toNat = m.toNat then g else nth st m) = true
    rw [if_pos rfl]; exact hf
inductive Path (gs : List Int) (ps : List (Int × Int)) : List Int → List Ex → List Int → Prop
  | nil (st) : Path gs ps st [] st
  | cons {st e es st'} : Poss gs ps st e → WfE e → Path gs ps (afterZ st e) es st' → Path gs ps st (e :: es) st'
theorem Path.snoc {gs : List Int} {ps : List (Int × Int)} {st st' : List Int} {es : List Ex} {e : Ex} (h : Path gs ps st es st') (p : Poss gs ps st' e) (w : WfE e) : Path gs ps st (es ++ [e]) (afterZ st' e) := by
  induction h with
  | nil st => exact .cons p w (.nil _)
  | cons q v r ih => exact .cons q v (ih p)
theorem Path.good {gs : List Int} {ps : List (Int × Int)} {st st' : List Int} {es : List Ex} (h : Path gs ps st es st') (g : Good gs ps st) : Good gs ps st' := by
  induction h with
  | nil st => exact g
  | cons q v r ih => exact ih (g.after q)
structure Pl (gs : List Int) (ps : List (Int × Int)) : Prop where
  asc : Asc 2000000000 gs
  lg : gs.length ≤ 100
  lp : ps.length ≤ 100
  rng : ∀ p ∈ ps, 1 ≤ p.1 ∧ p.1 ≤ p.2 ∧ p.2 ≤ 2000000001
theorem nice_i {i : Int} (h : i.natAbs ≤ 100000000000000000000) : Nice 0 60 (.int i) := nice_int (Nat.le_refl _) (Nat.le_trans h (by decide))
theorem nice_w (b : Bool) : Nice 0 60 (.str (exW b)) := ⟨by cases b <;> decide +kernel, Nat.le_refl _, by cases b <;> decide +kernel, by cases b <;> decide +kernel⟩
theorem nice_mk {t : Bool} {k m : Nat} {xs : List D} (h : ∀ x ∈ xs, Nice k m x) : Nice (k + 1) (xs.length * (m + 2) + 4) (mkQ t xs) := by
  cases t
  · exact nice_list (Nat.le_refl _) h
  · exact nice_tuple (Nat.le_refl _) h
def SmE (e : Ex) : Prop := e.2.1.natAbs ≤ 100000000000000000000 ∧ e.2.2.natAbs ≤ 100000000000000000000
theorem nice_ex {t : Bool} {e : Ex} (h : SmE e) : Nice 1 200 (exD t e) := (nice_mk (t := t) (k := 0) (m := 60) (xs := [.str (exW e.1), .int e.2.1, .int e.2.2]) fun x hx => by
  simp only [List.mem_cons, List.not_mem_nil, or_false] at hx
  rcases hx with rfl | rfl | rfl
  · exact nice_w _
  · exact nice_i h.1
  · exact nice_i h.2).mono (Nat.le_refl _) (by simp)
theorem poss_small {gs : List Int} {ps : List (Int × Int)} {st : List Int} {e : Ex} (P : Pl gs ps) (h : Poss gs ps st e) : SmE e := by
  obtain ⟨b, x, y⟩ := e
  have hx := h.ok x (by cases b <;> simp [machs])
  have := P.lp
  cases b with
  | true =>
    have hy := h.ok y (by simp [machs])
    exact ⟨by show x.natAbs ≤ _; omega, by show y.natAbs ≤ _; omega⟩
  | false =>
    have hy := (List.mem_filter.mp (h.rk rfl)).1
    have h1 := P.asc.lo y hy
    have h2 := P.asc.hi y hy
    exact ⟨by show x.natAbs ≤ _; omega, by show y.natAbs ≤ _; omega⟩
theorem deals_len {gs : List Int} {ps : List (Int × Int)} {st : List Int} (hs : st.length ≤ 100) (hg : gs.length ≤ 100) : (dealsZ gs ps st).length ≤ 20000 := by
  have f : ∀ (F : Int → List Ex) (is : List Int), (∀ i ∈ is, (F i).length ≤ 100) → (is.flatMap F).length ≤ 100 * is.length := by
    intro F is
    induction is with
    | nil => intro _; simp
    | cons i is ih =>
      intro hi
      rw [List.flatMap_cons, List.length_append, List.length_cons]
      have h1 := ih fun k hk => hi k (List.mem_cons_of_mem _ hk)
      have h2 := hi i (by simp)
      omega
  unfold dealsZ
  rw [List.length_append]
  have a := f (swapsZ ps st) (rngZ 0 st.length) fun i hi => by
    rw [rngZ_mem] at hi
    unfold swapsZ
    rw [List.length_map]
    refine Nat.le_trans (List.length_filter_le _ _) ?_
    rw [rngZ_len]; omega
  have b := f (takesZ gs ps st) (rngZ 0 st.length) fun i hi => by
    unfold takesZ rackZ
    rw [List.length_map]
    exact Nat.le_trans (List.length_filter_le _ _) (Nat.le_trans (List.length_filter_le _ _) hg)
  rw [rngZ_len] at a b
  omega
section
def sp_wandered : DSp := fun args n Q _ => ∃ t gs ps st, ∃ k : Int, args = [.box, .d (shQ t gs ps), .d (stD true st), .d (.int k)] ∧ Pl gs ps ∧ Good gs ps st ∧ 0 ≤ k ∧ k ≤ 100 ∧ 3 * k.toNat ≤ n ∧
  ∀ es st' n', Path gs ps st es st' → es.length ≤ k.toNat → n ≤ n' + 3 * k.toNat → Q (.d (.tuple [.list (es.map (exD true)), stD true st'])) n'
theorem ix_last {xs : List D} {x : D} {Q : DV → Prop} (q : Q (.d x)) : gIx (.list (xs ++ [x])) (.int (-1)) Q := by
  refine gIx_i ?_
  refine someI (x := x) ?_ q
  unfold atI
  rw [atI_last]
  simp
theorem r_wandered : ∀ args n Qa Ea, sp_wandered args n Qa Ea → t_wandered sp_deals sp_after (fin Qa) (startD 7 args n) := by
  rintro args n Qa Ea ⟨t, gs, ps, st, k, rfl, P, G, k0, k1, hn, hq⟩
  have loop : ∀ (is : List Int) (fd : List Ex) (here : List Int) (n' : Nat) (m5 m6 : Option DV), Path gs ps st fd here → fd.length + is.length ≤ k.toNat → n ≤ n' + 3 * (k.toNat - is.length) →
      forR (gdName 5) (dSeq (dSet 6 (dCall sp_deals (fun as => as) (dCons (dVar 1) (dCons (dVar 2) dNil))))
    (dIfS (dTst (dOp2 fNe (dVar 6) (dLst dNil))) (dSeq (dDrop (dMut 4 gAppend (dCons (dPick 0 (dVar 6)) dNil)))
    (dSet 2 (dCall sp_after (fun as => as) (dCons (dVar 2) (dCons (dOp2 gIx (dVar 4) (dOp1 fNeg (dC (.int 1)))) dNil))))) dNext)) { fin Qa with nx := t_wandered_2 (fin Qa) } (is.map .int) ⟨[some .box, some (.d (shQ t gs ps)), some (.d (stD true here)), some (.d (.int k)), some (.own (fd.map (exD true))), m5, m6], n'⟩ := by
    intro is
    induction is with
    | nil =>
      intro fd here n' m5 m6 hp hf hn'
      exact hq fd here n' hp (by simpa using hf) (by simpa using hn')
    | cons i is ih =>
      intro fd here n' m5 m6 hp hf hn'
      have gh := hp.good G
      have hl := gh.len
      have lh : here.length ≤ 100 := by rw [hl]; exact P.lp
      simp only [List.length_cons] at hf hn'
      refine ⟨t, gs, ps, here, rfl, hl, lh, P.lg, ?_⟩
      have ds := deals_len (ps := ps) lh P.lg
      refine fne_in ((nice_list (k := 1) (m := 200) (Nat.le_refl _) fun x hx => ?_).shaped (by omega)) (by decide) ?_
      · obtain ⟨e, he, rfl⟩ := List.mem_map.mp hx
        exact nice_ex (poss_small P (deal_poss hl he).1)
      rw [eqvNil]
      cases hd : (dealsZ gs ps here).map (exD true) with
      | nil =>
        exact ih fd here n' _ _ hp (by omega) (by omega)
      | cons d ds' =>
        rw [← hd]
        have ne : (!List.isEmpty ((dealsZ gs ps here).map (exD true))) = true := by rw [hd]; rfl
        rw [ne]
        refine ⟨by rw [hd]; simp, by rw [List.length_map]; omega, by show 3 ≤ n'; omega, fun z hz => ?_⟩
        obtain ⟨e, he, rfl⟩ := List.mem_map.mp hz
        obtain ⟨hpos, hw⟩ := deal_poss hl he
        refine ⟨by rw [List.length_map]; omega, ?_⟩
        refine ix_last ?_
        refine ⟨true, true, here, e, rfl, by rw [hl]; exact hpos.ok, ?_⟩
        have := ih (fd ++ [e]) (afterZ here e) (n' - 3) (some (.d (.int i))) (some (.own ((dealsZ gs ps here).map (exD true)))) (hp.snoc hpos hw) (by rw [List.length_append, List.length_singleton]; omega) (by omega)
        rw [List.map_append] at this
        exact this
  refine ⟨by omega, by omega, ?_⟩
  rw [rangeD_eq]
  exact for_run (loop (rngZ 0 k.toNat) [] st n none none (.nil st) (by rw [rngZ_len]; simp) (by rw [rngZ_len]; omega))
end
theorem listsL_ints : ∀ gs : List Int, listsL (gs.map .int) = gs.map .int
  | [] => by simp [listsL]
  | g :: gs => by simp [listsL, listsD, listsL_ints gs]
theorem listsL_prs : ∀ qs : List (Int × Int), listsL (qs.map (prQ true)) = qs.map (prQ false)
  | [] => by simp [listsL]
  | q :: qs => by
    simp only [List.map_cons, listsL, listsL_prs qs]
    simp [prQ, mkQ, listsD, listsL]
section
variable {gs : List Int} {ps : List (Int × Int)} {st : List Int}
theorem nice_ints {t : Bool} {xs : List Int} (h : ∀ x ∈ xs, x.natAbs ≤ 100000000000000000000) : Nice 1 (xs.length * 62 + 4) (mkQ t (xs.map .int)) := by
  have := nice_mk (t := t) (k := 0) (m := 60) (xs := xs.map PyData.int) fun x hx => by
    obtain ⟨g, hg, rfl⟩ := List.mem_map.mp hx
    exact nice_i (h g hg)
  rw [List.length_map] at this
  exact this
theorem nice_pr {t : Bool} {p : Int × Int} (h1 : p.1.natAbs ≤ 100000000000000000000) (h2 : p.2.natAbs ≤ 100000000000000000000) : Nice 1 128 (prQ t p) := nice_mk (t := t) (k := 0) (m := 60) (xs := [.int p.1, .int p.2]) fun x hx => by
  simp only [List.mem_cons, List.not_mem_nil, or_false] at hx
  rcases hx with rfl | rfl
  · exact nice_i h1
  · exact nice_i h2
theorem Pl.nice (P : Pl gs ps) (t : Bool) : Nice 3 27000 (shQ t gs ps) := by
  have lg := P.lg
  have lp := P.lp
  have a : Nice 2 13004 (mkQ t (gs.map .int)) := (nice_ints (t := t) fun x hx => by have := P.asc.lo x hx; have := P.asc.hi x hx; omega).mono (by omega) (by omega)
  have b : Nice 2 13004 (mkQ t (ps.map (prQ t))) := (nice_mk (t := t) (k := 1) (m := 128) (xs := ps.map (prQ t)) fun x hx => by
    obtain ⟨p, hp, rfl⟩ := List.mem_map.mp hx
    have := P.rng p hp
    exact nice_pr (by omega) (by omega)).mono (by omega) (by rw [List.length_map]; omega)
  refine (nice_mk (t := t) (k := 2) (m := 13004) (xs := [mkQ t (gs.map .int), mkQ t (ps.map (prQ t))]) fun x hx => ?_).mono (by omega) (by simp)
  simp only [List.mem_cons, List.not_mem_nil, or_false] at hx
  rcases hx with rfl | rfl
  · exact a
  · exact b
theorem Good.small (P : Pl gs ps) (G : Good gs ps st) : ∀ g ∈ st, 1 ≤ g ∧ g ≤ 2000000000 := fun g hg => ⟨P.asc.lo g (G.sub g hg), P.asc.hi g (G.sub g hg)⟩
theorem Good.nice (P : Pl gs ps) (G : Good gs ps st) (t : Bool) : Nice 1 6300 (stD t st) := by
  have lp := P.lp
  have hl := G.len
  exact (nice_ints (t := t) fun x hx => by have := G.small P x hx; omega).mono (by omega) (by omega)
end
theorem cut_last {xs : List D} {x : D} : cutD (xs ++ [x]) none (some (-1)) = xs := by
  unfold cutD
  rw [HT.sIx_none, List.drop_zero, Nat.sub_zero]
  have : HT.sIx (xs ++ [x]).length (xs ++ [x]).length (some (-1)) = xs.length := by
    simp [HT.sIx]
    try omega
  rw [this, List.take_left']
  rfl
end SF
namespace SF
def holdN (st : List Int) (g : Int) : Option Nat := st.findIdx? (· == g)
theorem holdN_some {st : List Int} {g : Int} {i : Nat} (h : holdN st g = some i) : i < st.length ∧ st.getD i 0 = g := by
  unfold holdN at h
  rw [List.findIdx?_eq_some_iff_getElem] at h
  obtain ⟨h1, h2, _⟩ := h
  exact ⟨h1, by rw [List.getD_eq_getElem?_getD, List.getElem?_eq_getElem h1]; simpa using h2⟩
theorem holdN_none {st : List Int} {g : Int} : holdN st g = none ↔ g ∉ st := by
  unfold holdN
  rw [List.findIdx?_eq_none_iff]
  constructor
  · intro h hm
    have := h g hm
    simp at this
  · intro h x hx
    have : x ≠ g := fun e => h (e ▸ hx)
    simpa using this
theorem holdN_at {st : List Int} {g : Int} {i : Nat} (nd : st.Nodup) (hi : i < st.length) (e : st.getD i 0 = g) : holdN st g = some i := by
  cases h : holdN st g with
  | none => exact absurd (mem_at.mpr ⟨i, hi, e⟩) (holdN_none.mp h)
  | some j =>
    obtain ⟨h1, h2⟩ := holdN_some h
    by_cases z : i = j
    · rw [z]
    · exact absurd (e.trans h2.symm) (nodup_at.mp nd i j hi h1 z)
structure Two (n : Nat) (st gl : List Int) : Prop where
  l1 : st.length = n
  l2 : gl.length = n
  n1 : st.Nodup
  n2 : gl.Nodup
def nxN (st gl : List Int) (i : Nat) : Option Nat := holdN st (gl.getD i 0)
section
variable {n : Nat} {st gl : List Int}
theorem nx_some {i j : Nat} (T : Two n st gl) (h : nxN st gl i = some j) : j < n ∧ st.getD j 0 = gl.getD i 0 := by
  obtain ⟨h1, h2⟩ := holdN_some h
  exact ⟨by rw [← T.l1]; exact h1, h2⟩
theorem nx_inj {i j k : Nat} (T : Two n st gl) (hi : i < n) (hj : j < n) (h1 : nxN st gl i = some k) (h2 : nxN st gl j = some k) : i = j := by
  obtain ⟨_, e1⟩ := nx_some T h1
  obtain ⟨_, e2⟩ := nx_some T h2
  by_cases z : i = j
  · exact z
  · exact absurd (e1.symm.trans e2) (nodup_at.mp T.n2 i j (by rw [T.l2]; exact hi) (by rw [T.l2]; exact hj) z)
def chn (st gl : List Int) : List Nat → Prop
  | [] => True
  | x :: l => (match l with | [] => True | y :: _ => nxN st gl x = some y) ∧ chn st gl l
theorem chn_mid {a b : List Nat} {x y : Nat} : chn st gl (a ++ x :: y :: b) → nxN st gl x = some y := by
  induction a with
  | nil => intro h; exact h.1
  | cons z a ih => intro h; exact ih h.2
theorem chn_snoc {x y : Nat} : ∀ {a : List Nat}, chn st gl (a ++ [x]) → nxN st gl x = some y → chn st gl (a ++ [x] ++ [y])
  | [], _, h => ⟨h, trivial, trivial⟩
  | [z], h, h' => ⟨h.1, h', trivial, trivial⟩
  | z :: w :: a, h, h' => ⟨h.1, chn_snoc (a := w :: a) h.2 h'⟩
theorem nodup_len : ∀ (n : Nat) (l : List Nat), l.Nodup → (∀ x ∈ l, x < n) → l.length ≤ n
  | 0, [], _, _ => Nat.le_refl _
  | 0, x :: l, _, h => absurd (h x (by simp)) (Nat.not_lt_zero x)
  | n + 1, l, nd, h => by
    have f := nodup_len n (l.filter fun x => decide (x ≠ n)) (nd.sublist List.filter_sublist) fun x hx => by
      obtain ⟨h1, h2⟩ := List.mem_filter.mp hx
      have := h x h1
      have : x ≠ n := by simpa using h2
      omega
    have c : ∀ l : List Nat, l.Nodup → l.length ≤ (l.filter fun x => decide (x ≠ n)).length + 1 := by
      intro l
      induction l with
      | nil => intro _; simp
      | cons y l ih =>
        intro nd
        obtain ⟨h1, h2⟩ := List.nodup_cons.mp nd
        by_cases e : y = n
        · subst e
          have all : l.filter (fun x => decide (x ≠ y)) = l := List.filter_eq_self.mpr fun x hx => by
            have : x ≠ y := fun e => h1 (e ▸ hx)
            simpa using this
          rw [List.filter_cons, if_neg (by simp), all, List.length_cons]
          exact Nat.le_refl _
        · rw [List.filter_cons, if_pos (by simpa using e)]
          have := ih h2
          simp only [List.length_cons]
          omega
    have := c l nd
    omega
structure Wlk (n : Nat) (st gl : List Int) (m : Nat) (acc : List Nat) (o : Option Nat) : Prop where
  hd : ∃ t, acc = m :: t
  ch : chn st gl acc
  nd : acc.Nodup
  lt : ∀ x ∈ acc, x < n
  nx : ∃ a x, acc = a ++ [x] ∧ nxN st gl x = o
theorem Wlk.start {m : Nat} (hm : m < n) : Wlk n st gl m [m] (nxN st gl m) := ⟨⟨[], rfl⟩, ⟨trivial, trivial⟩, by simp, by simpa using hm, ⟨[], m, rfl, rfl⟩⟩
theorem Wlk.next {m j : Nat} {acc : List Nat} (T : Two n st gl) (W : Wlk n st gl m acc (some j)) (hj : j ≠ m) : Wlk n st gl m (acc ++ [j]) (nxN st gl j) := by
  obtain ⟨a, x, ea, ex⟩ := W.nx
  have hx : x < n := W.lt x (by rw [ea]; simp)
  have hjn := (nx_some T ex).1
  have nin : j ∉ acc := fun hm => by
    obtain ⟨b, c, e⟩ := List.append_of_mem hm
    obtain ⟨t, et⟩ := W.hd
    rcases List.eq_nil_or_concat b with rfl | ⟨b', y, rfl⟩
    · rw [et] at e
      simp only [List.nil_append, List.cons.injEq] at e
      exact hj e.1.symm
    · have e' : acc = b' ++ y :: j :: c := by rw [e]; simp
      have q : nxN st gl y = some j := chn_mid (e' ▸ W.ch)
      have hy : y < n := W.lt y (by rw [e']; simp)
      have exy := nx_inj T hx hy ex q
      have nd := W.nd
      rw [e'] at nd
      have hxm : x ∈ j :: c := by
        have : acc.getLast? = some x := by rw [ea]; simp
        rw [e'] at this
        have h2 : (b' ++ y :: j :: c).getLast? = (j :: c).getLast? := by
          rw [List.getLast?_append]
          obtain ⟨z, hz⟩ : ∃ z, (j :: c).getLast? = some z := ⟨_, List.getLast?_eq_some_getLast (by simp)⟩
          rw [List.getLast?_cons_cons, hz]
          rfl
        rw [h2] at this
        exact List.mem_of_getLast? this
      have := (List.nodup_append.mp nd).2.1
      exact (List.nodup_cons.mp this).1 (exy ▸ hxm)
  refine ⟨?_, ?_, ?_, ?_, ⟨acc, j, rfl, rfl⟩⟩
  · obtain ⟨t, et⟩ := W.hd
    exact ⟨t ++ [j], by rw [et]; rfl⟩
  · rw [ea]
    exact chn_snoc (ea ▸ W.ch) ex
  · refine List.nodup_append.mpr ⟨W.nd, by simp, fun a ha b hb => ?_⟩
    rw [List.mem_singleton.mp hb]
    exact fun e => nin (e ▸ ha)
  · intro y hy
    rcases List.mem_append.mp hy with h | h
    · exact W.lt y h
    · rw [List.mem_singleton.mp h]; exact hjn
theorem Wlk.len {m : Nat} {acc : List Nat} {o : Option Nat} (W : Wlk n st gl m acc o) : acc.length ≤ n := nodup_len n acc W.nd W.lt
def fol (st gl : List Int) (m : Nat) : Nat → Option Nat → List Nat → List Nat
  | 0, _, acc => acc
  | _ + 1, none, acc => acc
  | k + 1, some j, acc => if j = m then acc else fol st gl m k (nxN st gl j) (acc ++ [j])
def folN (st gl : List Int) (m : Nat) : List Nat := fol st gl m st.length (nxN st gl m) [m]
theorem fol_end (T : Two n st gl) {m : Nat} : ∀ (k : Nat) (o : Option Nat) (acc : List Nat), Wlk n st gl m acc o → acc.length + k = n + 1 → ∃ o', Wlk n st gl m (fol st gl m k o acc) o' ∧ (o' = none ∨ o' = some m)
  | 0, o, acc, W, h => by have := W.len; omega
  | k + 1, none, acc, W, h => ⟨none, W, .inl rfl⟩
  | k + 1, some j, acc, W, h => by
    unfold fol
    by_cases e : j = m
    · rw [if_pos e]; exact ⟨some j, W, .inr (by rw [e])⟩
    · rw [if_neg e]
      exact fol_end T k _ _ (W.next T e) (by rw [List.length_append, List.length_singleton]; omega)
theorem folN_end (T : Two n st gl) {m : Nat} (hm : m < n) : ∃ o', Wlk n st gl m (folN st gl m) o' ∧ (o' = none ∨ o' = some m) :=
  fol_end T st.length _ [m] (Wlk.start hm) (by rw [T.l1]; simp; omega)
def stN (st gl : List Int) : List Nat := (List.range st.length).filter fun i => st.getD i 0 == gl.getD i 0
def unN (st gl : List Int) : List Nat := (List.range st.length).filter fun i => !(st.getD i 0 == gl.getD i 0)
def hdN (st gl : List Int) : List Nat := (List.range st.length).filter fun i => !gl.contains (st.getD i 0)
def chN (st gl : List Int) : List (List Nat) := (hdN st gl).map (folN st gl)
def rgN (st gl : List Int) : List Nat → List Nat → List (List Nat)
  | [], _ => []
  | m :: ms, d => if d.contains m then rgN st gl ms d else folN st gl m :: rgN st gl ms (d ++ folN st gl m)
def dnN (st gl : List Int) : List Nat := stN st gl ++ (chN st gl).flatten
def riN (st gl : List Int) : List (List Nat) := rgN st gl (List.range st.length) (dnN st gl)
theorem hd_un (T : Two n st gl) : (unN st gl).filter (fun i => !gl.contains (st.getD i 0)) = hdN st gl := by
  unfold unN hdN
  rw [List.filter_filter]
  refine List.filter_congr fun i hi => ?_
  have hi' := List.mem_range.mp hi
  cases h : gl.contains (st.getD i 0) with
  | true => simp
  | false =>
    have : st.getD i 0 ≠ gl.getD i 0 := fun e => by
      have hm : st.getD i 0 ∈ gl := by rw [e]; exact mem_at.mpr ⟨i, by rw [T.l2, ← T.l1]; exact hi', rfl⟩
      rw [List.contains_iff_mem.mpr hm] at h
      cases h
    rw [beq_eq_false_iff_ne.mpr this]; rfl
end
end SF
namespace SF
section
variable {n : Nat} {st gl : List Int}
theorem rg_of_mem {ms d : List Nat} {l : List Nat} : l ∈ rgN st gl ms d → ∃ m ∈ ms, m ∉ d ∧ l = folN st gl m := by
  induction ms generalizing d with
  | nil => intro h; cases h
  | cons m ms ih =>
    intro h
    unfold rgN at h
    split at h
    · obtain ⟨k, h1, h2, h3⟩ := ih h
      exact ⟨k, List.mem_cons_of_mem _ h1, h2, h3⟩
    · rename_i hc
      rcases List.mem_cons.mp h with e | h
      · exact ⟨m, by simp, fun hm => hc (List.contains_iff_mem.mpr hm), e⟩
      · obtain ⟨k, h1, h2, h3⟩ := ih h
        exact ⟨k, List.mem_cons_of_mem _ h1, fun hm => h2 (List.mem_append.mpr (.inl hm)), h3⟩
theorem hd_mem (T : Two n st gl) {h : Nat} : h ∈ hdN st gl ↔ h < n ∧ st.getD h 0 ∉ gl := by
  unfold hdN
  rw [List.mem_filter, List.mem_range, T.l1]
  constructor
  · rintro ⟨h1, h2⟩
    exact ⟨h1, fun hm => by rw [List.contains_iff_mem.mpr hm] at h2; cases h2⟩
  · rintro ⟨h1, h2⟩
    refine ⟨h1, ?_⟩
    cases hc : gl.contains (st.getD h 0) with
    | false => rfl
    | true => exact absurd (List.contains_iff_mem.mp hc) h2
theorem chain_end (T : Two n st gl) {h : Nat} (hh : h ∈ hdN st gl) : Wlk n st gl h (folN st gl h) none := by
  obtain ⟨h1, h2⟩ := (hd_mem T).mp hh
  obtain ⟨o, W, e | e⟩ := folN_end T h1
  · rw [← e]; exact W
  · exfalso
    obtain ⟨a, x, ea, ex⟩ := W.nx
    rw [e] at ex
    obtain ⟨_, e2⟩ := nx_some T ex
    refine h2 ?_
    rw [e2]
    exact mem_at.mpr ⟨x, by rw [T.l2]; exact W.lt x (by rw [ea]; simp), rfl⟩
theorem walk_closed {m : Nat} {c : List Nat} (W : Wlk n st gl m c none) {y x : Nat} (hy : y ∈ c) (hx : nxN st gl y = some x) : x ∈ c := by
  obtain ⟨b, r, e⟩ := List.append_of_mem hy
  obtain ⟨a, z, ea, ez⟩ := W.nx
  cases r with
  | nil =>
    exfalso
    rw [ea] at e
    have : z = y := by
      have := congrArg List.getLast? e
      simpa using this
    rw [this, hx] at ez
    cases ez
  | cons w r =>
    have := chn_mid (e ▸ W.ch)
    rw [hx] at this
    cases this
    rw [e]; simp
theorem in_flat {h : Nat} {c : Nat} (hh : h ∈ hdN st gl) (hc : c ∈ folN st gl h) : c ∈ dnN st gl := List.mem_append.mpr (.inr (List.mem_flatten.mpr ⟨_, List.mem_map.mpr ⟨h, hh, rfl⟩, hc⟩))
theorem fol_hd {k : Nat} {o : Option Nat} {m : Nat} : ∀ {acc : List Nat}, m ∈ acc → m ∈ fol st gl m k o acc := by
  induction k generalizing o with
  | zero => intro acc h; exact h
  | succ k ih =>
    intro acc h
    cases o with
    | none => exact h
    | some j =>
      unfold fol
      split
      · exact h
      · exact ih (List.mem_append.mpr (.inl h))
theorem folN_hd {m : Nat} : m ∈ folN st gl m := fol_hd (by simp)
theorem prev_of (T : Two n st gl) {x : Nat} (hx : x < n) (hn : x ∉ dnN st gl) : ∃ y, y < n ∧ y ∉ dnN st gl ∧ nxN st gl y = some x := by
  have h1 : x ∉ hdN st gl := fun h => hn (in_flat h folN_hd)
  have h2 : st.getD x 0 ∈ gl := by
    by_cases h : st.getD x 0 ∈ gl
    · exact h
    · exact absurd ((hd_mem T).mpr ⟨hx, h⟩) h1
  obtain ⟨y, hy, ey⟩ := mem_at.mp h2
  rw [T.l2] at hy
  have hnx : nxN st gl y = some x := holdN_at T.n1 (by rw [T.l1]; exact hx) ey.symm
  refine ⟨y, hy, fun hm => ?_, hnx⟩
  rcases List.mem_append.mp hm with h | h
  · obtain ⟨_, e⟩ := List.mem_filter.mp h
    have e' : st.getD y 0 = gl.getD y 0 := by simpa using e
    have : y = x := by
      by_cases z : y = x
      · exact z
      · exact absurd (e'.trans ey) (nodup_at.mp T.n1 y x (by rw [T.l1]; exact hy) (by rw [T.l1]; exact hx) z)
    subst this
    exact hn hm
  · obtain ⟨c, hc, hyc⟩ := List.mem_flatten.mp h
    obtain ⟨k, hk, rfl⟩ := List.mem_map.mp hc
    exact hn (in_flat hk (walk_closed (chain_end T hk) hyc hnx))
theorem path_nodup : ∀ {l : List Nat}, chn st gl l → (∀ a x, l = a ++ [x] → nxN st gl x = none) → l.Nodup
  | [], _, _ => by simp
  | [x], _, _ => by simp
  | x :: y :: l, h, he => by
    have nd : (y :: l).Nodup := path_nodup h.2 fun a z e => he (x :: a) z (by rw [e]; rfl)
    refine List.nodup_cons.mpr ⟨fun hm => ?_, nd⟩
    have h1 : nxN st gl x = some y := h.1
    obtain ⟨a, b, e⟩ := List.append_of_mem hm
    cases b with
    | nil =>
      have := he (x :: a) x (by rw [e]; rfl)
      rw [h1] at this; cases this
    | cons z b =>
      have h2 : nxN st gl x = some z := chn_mid (a := x :: a) (b := b) (by
        have := h
        rw [e] at this
        exact this)
      rw [h1] at h2
      cases h2
      cases a with
      | nil =>
        have e1 : y = x := by simpa using (List.cons.inj e).1
        rw [e] at nd
        have := (List.nodup_cons.mp nd).1
        exact this (by rw [e1]; simp)
      | cons w a =>
        have e1 : y = w := (List.cons.inj e).1
        rw [e] at nd
        have := (List.nodup_cons.mp nd).1
        exact this (by rw [← e1]; simp)
theorem ring_end (T : Two n st gl) {m : Nat} (hm : m < n) (hn : m ∉ dnN st gl) : Wlk n st gl m (folN st gl m) (some m) := by
  obtain ⟨o, W, e | e⟩ := folN_end T hm
  · exfalso
    subst e
    have back : ∀ k : Nat, ∃ p : List Nat, p.length = k ∧ chn st gl (p ++ folN st gl m) ∧ (∀ x ∈ p, x < n) ∧ ∃ x t, p ++ folN st gl m = x :: t ∧ x < n ∧ x ∉ dnN st gl := by
      intro k
      induction k with
      | zero =>
        obtain ⟨t, et⟩ := W.hd
        exact ⟨[], rfl, W.ch, by simp, m, t, et, hm, hn⟩
      | succ k ih =>
        obtain ⟨p, l1, l2, l3, x, t, et, hx, hxn⟩ := ih
        obtain ⟨y, hy, hyn, hnx⟩ := prev_of T hx hxn
        refine ⟨y :: p, by simp [l1], ?_, ?_, y, p ++ folN st gl m, rfl, hy, hyn⟩
        · show chn st gl (y :: (p ++ folN st gl m))
          refine ⟨?_, l2⟩
          rw [et]; exact hnx
        · intro z hz
          rcases List.mem_cons.mp hz with e | hz
          · rw [e]; exact hy
          · exact l3 z hz
    obtain ⟨p, l1, l2, l3, _⟩ := back n
    obtain ⟨a, x, ea, ex⟩ := W.nx
    have nd : (p ++ folN st gl m).Nodup := path_nodup l2 fun b z e => by
      rw [ea, ← List.append_assoc] at e
      have : x = z := by
        have := congrArg List.getLast? e
        simpa using this
      rw [← this]; exact ex
    have len := nodup_len n _ nd fun z hz => by
      rcases List.mem_append.mp hz with h | h
      · exact l3 z h
      · exact W.lt z h
    rw [List.length_append, l1, ea, List.length_append, List.length_singleton] at len
    omega
  · rw [← e]; exact W
theorem head_apart (T : Two n st gl) {h k : Nat} (hh : h ∈ hdN st gl) (hk : k ∈ hdN st gl) (hm : k ∈ folN st gl h) : k = h := by
  obtain ⟨_, h2⟩ := (hd_mem T).mp hk
  have W := chain_end T hh
  obtain ⟨b, c, e⟩ := List.append_of_mem hm
  obtain ⟨t, et⟩ := W.hd
  rcases List.eq_nil_or_concat b with rfl | ⟨b', y, rfl⟩
  · rw [et] at e
    exact (List.cons.inj e).1.symm
  · exfalso
    have q : nxN st gl y = some k := chn_mid (a := b') (b := c) (by
      have := W.ch
      rw [e] at this
      simpa using this)
    obtain ⟨_, e2⟩ := nx_some T q
    refine h2 ?_
    rw [e2]
    exact mem_at.mpr ⟨y, by rw [T.l2]; exact W.lt y (by rw [e]; simp), rfl⟩
theorem rg_heads (T : Two n st gl) : ∀ (hs rest d : List Nat), hs.Nodup → (∀ h ∈ hs, h ∈ hdN st gl) → (∀ h ∈ hs, h ∉ d) → rgN st gl (hs ++ rest) d = hs.map (folN st gl) ++ rgN st gl rest (d ++ (hs.map (folN st gl)).flatten)
  | [], rest, d, _, _, _ => by simp
  | h :: hs, rest, d, nd, hh, hd => by
    obtain ⟨n1, n2⟩ := List.nodup_cons.mp nd
    have h0 : ¬ d.contains h = true := fun z => hd h (by simp) (List.contains_iff_mem.mp z)
    show (if d.contains h then rgN st gl (hs ++ rest) d else folN st gl h :: rgN st gl (hs ++ rest) (d ++ folN st gl h)) = _
    rw [if_neg h0, rg_heads T hs rest (d ++ folN st gl h) n2 (fun k hk => hh k (List.mem_cons_of_mem _ hk)) fun k hk hm => ?_]
    · simp [List.append_assoc]
    · rcases List.mem_append.mp hm with z | z
      · exact hd k (List.mem_cons_of_mem _ hk) z
      · exact n1 (head_apart T (hh h (by simp)) (hh k (List.mem_cons_of_mem _ hk)) z ▸ hk)
theorem law_lots (T : Two n st gl) : rgN st gl (hdN st gl ++ List.range st.length) (stN st gl) = chN st gl ++ riN st gl := by
  rw [rg_heads T (hdN st gl) _ _ ?_ (fun h hh => hh) fun h hh hm => ?_]
  · rfl
  · exact (List.nodup_range).sublist List.filter_sublist
  · obtain ⟨h1, h2⟩ := (hd_mem T).mp hh
    have e : st.getD h 0 = gl.getD h 0 := by simpa using (List.mem_filter.mp hm).2
    exact h2 (by rw [e]; exact mem_at.mpr ⟨h, by rw [T.l2]; exact h1, rfl⟩)
end
end SF
namespace SF
def mnZ (a b : Int) : Int := if b < a then b else a
def mxZ (a b : Int) : Int := if b > a then b else a
end SF
namespace SF
theorem nth_nat {xs : List Int} {i : Nat} : nth xs (i : Int) = xs.getD i 0 := by simp [nth]
def btwR (a b g : Int) : Bool := decide (mnZ a b < g) && decide (g ≤ mxZ a b)
def cntB (gs : List Int) (a b : Int) : Nat := (gs.filter (btwR a b)).length
def mu (gs st gl : List Int) : Nat := ((List.range st.length).map fun i => cntB gs (st.getD i 0) (gl.getD i 0)).sum
end SF
namespace SF
theorem sub_len {α : Type} [BEq α] [LawfulBEq α] : ∀ {xs ys : List α}, xs.Nodup → (∀ x ∈ xs, x ∈ ys) → xs.length ≤ ys.length
  | [], _, _, _ => Nat.zero_le _
  | x :: xs, ys, nd, h => by
    obtain ⟨n1, n2⟩ := List.nodup_cons.mp nd
    have hx := h x (by simp)
    have := sub_len (xs := xs) (ys := ys.erase x) n2 fun z hz => (List.mem_erase_of_ne (fun (e : z = x) => n1 (e ▸ hz))).mpr (h z (List.mem_cons_of_mem _ hz))
    rw [List.length_erase_of_mem hx] at this
    have := List.length_pos_of_mem hx
    rw [List.length_cons]
    omega
def Apart (S T : List Nat) : Prop := ∀ i ∈ S, i ∉ T
section
variable {n : Nat} {st gl : List Int}
theorem Two.sym (T : Two n st gl) : Two n gl st := ⟨T.l2, T.l1, T.n2, T.n1⟩
def PrevC (n : Nat) (st gl : List Int) (C : List Nat) : Prop := ∀ y x, y < n → x ∈ C → nxN st gl y = some x → y ∈ C
theorem nx_self (T : Two n st gl) {y x : Nat} (hy : y < n) (hx : x < n) (e : st.getD x 0 = gl.getD x 0) (h : nxN st gl y = some x) : y = x := nx_inj T hy hx h (holdN_at T.n1 (by rw [T.l1]; exact hx) e)
theorem st_mem (T : Two n st gl) {x : Nat} : x ∈ stN st gl ↔ x < n ∧ st.getD x 0 = gl.getD x 0 := by
  unfold stN
  rw [List.mem_filter, List.mem_range, T.l1, beq_iff_eq]
theorem walk_prev {m : Nat} {c : List Nat} {o : Option Nat} (T : Two n st gl) (W : Wlk n st gl m c o) {y x : Nat} (hy : y < n) (hx : x ∈ c) (h : nxN st gl y = some x) : y ∈ c ∨ x = m := by
  obtain ⟨b, r, e⟩ := List.append_of_mem hx
  obtain ⟨t, et⟩ := W.hd
  rcases List.eq_nil_or_concat b with rfl | ⟨b', z, rfl⟩
  · right
    rw [et] at e
    exact (List.cons.inj e).1.symm
  · left
    have e' : c = b' ++ z :: x :: r := by rw [e]; simp
    have q : nxN st gl z = some x := chn_mid (e' ▸ W.ch)
    have hz : z < n := W.lt z (by rw [e']; simp)
    have := nx_inj T hy hz h q
    rw [this, e']; simp
theorem ring_prev {m : Nat} {c : List Nat} (T : Two n st gl) (W : Wlk n st gl m c (some m)) : PrevC n st gl c := fun y x hy hx h => by
  rcases walk_prev T W hy hx h with q | q
  · exact q
  · subst q
    obtain ⟨a, z, ea, ez⟩ := W.nx
    have hz : z < n := W.lt z (by rw [ea]; simp)
    rw [nx_inj T hy hz h ez, ea]; simp
theorem chain_prev {h : Nat} (T : Two n st gl) (hh : h ∈ hdN st gl) : PrevC n st gl (folN st gl h) := fun y x hy hx hn => by
  rcases walk_prev T (chain_end T hh) hy hx hn with q | q
  · exact q
  · exfalso
    subst q
    obtain ⟨h1, h2⟩ := (hd_mem T).mp hh
    exact h2 (by rw [(nx_some T hn).2]; exact mem_at.mpr ⟨y, by rw [T.l2]; exact hy, rfl⟩)
theorem dn_prev (T : Two n st gl) : PrevC n st gl (dnN st gl) := fun y x hy hx hn => by
  rcases List.mem_append.mp hx with q | q
  · obtain ⟨hx', e⟩ := (st_mem T).mp q
    rw [nx_self T hy hx' e hn]
    exact hx
  · obtain ⟨c, hc, hxc⟩ := List.mem_flatten.mp q
    obtain ⟨k, hk, rfl⟩ := List.mem_map.mp hc
    exact in_flat hk (chain_prev T hk y x hy hxc hn)
theorem back_in {C : List Nat} (hC : PrevC n st gl C) : ∀ {a b : List Nat} {x : Nat}, chn st gl (a ++ x :: b) → (∀ z ∈ a, z < n) → x ∈ C → ∀ z ∈ a, z ∈ C
  | [], _, _, _, _, _ => by simp
  | w :: a, b, x, h, hl, hx => by
    have ih : ∀ z ∈ a, z ∈ C := back_in hC (a := a) (b := b) (x := x) h.2 (fun z hz => hl z (List.mem_cons_of_mem _ hz)) hx
    have hw : w ∈ C := by
      cases a with
      | nil => exact hC w x (hl w (by simp)) hx h.1
      | cons v a => exact hC w v (hl w (by simp)) (ih v (by simp)) h.1
    intro z hz
    rcases List.mem_cons.mp hz with e | hz
    · rw [e]; exact hw
    · exact ih z hz
theorem head_in {C : List Nat} {m : Nat} {c : List Nat} {o : Option Nat} (W : Wlk n st gl m c o) (hC : PrevC n st gl C) {x : Nat} (hx : x ∈ c) (hxC : x ∈ C) : m ∈ C := by
  obtain ⟨b, r, e⟩ := List.append_of_mem hx
  obtain ⟨t, et⟩ := W.hd
  have hb := back_in hC (a := b) (b := r) (x := x) (e ▸ W.ch) (fun z hz => W.lt z (by rw [e]; simp [hz])) hxC
  cases b with
  | nil => rw [et] at e; rw [(List.cons.inj e).1]; exact hxC
  | cons w b => rw [et] at e; rw [(List.cons.inj e).1]; exact hb w (by simp)
theorem ri_mem (T : Two n st gl) {l : List Nat} (h : l ∈ riN st gl) : ∃ m, m < n ∧ m ∉ dnN st gl ∧ l = folN st gl m := by
  obtain ⟨m, h1, h2, h3⟩ := rg_of_mem h
  exact ⟨m, by rw [← T.l1]; exact List.mem_range.mp h1, h2, h3⟩
theorem rg_dis (T : Two n st gl) : ∀ (ms d : List Nat), (∀ m ∈ ms, m < n) → (∀ x ∈ dnN st gl, x ∈ d) → (rgN st gl ms d).Pairwise Apart
  | [], _, _, _ => List.Pairwise.nil
  | m :: ms, d, hm, hd => by
    unfold rgN
    split
    · exact rg_dis T ms d (fun k hk => hm k (List.mem_cons_of_mem _ hk)) hd
    · rename_i hc
      refine List.Pairwise.cons (fun l hl => ?_) (rg_dis T ms _ (fun k hk => hm k (List.mem_cons_of_mem _ hk)) fun x hx => List.mem_append.mpr (.inl (hd x hx)))
      obtain ⟨k, h1, h2, rfl⟩ := rg_of_mem hl
      have hmd : m ∉ dnN st gl := fun z => hc (List.contains_iff_mem.mpr (hd m z))
      have hkd : k ∉ dnN st gl := fun z => h2 (List.mem_append.mpr (.inl (hd k z)))
      have W := ring_end T (hm m (by simp)) hmd
      have Wk := ring_end T (hm k (List.mem_cons_of_mem _ h1)) hkd
      intro x hx hxk
      exact h2 (List.mem_append.mpr (.inr (head_in Wk (ring_prev T W) hxk hx)))
theorem ri_dis (T : Two n st gl) : (riN st gl).Pairwise Apart := rg_dis T _ _ (fun m hm => by rw [← T.l1]; exact List.mem_range.mp hm) fun x hx => hx
theorem ri_dn (T : Two n st gl) {l : List Nat} (h : l ∈ riN st gl) : Apart l (dnN st gl) := fun x hx hd => by
  obtain ⟨m, h1, h2, rfl⟩ := ri_mem T h
  exact h2 (head_in (ring_end T h1 h2) (dn_prev T) hx hd)
theorem rg_all {ms d : List Nat} : ∀ m ∈ ms, m ∈ d ∨ ∃ l ∈ rgN st gl ms d, m ∈ l := by
  induction ms generalizing d with
  | nil => intro m hm; cases hm
  | cons k ms ih =>
    intro m hm
    unfold rgN
    split
    · rename_i hc
      rcases List.mem_cons.mp hm with e | hm
      · rw [e]; exact .inl (List.contains_iff_mem.mp hc)
      · exact ih m hm
    · rcases List.mem_cons.mp hm with e | hm
      · rw [e]; exact .inr ⟨_, List.mem_cons_self, folN_hd⟩
      · rcases ih (d := d ++ folN st gl k) m hm with q | ⟨l, q1, q2⟩
        · rcases List.mem_append.mp q with q | q
          · exact .inl q
          · exact .inr ⟨_, List.mem_cons_self, q⟩
        · exact .inr ⟨l, List.mem_cons_of_mem _ q1, q2⟩
theorem ri_all (T : Two n st gl) {m : Nat} (hm : m < n) (hd : m ∉ dnN st gl) : ∃ l ∈ riN st gl, m ∈ l := by
  rcases rg_all (st := st) (gl := gl) (ms := List.range st.length) (d := dnN st gl) m (List.mem_range.mpr (by rw [T.l1]; exact hm)) with q | q
  · exact absurd q hd
  · exact q
theorem flat_nd : ∀ {L : List (List Nat)}, L.Pairwise Apart → (∀ l ∈ L, l.Nodup) → L.flatten.Nodup
  | [], _, _ => by simp
  | l :: L, hd, h => by
    obtain ⟨d1, d2⟩ := List.pairwise_cons.mp hd
    rw [List.flatten_cons]
    refine List.nodup_append.mpr ⟨h l (by simp), flat_nd d2 fun x hx => h x (List.mem_cons_of_mem _ hx), fun a ha b hb e => ?_⟩
    obtain ⟨l', h1, h2⟩ := List.mem_flatten.mp hb
    exact d1 l' h1 a ha (e ▸ h2)
theorem hd_nd : (hdN st gl).Nodup := (List.nodup_range).sublist List.filter_sublist
theorem ch_dis (T : Two n st gl) : (chN st gl).Pairwise Apart := by
  refine List.pairwise_map.mpr (List.Pairwise.imp_of_mem (R := fun a b => a ≠ b) (fun {h k} hh hk hne x hx hxk => ?_) hd_nd)
  have := head_in (chain_end T hh) (chain_prev T hk) hx hxk
  exact hne (head_apart T hk hh this)
theorem dn_nd (T : Two n st gl) : (dnN st gl).Nodup := by
  refine List.nodup_append.mpr ⟨(List.nodup_range).sublist List.filter_sublist, flat_nd (ch_dis T) fun l hl => ?_, fun a ha b hb e => ?_⟩
  · obtain ⟨k, hk, rfl⟩ := List.mem_map.mp hl
    exact (chain_end T hk).nd
  · subst e
    obtain ⟨c, hc, hac⟩ := List.mem_flatten.mp hb
    obtain ⟨k, hk, rfl⟩ := List.mem_map.mp hc
    have W := chain_end T hk
    obtain ⟨h1, h2⟩ := (st_mem T).mp ha
    have hs : nxN st gl a = some a := holdN_at T.n1 (by rw [T.l1]; exact h1) h2
    obtain ⟨b, r, e⟩ := List.append_of_mem hac
    obtain ⟨q, y, eq, ey⟩ := W.nx
    cases r with
    | nil =>
      rw [eq] at e
      have : y = a := by
        have := congrArg List.getLast? e
        simpa using this
      rw [this, hs] at ey
      cases ey
    | cons w r =>
      have hw := chn_mid (e ▸ W.ch)
      rw [hs] at hw
      cases hw
      have nd := W.nd
      rw [e] at nd
      exact (List.nodup_cons.mp (List.nodup_append.mp nd).2.1).1 (by simp)
theorem all_nd (T : Two n st gl) : (dnN st gl ++ (riN st gl).flatten).Nodup := by
  refine List.nodup_append.mpr ⟨dn_nd T, flat_nd (ri_dis T) fun l hl => ?_, fun a ha b hb e => ?_⟩
  · obtain ⟨m, h1, h2, rfl⟩ := ri_mem T hl
    exact (ring_end T h1 h2).nd
  · subst e
    obtain ⟨l, hl, hal⟩ := List.mem_flatten.mp hb
    exact ri_dn T hl a hal ha
theorem all_in_ (T : Two n st gl) {x : Nat} (hx : x < n) : x ∈ dnN st gl ++ (riN st gl).flatten := by
  by_cases hd : x ∈ dnN st gl
  · exact List.mem_append.mpr (.inl hd)
  · obtain ⟨l, h1, h2⟩ := ri_all T hx hd
    exact List.mem_append.mpr (.inr (List.mem_flatten.mpr ⟨l, h1, h2⟩))
end
end SF
namespace SF
open PySem PySem.Spec PyProof.Rows L2
def t_holder : DTS :=
  (dRet (dIf (dTst (dOp2 gIn (dVar 1) (dVar 0))) (dIdx (dCB fList (dCons (dVar 0) dNil)) (dVar 1)) (dC .none)))
def t_settled : DTS :=
  (dRet (dLc (dRng1 (dCons (dCB gLen (dCons (dOp2 gIx (dVar 0) (dC (.int 1))) dNil)) dNil)) (gdName 3) (dTst (dOp2 fEq (dOp2 gIx (dVar 1) (dVar 3)) (dOp2 gIx (dVar 2) (dVar 3)))) (dVar 3) [3]))
def t_follow_0 (sp_holder : DSp) : DTS :=
  (dPar 3 4 (dCons (dLst (dCons (dVar 2) dNil)) (dCons (dCall sp_holder (fun as => as) (dCons (dVar 0) (dCons (dOp2 gIx (dVar 1) (dVar 2)) dNil))) dNil)))
def t_follow_1 (sp_holder : DSp) : DTS :=
  (dWhile (dAnd (dTst (dOp2 fIsNot (dVar 4) (dC .none))) (dTst (dOp2 fNe (dVar 4) (dVar 2)))) (dSeq (dDrop (dMut 3 gAppend (dCons (dVar 4) dNil)))
    (dSet 4 (dCall sp_holder (fun as => as) (dCons (dVar 0) (dCons (dOp2 gIx (dVar 1) (dVar 4)) dNil))))))
def t_follow_2 : DTS :=
  (dRet (dVar 3))
def t_follow (sp_holder : DSp) : DTS := (dSeq (t_follow_0 sp_holder) (dSeq (t_follow_1 sp_holder) (t_follow_2)))
def nD (i : Nat) : D := .int (i : Int)
def optN : Option Nat → D
  | none => .none
  | some i => nD i
theorem range_nD {k : Nat} : rangeD 0 k = (List.range k).map nD := by
  unfold rangeD nD
  refine List.map_congr_left fun i _ => ?_
  rw [Int.zero_add]
theorem idx_hold {st : List Int} {g : Int} : idxD (st.map .int) (.int g) = holdN st g := by
  unfold idxD
  rw [show (scD (.int g) && (st.map PyData.int).all scD) = true by rw [sc_ints]; rfl]
  show List.findIdx? _ _ = _
  unfold holdN
  rw [List.findIdx?_map]
  congr 1
def sp_holder : DSp := fun args n Q _ => ∃ t st, ∃ g : Int, args = [.d (stD t st), .d (.int g)] ∧ Q (.d (optN (holdN st g))) n
theorem r_holder : ∀ args n Qa Ea, sp_holder args n Qa Ea → t_holder (fin Qa) (startD 2 args n) := by
  rintro args n Qa Ea ⟨t, st, g, rfl, hq⟩
  refine in_ints (t := t) ?_
  cases h : st.contains g with
  | false =>
    have : holdN st g = none := holdN_none.mpr fun hm => by rw [List.contains_iff_mem.mpr hm] at h; cases h
    rw [this] at hq
    exact hq
  | true =>
    have hm := List.contains_iff_mem.mp h
    cases e : holdN st g with
    | none => exact absurd hm (holdN_none.mp e)
    | some j =>
      rw [e] at hq
      have e' : idxD (st.map .int) (.int g) = some j := idx_hold.trans e
      cases t <;> exact someI e' hq
def keepN (p : Nat → Bool) (i : Nat) : Option D := if p i = true then some (nD i) else none
theorem fm_keepN (p : Nat → Bool) : ∀ l : List Nat, l.filterMap (keepN p) = (l.filter p).map nD
  | [] => rfl
  | i :: l => by
    simp only [List.filterMap_cons, List.filter_cons, keepN]
    cases h : p i with
    | true => simp only [if_true, List.map_cons, ← fm_keepN p l]
    | false => simp only [Bool.false_eq_true, if_false, ← fm_keepN p l]
theorem keep_stepN {p : Nat → Bool} {i : Nat} {acc : List D} {P : List D → DS → Prop} {ds : DS} (h : P (acc ++ (keepN p i).toList) ds) : (match p i with
    | true => P (acc ++ [nD i]) ds
    | false => P acc ds) := by
  unfold keepN at h
  cases e : p i with
  | true => rw [e, if_pos rfl] at h; exact h
  | false =>
    rw [e, if_neg Bool.false_ne_true] at h
    have h' : P (acc ++ []) ds := h
    rw [List.append_nil] at h'
    exact h'
theorem ixN_ints {t : Bool} {xs : List Int} {i : Nat} {Q : DV → Prop} (h : i < xs.length) (q : Q (.d (.int (xs.getD i 0)))) : gIx (mkQ t (xs.map .int)) (nD i) Q := by
  refine ix_ints (by omega) (by omega) ?_
  rw [nth_nat]; exact q
structure Arg2 (ps : List (Int × Int)) (st gl : List Int) : Prop where
  two : Two ps.length st gl
  le : ps.length ≤ 100
def sp_settled : DSp := fun args n Q _ => ∃ t u v gs ps st gl, args = [.d (shQ t gs ps), .d (stD u st), .d (stD v gl)] ∧ Arg2 ps st gl ∧ Q (.own ((stN st gl).map nD)) n
theorem r_settled : ∀ args n Qa Ea, sp_settled args n Qa Ea → t_settled (fin Qa) (startD 4 args n) := by
  rintro args n Qa Ea ⟨t, u, v, gs, ps, st, gl, rfl, A, hq⟩
  have l1 := A.two.l1
  have l2 := A.two.l2
  have le := A.le
  refine lc_map nD (List.range st.length) (keepN fun i => st.getD i 0 == gl.getD i 0) (ds1 := ⟨[some (.d (shQ t gs ps)), some (.d (stD u st)), some (.d (stD v gl)), none], n⟩) (fun K hK => ?_) rfl (fun i hi acc P hP => ?_) ?_
  · refine ixl1 (lenQ ?_)
    rw [List.length_map]
    refine ⟨by omega, by omega, ?_⟩
    rw [show ((ps.length : Nat) : Int).toNat = st.length by omega, range_nD]
    exact hK
  · have hi' := List.mem_range.mp hi
    refine ixN_ints hi' (ixN_ints (by omega) (feq_int ?_))
    have := keep_stepN hP
    revert this
    cases (st.getD i 0 == gl.getD i 0) <;> exact id
  · rw [fm_keepN]
    exact hq
def sp_follow : DSp := fun args n Q _ => ∃ u v st gl m, args = [.d (stD u st), .d (stD v gl), .d (nD m)] ∧ Two st.length st gl ∧ m < st.length ∧ st.length ≤ 100 ∧ Q (.own ((folN st gl m).map nD)) n
theorem r_follow : ∀ args n Qa Ea, sp_follow args n Qa Ea → t_follow sp_holder (fin Qa) (startD 5 args n) := by
  rintro args n Qa Ea ⟨u, v, st, gl, m, rfl, T, hm, le, hq⟩
  have l2 := T.l2
  refine ixN_ints (by omega) ?_
  refine ⟨u, st, _, rfl, ?_⟩
  refine ⟨fun k ds => ∃ o acc, ds = ⟨[some (.d (stD u st)), some (.d (stD v gl)), some (.d (nD m)), some (.own (acc.map nD)), some (.d (optN o))], n⟩ ∧ fol st gl m k o acc = folN st gl m ∧ Wlk st.length st gl m acc o ∧ acc.length + k = st.length + 1, ⟨st.length, nxN st gl m, [m], rfl, rfl, Wlk.start hm, by simp; omega⟩, ?_⟩
  rintro k ds ⟨o, acc, rfl, hf, W, hl⟩
  have wl := W.len
  cases k with
  | zero => omega
  | succ k =>
    cases o with
    | none =>
      have hf' : acc = folN st gl m := hf
      rw [hf']
      exact hq
    | some j =>
      refine fne_int ?_
      unfold fol at hf
      by_cases e : j = m
      · rw [if_pos e] at hf
        rw [show (!((j : Int) == (m : Int))) = false by simp [e], hf]
        exact hq
      · rw [if_neg e] at hf
        rw [show (!((j : Int) == (m : Int))) = true by simp; omega]
        have jl : j < st.length := by
          obtain ⟨a, x, ea, ex⟩ := W.nx
          exact (nx_some T ex).1
        refine ⟨by rw [List.length_map]; omega, ?_⟩
        refine ixN_ints (by omega) ?_
        refine ⟨u, st, _, rfl, ?_⟩
        refine ⟨k, by omega, nxN st gl j, acc ++ [j], ?_, hf, W.next T e, by rw [List.length_append, List.length_singleton]; omega⟩
        rw [List.map_append]
        rfl
def lD (l : List Nat) : D := .list (l.map nD)
theorem nD_ints (l : List Nat) : l.map nD = (l.map fun i : Nat => (i : Int)).map .int := by rw [List.map_map]; rfl
theorem cont_nat {l : List Nat} {i : Nat} : (l.map fun i : Nat => (i : Int)).contains (i : Int) = l.contains i := by
  induction l with
  | nil => rfl
  | cons x l ih =>
    have h : ((i : Int) == (x : Int)) = (i == x) := by rw [Bool.eq_iff_iff]; simp only [beq_iff_eq]; omega
    simp only [List.map_cons, List.contains_cons, ih, h]
theorem notIn_nats {l : List Nat} {i : Nat} {Q : DV → Prop} (h : Q (.d (.bool (!l.contains i)))) : gNotIn (nD i) (.list (l.map nD)) Q := by
  rw [nD_ints]
  refine notIn_ints (t := false) ?_
  rw [cont_nat]; exact h
theorem fol_len {n : Nat} {st gl : List Int} (T : Two n st gl) {m : Nat} (hm : m < n) : (folN st gl m).length ≤ n := by
  obtain ⟨o, W, _⟩ := folN_end T hm
  exact W.len
theorem filt_len {p : Nat → Bool} {k : Nat} : ((List.range k).filter p).length ≤ k := by
  have := List.length_filter_le p (List.range k)
  rwa [List.length_range] at this
theorem sum_lc {α : Type} {xs : List α} {f : α → Int} : intsD (xs.map fun x => PyData.int (f x)) = some (xs.map f) := by
  have := intsD_map (xs.map f)
  rw [List.map_map] at this
  exact this
theorem fm_some {α : Type} {xs : List α} {f : α → D} : xs.filterMap (fun x => some (f x)) = xs.map f := by
  induction xs with
  | nil => rfl
  | cons x xs ih => simp only [List.filterMap_cons, List.map_cons, ih]
def memD (q : List (Option Nat) × List Int) : D := .tuple [.list (q.1.map optN), .list (q.2.map .int)]
theorem ri_lt {n : Nat} {st gl : List Int} (T : Two n st gl) {l : List Nat} (h : l ∈ riN st gl) : ∃ m, m < n ∧ m ∉ dnN st gl ∧ l = folN st gl m := by
  obtain ⟨m, h1, h2, h3⟩ := rg_of_mem h
  exact ⟨m, by rw [← T.l1]; exact List.mem_range.mp h1, h2, h3⟩
theorem fol_lt {n : Nat} {st gl : List Int} (T : Two n st gl) {m : Nat} (hm : m < n) : ∀ x ∈ folN st gl m, x < n := by
  obtain ⟨o, W, _⟩ := folN_end T hm
  exact W.lt
theorem ch_lt {n : Nat} {st gl : List Int} (T : Two n st gl) {l : List Nat} (h : l ∈ chN st gl) : ∃ m, m ∈ hdN st gl ∧ m < n ∧ l = folN st gl m := by
  obtain ⟨m, h1, h3⟩ := List.mem_map.mp h
  exact ⟨m, h1, ((hd_mem T).mp h1).1, h3.symm⟩
theorem fol_last {st gl : List Int} {n : Nat} (T : Two n st gl) {m : Nat} (hm : m < n) : ∃ a, folN st gl m = a ++ [(folN st gl m).getLastD 0] := by
  obtain ⟨o, W, _⟩ := folN_end T hm
  obtain ⟨a, x, ea, _⟩ := W.nx
  refine ⟨a, ?_⟩
  rw [ea]
  simp
theorem enum_ints {hs : List Int} : enumD (hs.map .int) = (List.range hs.length).map fun i => PyData.tuple [nD i, .int (hs.getD i 0)] := by
  refine List.ext_getElem? fun i => ?_
  by_cases h : i < hs.length
  · rw [enumD_get (x := .int (hs.getD i 0)) (by rw [List.getElem?_map, List.getElem?_eq_getElem h, List.getD_eq_getElem?_getD, List.getElem?_eq_getElem h]; rfl), List.getElem?_map, List.getElem?_range h]
    rfl
  · rw [List.getElem?_eq_none (by rw [enumD_len, List.length_map]; omega), List.getElem?_eq_none (by rw [List.length_map, List.length_range]; omega)]
section
variable {gs : List Int} {ps : List (Int × Int)} {st gl : List Int}
theorem Good.two (G : Good gs ps st) (L : Good gs ps gl) : Two ps.length st gl := ⟨G.len, L.len, G.nd, L.nd⟩
end
end SF
namespace SF
end SF
namespace SF
end SF
namespace SF
end SF
namespace SF
end SF
namespace SF
open PySem PySem.Spec PyProof.Rows L2
end SF
namespace SF
end SF
namespace SF
end SF
namespace SF
abbrev Cell := Option Nat × Int
section
variable {gs st st' gl : List Int}
def Hdc (gs st : List Int) : Option Nat → Int → Prop
  | some m, p => m < st.length ∧ st.getD m 0 = p
  | none, p => p ∈ gs ∧ p ∉ st
def Wt (gl : List Int) : Option Nat → Int → Prop
  | some m, w => gl.getD m 0 = w
  | none, w => w ∉ gl
def Lk (gs st gl : List Int) : Int → List Cell → Prop
  | _, [] => True
  | p, c :: cs => Hdc gs st c.1 p ∧ Wt gl c.1 c.2 ∧ Lk gs st gl c.2 cs
def lastW : Int → List Cell → Int
  | p, [] => p
  | _, c :: cs => lastW c.2 cs
theorem lastW_app : ∀ {a b : List Cell} {p : Int}, lastW p (a ++ b) = lastW (lastW p a) b
  | [], _, _ => rfl
  | c :: a, b, _ => lastW_app (a := a)
theorem lk_app : ∀ {a b : List Cell} {p : Int}, Lk gs st gl p (a ++ b) ↔ Lk gs st gl p a ∧ Lk gs st gl (lastW p a) b
  | [], _, _ => ⟨fun h => ⟨trivial, h⟩, fun h => h.2⟩
  | c :: a, b, p => by
    show (Hdc gs st c.1 p ∧ Wt gl c.1 c.2 ∧ Lk gs st gl c.2 (a ++ b)) ↔ (Hdc gs st c.1 p ∧ Wt gl c.1 c.2 ∧ Lk gs st gl c.2 a) ∧ _
    rw [lk_app (a := a)]
    constructor
    · rintro ⟨h1, h2, h3, h4⟩; exact ⟨⟨h1, h2, h3⟩, h4⟩
    · rintro ⟨⟨h1, h2, h3⟩, h4⟩; exact ⟨h1, h2, h3, h4⟩
def Cy (gs st gl : List Int) (cs : List Cell) : Prop := cs ≠ [] ∧ Lk gs st gl (lastW 0 cs) cs
def mems (cs : List Cell) : List Nat := cs.filterMap (·.1)
def rks (cs : List Cell) : Nat := (cs.filter fun c => c.1.isNone).length
theorem rks_app {a b : List Cell} : rks (a ++ b) = rks a + rks b := by unfold rks; rw [List.filter_append, List.length_append]
structure Cov (gs st gl : List Int) (W : List (List Cell)) : Prop where
  cy : ∀ B ∈ W, Cy gs st gl B
  nd : (W.flatten.map (·.2)).Nodup
  mn : (mems W.flatten).Nodup
  one : ∀ B ∈ W, rks B ≤ 1
  st : ∀ m, m < st.length → m ∉ mems W.flatten → st.getD m 0 = gl.getD m 0
end
end SF
namespace SF
section
variable {gs st gl : List Int} {n : Nat}
theorem gd_inj (T : Two n st gl) {i j : Nat} (hi : i < n) (hj : j < n) (h : st.getD i 0 = st.getD j 0) : i = j := by
  by_cases z : i = j
  · exact z
  · exact absurd h (nodup_at.mp T.n1 i j (by rw [T.l1]; exact hi) (by rw [T.l1]; exact hj) z)
theorem mems_flat : ∀ {W : List (List Cell)}, mems W.flatten = (W.map mems).flatten
  | [] => rfl
  | B :: W => by
    rw [List.flatten_cons, List.map_cons, List.flatten_cons, ← mems_flat]
    unfold mems; rw [List.filterMap_append]
end
end SF
namespace SF
end SF
namespace SF
end SF
namespace SF
end SF
namespace SF
end SF
namespace SF
end SF
namespace SF
section
variable {gs st gl : List Int} {ps : List (Int × Int)} {n : Nat}
def wcN (gl : List Int) (i : Nat) : Cell := (some i, gl.getD i 0)
def rCel (gl : List Int) (l : List Nat) : List Cell := l.map (wcN gl)
def cCel (st gl : List Int) (l : List Nat) : List Cell := l.map (wcN gl) ++ [(none, st.getD (l.headD 0) 0)]
theorem lk_fol (T : Two st.length st gl) : ∀ {l : List Nat} {m : Nat}, chn st gl (m :: l) → (∀ x ∈ m :: l, x < st.length) → Lk gs st gl (st.getD m 0) ((m :: l).map (wcN gl))
  | [], m, _, hl => ⟨⟨hl m (by simp), rfl⟩, rfl, trivial⟩
  | y :: l, m, ⟨h1, h2⟩, hl => by
    refine ⟨⟨hl m (by simp), rfl⟩, rfl, ?_⟩
    have ih := lk_fol T h2 fun x hx => hl x (List.mem_cons_of_mem _ hx)
    have h1 : nxN st gl m = some y := h1
    rw [(holdN_some h1).2] at ih
    exact ih
theorem last_cel {a : List Nat} {x : Nat} {p : Int} : lastW p ((a ++ [x]).map (wcN gl)) = gl.getD x 0 := by
  rw [List.map_append, lastW_app]; rfl
theorem ring_cy (T : Two n st gl) {m : Nat} {l : List Nat} (W : Wlk n st gl m l (some m)) : Cy gs st gl (rCel gl l) := by
  obtain ⟨t, e⟩ := W.hd
  obtain ⟨a, x, ea, ex⟩ := W.nx
  refine ⟨by unfold rCel; rw [e]; simp, ?_⟩
  have h1 : lastW 0 (rCel gl l) = st.getD m 0 := by
    unfold rCel
    rw [ea, last_cel]
    exact (holdN_some ex).2.symm
  rw [h1]
  unfold rCel
  rw [e]
  have T' : Two st.length st gl := ⟨rfl, by rw [T.l2, T.l1], T.n1, T.n2⟩
  exact lk_fol T' (by rw [← e]; exact W.ch) (by rw [← e, T.l1]; exact W.lt)
theorem chain_cy (T : Two n st gl) (hg : ∀ g ∈ gl, g ∈ gs) {m : Nat} {l : List Nat} (W : Wlk n st gl m l none) (hm : st.getD m 0 ∉ gl) : Cy gs st gl (cCel st gl l) := by
  obtain ⟨t, e⟩ := W.hd
  obtain ⟨a, x, ea, ex⟩ := W.nx
  have hh : l.headD 0 = m := by rw [e]; rfl
  refine ⟨by unfold cCel; simp, ?_⟩
  have h1 : lastW 0 (cCel st gl l) = st.getD m 0 := by
    unfold cCel
    rw [lastW_app, hh]; rfl
  have T' : Two st.length st gl := ⟨rfl, by rw [T.l2, T.l1], T.n1, T.n2⟩
  rw [h1]
  unfold cCel
  rw [lk_app, hh]
  have h2 : lastW (st.getD m 0) (l.map (wcN gl)) = gl.getD x 0 := by rw [ea, last_cel]
  refine ⟨?_, ?_⟩
  · have := lk_fol (gs := gs) T' (m := m) (l := t) (by rw [← e]; exact W.ch) (by rw [← e, T.l1]; exact W.lt)
    rwa [← e] at this
  · rw [h2]
    refine ⟨⟨hg _ (mem_at.mpr ⟨x, ?_, rfl⟩), holdN_none.mp ex⟩, hm, trivial⟩
    rw [T.l2]
    exact W.lt x (by rw [ea]; simp)
theorem mems_r {l : List Nat} : mems (rCel gl l) = l := by
  unfold mems rCel
  rw [List.filterMap_map]
  exact List.filterMap_some
theorem mems_c {l : List Nat} : mems (cCel st gl l) = l := by
  have := mems_r (gl := gl) (l := l)
  unfold mems rCel at this
  unfold mems cCel
  rw [List.filterMap_append, this]
  simp
theorem rks_r {l : List Nat} : rks (rCel gl l) = 0 := by
  unfold rks rCel
  rw [List.length_eq_zero_iff, List.filter_eq_nil_iff]
  intro c hc
  obtain ⟨i, _, rfl⟩ := List.mem_map.mp hc
  simp [wcN]
theorem rks_c {l : List Nat} : rks (cCel st gl l) = 1 := by
  unfold cCel
  rw [rks_app]
  have := rks_r (gl := gl) (l := l)
  unfold rCel at this
  rw [this]; rfl
def covW (st gl : List Int) : List (List Cell) := (riN st gl).map (rCel gl) ++ (chN st gl).map (cCel st gl)
theorem cov_all (T : Two n st gl) (hg : ∀ g ∈ gl, g ∈ gs) : Cov gs st gl (covW st gl) := by
  have rW : ∀ l ∈ riN st gl, ∃ m, Wlk n st gl m l (some m) := fun l hl => by
    obtain ⟨m, h1, h2, rfl⟩ := ri_mem T hl
    exact ⟨m, ring_end T h1 h2⟩
  have cW : ∀ l ∈ chN st gl, ∃ m, m ∈ hdN st gl ∧ Wlk n st gl m l none := fun l hl => by
    obtain ⟨m, h1, rfl⟩ := List.mem_map.mp hl
    exact ⟨m, h1, chain_end T h1⟩
  have mm : mems (covW st gl).flatten = (riN st gl).flatten ++ (chN st gl).flatten := by
    rw [mems_flat]
    unfold covW
    rw [List.map_append, List.map_map, List.map_map, List.flatten_append]
    congr 2
    · exact (List.map_congr_left fun l _ => mems_r).trans (List.map_id _)
    · exact (List.map_congr_left fun l _ => mems_c).trans (List.map_id _)
  have an := all_nd T
  have sN : ((riN st gl).flatten ++ (chN st gl).flatten).Nodup := by
    have h1 := List.nodup_append.mp an
    have h2 := List.nodup_append.mp h1.1
    exact List.nodup_append.mpr ⟨h1.2.1, h2.2.1, fun a ha b hb e => h1.2.2 b (List.mem_append.mpr (.inr hb)) a ha e.symm⟩
  have gi : ∀ {i j}, i < n → j < n → gl.getD i 0 = gl.getD j 0 → i = j := fun hi hj e => gd_inj T.sym hi hj e
  have inG : ∀ {i}, i < n → gl.getD i 0 ∈ gl := fun hi => mem_at.mpr ⟨_, by rw [T.l2]; exact hi, rfl⟩
  have wr : ∀ l, (rCel gl l).map (·.2) = l.map fun i => gl.getD i 0 := fun l => by unfold rCel; rw [List.map_map]; rfl
  have wcc : ∀ l, (cCel st gl l).map (·.2) = (l.map fun i => gl.getD i 0) ++ [st.getD (l.headD 0) 0] := fun l => by unfold cCel; rw [List.map_append, List.map_map]; rfl
  have gnd : ∀ {l : List Nat}, l.Nodup → (∀ x ∈ l, x < n) → (l.map fun i => gl.getD i 0).Nodup := fun nd lt => by
    show List.Pairwise _ _
    rw [List.pairwise_map]
    exact List.Pairwise.imp_of_mem (fun ha hb hne e => hne (gi (lt _ ha) (lt _ hb) e)) nd
  have hdv : ∀ {m}, m ∈ hdN st gl → m < n ∧ st.getD m 0 ∉ gl := fun h => (hd_mem T).mp h
  have hh : ∀ {l m o}, Wlk n st gl m l o → l.headD 0 = m ∧ m ∈ l := fun W => by
    obtain ⟨t, e⟩ := W.hd
    rw [e]; simp
  refine ⟨fun B hB => ?_, ?_, ?_, fun B hB => ?_, fun m hm hn => ?_⟩
  · rcases List.mem_append.mp hB with h | h
    · obtain ⟨l, hl, rfl⟩ := List.mem_map.mp h
      obtain ⟨m, W⟩ := rW l hl
      exact ring_cy T W
    · obtain ⟨l, hl, rfl⟩ := List.mem_map.mp h
      obtain ⟨m, h1, W⟩ := cW l hl
      exact chain_cy T hg W (hdv h1).2
  · have e : (covW st gl).flatten.map (·.2) = ((covW st gl).map fun B => B.map (·.2)).flatten := by rw [List.map_flatten]
    rw [e]
    show List.Pairwise _ _
    rw [List.pairwise_flatten]
    constructor
    · intro w hw
      obtain ⟨B, hB, rfl⟩ := List.mem_map.mp hw
      rcases List.mem_append.mp hB with h | h
      · obtain ⟨l, hl, rfl⟩ := List.mem_map.mp h
        obtain ⟨m, W⟩ := rW l hl
        rw [wr]
        exact gnd W.nd W.lt
      · obtain ⟨l, hl, rfl⟩ := List.mem_map.mp h
        obtain ⟨m, h1, W⟩ := cW l hl
        rw [wcc, (hh W).1]
        refine List.nodup_append.mpr ⟨gnd W.nd W.lt, by simp, fun a ha b hb e => ?_⟩
        obtain ⟨i, hi, rfl⟩ := List.mem_map.mp ha
        rw [List.mem_singleton] at hb
        exact (hdv h1).2 (by rw [← hb, ← e]; exact inG (W.lt i hi))
    · rw [List.pairwise_map]
      unfold covW
      have dis : ∀ {l l' : List Nat} {w w' : List Int}, Apart l l' → (∀ x ∈ l, x < n) → (∀ x ∈ l', x < n) → (∀ a ∈ w, (∃ i ∈ l, a = gl.getD i 0) ∨ (∃ i ∈ l, i ∈ hdN st gl ∧ a = st.getD i 0)) → (∀ a ∈ w', (∃ i ∈ l', a = gl.getD i 0) ∨ (∃ i ∈ l', i ∈ hdN st gl ∧ a = st.getD i 0)) → ∀ a ∈ w, ∀ b ∈ w', a ≠ b := by
        intro l l' w w' ap lt lt' h h' a ha b hb e
        subst e
        rcases h a ha with ⟨i, hi, e1⟩ | ⟨i, hi, q1, e1⟩ <;> rcases h' a hb with ⟨j, hj, e2⟩ | ⟨j, hj, q2, e2⟩
        · exact ap i hi (by rw [gi (lt i hi) (lt' j hj) (e1.symm.trans e2)]; exact hj)
        · exact (hdv q2).2 (by rw [← e2, e1]; exact inG (lt i hi))
        · exact (hdv q1).2 (by rw [← e1, e2]; exact inG (lt' j hj))
        · exact ap i hi (by rw [gd_inj T (lt i hi) (lt' j hj) (e1.symm.trans e2)]; exact hj)
      have wR : ∀ l ∈ riN st gl, ∀ a ∈ (rCel gl l).map (·.2), (∃ i ∈ l, a = gl.getD i 0) ∨ (∃ i ∈ l, i ∈ hdN st gl ∧ a = st.getD i 0) := fun l hl a ha => by
        rw [wr] at ha
        obtain ⟨i, hi, rfl⟩ := List.mem_map.mp ha
        exact .inl ⟨i, hi, rfl⟩
      have wC : ∀ l ∈ chN st gl, ∀ a ∈ (cCel st gl l).map (·.2), (∃ i ∈ l, a = gl.getD i 0) ∨ (∃ i ∈ l, i ∈ hdN st gl ∧ a = st.getD i 0) := fun l hl a ha => by
        obtain ⟨m, h1, W⟩ := cW l hl
        rw [wcc, (hh W).1] at ha
        rcases List.mem_append.mp ha with h | h
        · obtain ⟨i, hi, rfl⟩ := List.mem_map.mp h
          exact .inl ⟨i, hi, rfl⟩
        · exact .inr ⟨m, (hh W).2, h1, List.mem_singleton.mp h⟩
      have ltR : ∀ l ∈ riN st gl, ∀ x ∈ l, x < n := fun l hl => by obtain ⟨m, W⟩ := rW l hl; exact W.lt
      have ltC : ∀ l ∈ chN st gl, ∀ x ∈ l, x < n := fun l hl => by obtain ⟨m, _, W⟩ := cW l hl; exact W.lt
      rw [List.pairwise_append, List.pairwise_map, List.pairwise_map]
      refine ⟨(ri_dis T).imp_of_mem fun {a b} ha hb ap => dis ap (ltR a ha) (ltR b hb) (wR a ha) (wR b hb), (ch_dis T).imp_of_mem fun {a b} ha hb ap => dis ap (ltC a ha) (ltC b hb) (wC a ha) (wC b hb), fun A hA B hB => ?_⟩
      obtain ⟨a, ha, rfl⟩ := List.mem_map.mp hA
      obtain ⟨b, hb, rfl⟩ := List.mem_map.mp hB
      refine dis (fun x hx hy => ?_) (ltR a ha) (ltC b hb) (wR a ha) (wC b hb)
      exact (List.nodup_append.mp sN).2.2 x (List.mem_flatten.mpr ⟨a, ha, hx⟩) x (List.mem_flatten.mpr ⟨b, hb, hy⟩) rfl
  · rw [mm]; exact sN
  · rcases List.mem_append.mp hB with h | h
    · obtain ⟨l, hl, rfl⟩ := List.mem_map.mp h
      rw [rks_r]; omega
    · obtain ⟨l, hl, rfl⟩ := List.mem_map.mp h
      rw [rks_c]; omega
  · rw [mm] at hn
    rcases List.mem_append.mp (all_in_ T (by rw [← T.l1]; exact hm)) with h | h
    · rcases List.mem_append.mp h with h | h
      · exact ((st_mem T).mp h).2
      · exact absurd (List.mem_append.mpr (.inr h)) hn
    · exact absurd (List.mem_append.mpr (.inl h)) hn
end
end SF
namespace SF
open PySem PySem.Spec PyProof.Rows L2
def t_l_rings_0 : DTS :=
  (dPar 2 3 (dCons (dLst dNil) (dCons (dLc (dRng1 (dCons (dCB gLen (dCons (dVar 0) dNil)) dNil)) (gdName 5) (dTst (dOp2 fEq (dOp2 gIx (dVar 0) (dVar 5)) (dOp2 gIx (dVar 1) (dVar 5)))) (dVar 5) [5]) dNil)))
def t_l_rings_1 : DTS :=
  (dSet 4 (dOp2 fAdd (dLc (dRng1 (dCons (dCB gLen (dCons (dVar 0) dNil)) dNil)) (gdName 5) (dTst (dOp2 gNotIn (dOp2 gIx (dVar 0) (dVar 5)) (dVar 1))) (dVar 5) [5]) (dRg1 mkL (dCB gLen (dCons (dVar 0) dNil)))))
def t_l_rings_2 : DTS :=
  (dFor (dSq (dVar 4)) (gdName 5) (dIfS (dTst (dOp2 gNotIn (dVar 5) (dVar 3))) (dSeq (dSet 6 (dLst (dCons (dVar 5) dNil)))
    (dSeq (dWhile (dAnd (dTst (dOp2 gIn (dOp2 gIx (dVar 1) (dOp2 gIx (dVar 6) (dOp1 fNeg (dC (.int 1))))) (dVar 0))) (dTst (dOp2 fNe (dIdx (dVar 0) (dOp2 gIx (dVar 1) (dOp2 gIx (dVar 6) (dOp1 fNeg (dC (.int 1)))))) (dVar 5)))) (dDrop (dMut 6 gAppend (dCons (dIdx (dVar 0) (dOp2 gIx (dVar 1) (dOp2 gIx (dVar 6) (dOp1 fNeg (dC (.int 1)))))) dNil))))
    (dSeq (dSet 3 (dOp2 fAdd (dVar 3) (dVar 6)))
    (dDrop (dMut 2 gAppend (dCons (dOp2 fAdd (dVar 6) (dOp2 fMul (dLst (dCons (dC .none) dNil)) (dCB fInt (dCons (dOp2 gNotIn (dOp2 gIx (dVar 1) (dOp2 gIx (dVar 6) (dOp1 fNeg (dC (.int 1))))) (dVar 0)) dNil)))) dNil)))))) dNext))
def t_l_rings_3 : DTS :=
  (dRet (dVar 2))
def t_l_rings : DTS := (dSeq (t_l_rings_0) (dSeq (t_l_rings_1) (dSeq (t_l_rings_2) (t_l_rings_3))))
def t_goal_0 (sp_wandered : DSp) (sp_take : DSp) : DTS :=
  (dSet 3 (dOp2 gIx (dCall sp_wandered (fun as => as) (dCons (dVar 0) (dCons (dVar 1) (dCons (dVar 2) (dCons (dCall sp_take (fun as => as) (dCons (dVar 0) (dCons (dC (.int 12)) dNil))) dNil))))) (dC (.int 1))))
def t_goal_1 (sp_take : DSp) (sp_shuffled : DSp) (sp_l_fits : DSp) : DTS :=
  (dFor (dRng1 (dCons (dCall sp_take (fun as => as) (dCons (dVar 0) (dCons (dC (.int 4)) dNil))) dNil)) (gdName 4) (dSeq (dSet 5 (dCB fTuple (dCons (dSl (dCall sp_shuffled (fun as => as) (dCons (dVar 0) (dCons (dOp2 gIx (dVar 1) (dC (.int 0))) dNil))) dNoP (dP (dCB gLen (dCons (dVar 2) dNil)))) dNil)))
    (dIfS (dTr (dCB fAll (dCons (dLc (dEnum (dCons (dVar 5) dNil)) (gdTup 2 (gdCons (gdName 6) (gdCons (gdName 7) gdNil))) dYes (dCall sp_l_fits (fun as => as) (dCons (dVar 1) (dCons (dVar 6) (dCons (dVar 7) dNil)))) [6, 7]) dNil))) (dSet 3 (dVar 5)) dNext)))
def t_goal_2 : DTS :=
  (dRet (dVar 3))
def t_goal (sp_wandered : DSp) (sp_take : DSp) (sp_shuffled : DSp) (sp_l_fits : DSp) : DTS := (dSeq (t_goal_0 sp_wandered sp_take) (dSeq (t_goal_1 sp_take sp_shuffled sp_l_fits) (t_goal_2)))
section
variable {K : Fg} {F : Fx} {H H1 H2 : Hp} {O O1 O2 : List Addr} {σ : St} {ds ds1 ds2 : DS} {v : Option V}
theorem none_ne {i j : Nat} {σ : St} (h : i ≠ j) : (σ.set i v)[j]? = σ[j]? := by rw [List.getElem?_set_ne h]
theorem mut_any {i j : Nat} {p : Addr} (h : MutAt (σ.set i v) ⟨ds.sl.set i none, ds.n⟩ j p) : i ≠ j ∧ MutAt σ ds j p := by
  obtain ⟨r, h1, dv, h2, h3, h4⟩ := h
  obtain ⟨q1, q2⟩ := sl_none_of h2
  rw [none_ne q1] at h1
  exact ⟨q1, r, h1, dv, q2, h3, h4⟩
theorem box_any {i j : Nat} {p : Addr} (h : BoxS (σ.set i v) ⟨ds.sl.set i none, ds.n⟩ j p) : i ≠ j ∧ BoxS σ ds j p := by
  obtain ⟨h1, h2⟩ := h
  obtain ⟨q1, q2⟩ := sl_none_of h2
  rw [none_ne q1] at h1
  exact ⟨q1, h1, q2⟩
theorem Rep.any (R : Rep K F H O σ ds) (i : Nat) (v : Option V) : Rep K F H O (σ.set i v) ⟨ds.sl.set i none, ds.n⟩ where
  lo := R.lo
  sub := R.sub
  ext := R.ext
  sl := fun j dv h => by
    obtain ⟨q1, q2⟩ := sl_none_of h
    rw [none_ne q1]
    exact R.sl j dv q2
  mu := fun j k p h1 h2 => R.mu j k p (mut_any h1).2 (mut_any h2).2
  new := fun j p h => R.new j p (mut_any h).2
  newO := fun j p xs h1 h2 => by
    obtain ⟨q1, q2⟩ := sl_none_of h2
    rw [none_ne q1] at h1
    exact R.newO j p xs h1 q2
  bx := R.bx
  bu := fun j p h => R.bu j p (box_any h).2
  b1 := fun j k p q h1 h2 => R.b1 j k p q (box_any h1).2 (box_any h2).2
  fo := R.fo
  bo := R.bo
  len := by rw [List.length_set, List.length_set]; exact R.len
  nm := fun j c p q h1 h2 => by
    obtain ⟨q1, q2⟩ := sl_none_of h1
    exact R.nm j c p q q2 (mut_any h2).2
end
abbrev Tb := List (Addr × Str)
abbrev XFn := DV → List Mu → Nat → Prop
abbrev EFn := Str → Option (Str × D) → List Mu → Nat → Prop
abbrev DSpF := List DV → Nat → XFn → EFn → Prop
def dRetM (ms : List Addr) (i : Nat) : DTS := fun E ds => ∃ c p, ds.sl[i]? = some (some (.mu c p)) ∧ (∀ q ∈ ms, ∃ j c' p', j ≠ i ∧ ds.sl[j]? = some (some (.mu c' p')) ∧ (q = p' ∨ q ∈ innM c')) ∧ E.rt (.mu c p) ds
def dRetT (te : DTE) : DTS := fun E ds => te ds fun x ds1 => match x with
  | .mu c p => E.rt (.mu c p) ds1
  | _ => False
section
variable {X : Cx} {F : Fx} {e : Expr} {te : DTE} {pos : Pos} {i : Nat} {ms : List Addr}
theorem ds_retM (hm : ∀ q ∈ F.M, q ∈ ms) (hv : PE X e (tVar i)) : DSt X F (.Return (some e) pos) (dRetM ms i) := PS_imp (ps_ret hv) fun D σ H ⟨O, ds, E, R, ⟨c, p, e0, hh, ht⟩, k⟩ => by
  obtain ⟨v, ev, rv⟩ := R.sl i _ e0
  obtain ⟨rfl, hO, m⟩ := rv
  refine ⟨_, ev, ?_⟩
  have mi : ∀ q, q = p ∨ q ∈ innM c → MutAt σ ds i q := fun q hq => R.mutP e0 hq
  refine k.rt O ds σ H _ (.mu c p) HS.refl R ⟨rfl, fun q hq => ⟨?_, R.mutO (mi q hq)⟩, m⟩ ht
  rcases R.nm i c p q e0 (mi q hq) with z | z
  · exact z
  · exfalso
    obtain ⟨j, c', p', nj, ej, hj⟩ := hh q (hm q z)
    exact nj (R.mu j i q (R.mutP ej hj) (mi q hq))
theorem ds_retT (he : DE X F e te) : DSt X F (.Return (some e) pos) (dRetT te) := PS_imp (ps_ret he) fun D σ H ⟨O, ds, E, R, ht, k⟩ =>
  ⟨O, ds, _, R, ht, fun x ds1 v H1 O1 s1 R1 rx hx => by
    cases x with
    | mu c p =>
      obtain ⟨ev, h1, h2⟩ := rx
      exact k.rt O1 ds1 σ H1 v (.mu c p) (s1.hs R) R1 ⟨ev, fun q hq => ⟨(h1 q hq).2.2, (h1 q hq).1⟩, h2⟩ hx
    | d x => exact hx.elim
    | own x => exact hx.elim
    | box => exact hx.elim
    | slot j => exact hx.elim
    | exc a b => exact hx.elim
    | fd c => exact hx.elim⟩
end
def UpM (c : Mu) : Prop := ∀ (K : Fg) (H : Hp) (O O' : List Addr) (p : Addr), MuAt K H O p c → MuAt K H O' p c
def UpDV : DV → Prop
  | .d x => flat x = true
  | .own xs => flatL xs = true
  | .box => True
  | .mu c _ => UpM c
  | _ => False
def FzM (c : Mu) (x : D) : Prop := ∀ (K : Fg) (H : Hp) (O O' : List Addr) (p : Addr), LO O H → (∀ q ∈ O', q ∈ O) → (∀ q, q = p ∨ q ∈ innM c → q ∉ O') → MuAt K H O p c → Rp K H O' (.ref p) x
def FzD : DV → D → Prop
  | .own xs, x => x = .list xs
  | .mu c _, x => FzM c x
  | _, _ => False
def SafeB (o : Option (Option DV)) (dv : DV) : Prop := (o = some (some dv) ∧ ¬ isMut dv) ∨ UpDV dv ∨ ∃ ys xs, o = some (some (.own ys)) ∧ dv = .d (.list xs) ∧ flatL xs = true
def UpV : DV → Prop
  | .d x => flat x = true
  | .own xs => flatL xs = true
  | .mu c _ => UpM c
  | _ => False
section
variable {K : Fg} {F : Fx} {H H1 : Hp} {O O1 : List Addr} {σ : St} {ds ds1 : DS} {i : Nat} {dv : DV} {x : D}
open Classical in
noncomputable def cutO (σ : St) (ds : DS) (i : Nat) (O : List Addr) : List Addr := O.filter fun q => decide (¬ MutAt σ ds i q)
open Classical in
noncomputable def ownO (σ : St) (ds : DS) (i : Nat) (O : List Addr) : List Addr := O.filter fun q => decide (MutAt σ ds i q)
open Classical in
theorem mem_cutO {q : Addr} : q ∈ cutO σ ds i O ↔ q ∈ O ∧ ¬ MutAt σ ds i q := by unfold cutO; rw [List.mem_filter]; exact ⟨fun h => ⟨h.1, of_decide_eq_true h.2⟩, fun h => ⟨h.1, decide_eq_true h.2⟩⟩
open Classical in
theorem mem_ownO {q : Addr} : q ∈ ownO σ ds i O ↔ q ∈ O ∧ MutAt σ ds i q := by unfold ownO; rw [List.mem_filter]; exact ⟨fun h => ⟨h.1, of_decide_eq_true h.2⟩, fun h => ⟨h.1, decide_eq_true h.2⟩⟩
theorem get_set {j : Nat} {a : Option DV} {dv : DV} (h : (ds.sl.set i a)[j]? = some (some dv)) : (i = j ∧ a = some dv) ∨ (i ≠ j ∧ ds.sl[j]? = some (some dv)) := by
  by_cases e : i = j
  · subst e
    rw [List.getElem?_set] at h
    simp only [if_true] at h
    split at h
    · exact .inl ⟨rfl, Option.some.inj h⟩
    · cases h
  · rw [List.getElem?_set_ne e] at h; exact .inr ⟨e, h⟩
theorem mut_cut {j : Nat} {q : Addr} (h : MutAt σ ⟨ds.sl.set i (some (.d x)), ds.n⟩ j q) : i ≠ j ∧ MutAt σ ds j q := by
  obtain ⟨r, h1, dv, h2, h3, h4⟩ := h
  rcases get_set h2 with ⟨_, e⟩ | ⟨e1, e2⟩
  · cases e; exact h3.elim
  · exact ⟨e1, r, h1, dv, e2, h3, h4⟩
theorem box_cut {j : Nat} {q : Addr} (h : BoxS σ ⟨ds.sl.set i (some (.d x)), ds.n⟩ j q) : BoxS σ ds j q := by
  obtain ⟨h1, h2⟩ := h
  rcases get_set h2 with ⟨_, e⟩ | ⟨e1, e2⟩
  · cases e
  · exact ⟨h1, e2⟩
theorem Rep.cut (R : Rep K F H O σ ds) (hi : ds.sl[i]? = some (some dv)) (fz : FzD dv x) (hF : ∀ q, MutAt σ ds i q → q ∉ F.O) : Rep K F H (cutO σ ds i O) σ ⟨ds.sl.set i (some (.d x)), ds.n⟩ := by
  have sub : ∀ q ∈ cutO σ ds i O, q ∈ O := fun q h => (mem_cutO.mp h).1
  have oth : ∀ {j : Nat} {q : Addr}, i ≠ j → MutAt σ ds j q → q ∈ cutO σ ds i O := fun e h => mem_cutO.mpr ⟨R.mutO h, fun z => e (R.mu _ _ _ z h)⟩
  refine ⟨fun q hq => R.lo q (sub q hq), fun q hq => mem_cutO.mpr ⟨R.sub q hq, fun z => hF q z hq⟩, R.ext, fun j dv' h => ?_, fun j l q a b => R.mu j l q (mut_cut a).2 (mut_cut b).2, fun j q a => R.new j q (mut_cut a).2, fun j q ys a b => ?_, R.bx, fun j q a => R.bu j q (box_cut a), fun j l q q' a b => R.b1 j l q q' (box_cut a) (box_cut b), R.fo, R.bo, by rw [List.length_set]; exact R.len, fun j c a q h hm => ?_⟩
  · rcases get_set h with ⟨rfl, e⟩ | ⟨e1, e2⟩
    · cases e
      obtain ⟨v, ev, rv⟩ := R.sl i dv hi
      refine ⟨v, ev, ?_⟩
      cases dv with
      | own xs =>
        obtain ⟨p, vs, e, h1, h2, h3⟩ := rv
        subst e
        cases (show x = .list xs from fz)
        have mp : MutAt σ ds i p := mutAt ev hi trivial
        exact .lst ⟨h2, fun z => (mem_cutO.mp z).2 mp⟩ (RpL.less R.lo sub h3)
      | mu c p =>
        obtain ⟨e, h1, h2⟩ := rv
        subst e
        exact fz K H O _ p R.lo sub (fun q hq z => (mem_cutO.mp z).2 (R.mutP hi hq)) h2
      | d y => exact fz.elim
      | box => exact fz.elim
      | slot y => exact fz.elim
      | exc a b => exact fz.elim
      | fd c => exact fz.elim
    · obtain ⟨v, ev, rv⟩ := R.sl j dv' e2
      refine ⟨v, ev, ?_⟩
      cases dv' with
      | d y => exact Rp.less R.lo sub rv
      | own xs =>
        obtain ⟨p, vs, e, h1, h2, h3⟩ := rv
        subst e
        exact ⟨p, vs, rfl, oth e1 (mutAt ev e2 trivial), h2, RpL.less R.lo sub h3⟩
      | box =>
        obtain ⟨p, e, h1, h2⟩ := rv
        subst e
        exact ⟨p, rfl, oth e1 (mutAt ev e2 trivial), h2⟩
      | mu c p =>
        obtain ⟨e, h1, h2⟩ := rv
        subst e
        exact ⟨rfl, fun q hq => oth e1 (R.mutP e2 hq), h2.less R.lo sub⟩
      | slot y => exact rv.elim
      | exc a b => exact ExS.less R.lo sub rv
      | fd c => exact FdS.less R.lo sub rv
  · rcases get_set b with ⟨_, e⟩ | ⟨e1, e2⟩
    · cases e
    · exact R.newO j q ys a e2
  · rcases get_set h with ⟨_, e⟩ | ⟨e1, e2⟩
    · cases e
    · exact R.nm j c a q e2 (mut_cut hm).2
theorem Rep.back (R : Rep K F H O σ ds) (hi : ds.sl[i]? = some (some dv)) (fz : FzD dv x) (s : Step σ H (cutO σ ds i O) ⟨ds.sl.set i (some (.d x)), ds.n⟩ H1 O1 ds1) (R1 : Rep K F H1 O1 σ ds1)
    (sf : ∀ (j : Nat) (d2 : DV), i ≠ j → ds1.sl[j]? = some (some d2) → SafeB ds.sl[j]? d2) :
    Rep K F H1 (O1 ++ ownO σ ds i O) σ ⟨ds1.sl.set i (some dv), ds1.n⟩ ∧ Step σ H O ds H1 (O1 ++ ownO σ ds i O) ⟨ds1.sl.set i (some dv), ds1.n⟩ := by
  have hil : i < ds1.sl.length := by
    obtain ⟨d2, e⟩ := s.sl i (.d x) (by show (ds.sl.set i _)[i]? = _; rw [List.getElem?_set_self (List.getElem?_eq_some_iff.mp hi).1])
    exact (List.getElem?_eq_some_iff.mp e).1
  have cs : ∀ q ∈ cutO σ ds i O, q ∈ O := fun q h => (mem_cutO.mp h).1
  have kO : Keep O H H1 := fun a o h n => s.kp a o h fun j z => n (R.mutO (mut_cut z).2)
  have gO : Grow O (O1 ++ ownO σ ds i O) H := fun q hq => by
    rcases List.mem_append.mp hq with z | z
    · rcases s.o1 q z with w | w
      · exact .inl (cs q w)
      · exact .inr w
    · exact .inl (mem_ownO.mp z).1
  have own_kp : ∀ q, MutAt σ ds i q → ∀ o, H q = some o → H1 q = some o := fun q hq o h => s.kp q o h fun j z => (mut_cut z).1 (R.mu i j q hq (mut_cut z).2)
  have own_in : ∀ q, MutAt σ ds i q → q ∈ O1 ++ ownO σ ds i O := fun q hq => List.mem_append.mpr (.inr (mem_ownO.mpr ⟨R.mutO hq, hq⟩))
  have in1 : ∀ q ∈ O1, q ∈ O1 ++ ownO σ ds i O := fun q h => List.mem_append.mpr (.inl h)
  have mj : ∀ {j : Nat} {q : Addr}, MutAt σ ⟨ds1.sl.set i (some dv), ds1.n⟩ j q → MutAt σ ds j q := fun {j q} h => by
    obtain ⟨r, h1, d2, h2, h3, h4⟩ := h
    rcases get_set h2 with ⟨e, e'⟩ | ⟨e1, e2⟩
    · cases e'; subst e; exact ⟨r, h1, dv, hi, h3, h4⟩
    · exact (mut_cut (s.mu j q ⟨r, h1, d2, e2, h3, h4⟩)).2
  have bj : ∀ {j : Nat} {q : Addr}, BoxS σ ⟨ds1.sl.set i (some dv), ds1.n⟩ j q → BoxS σ ds j q := fun {j q} h => by
    obtain ⟨h1, h2⟩ := h
    rcases get_set h2 with ⟨e, e'⟩ | ⟨e1, e2⟩
    · cases e'; exact fz.elim
    · exact box_cut (s.bx j q ⟨h1, e2⟩)
  have lo1 : LO (O1 ++ ownO σ ds i O) H1 := fun q hq => by
    rcases List.mem_append.mp hq with z | z
    · exact R1.lo q z
    · obtain ⟨a, b⟩ := mem_ownO.mp z
      obtain ⟨o, e, k⟩ := R.lo q a
      exact ⟨o, own_kp q b o e, k⟩
  refine ⟨⟨lo1, fun q hq => in1 q (R1.sub q hq), R1.ext, fun j d2 h => ?_, fun j l q a b => R.mu j l q (mj a) (mj b), fun j q a => R.new j q (mj a), fun j q ys a b => ?_, R1.bx, fun j q a => R.bu j q (bj a), fun j l q q' a b => R.b1 j l q q' (bj a) (bj b), R.fo, R.bo, by rw [List.length_set]; exact R1.len, fun j c a q h hm => ?_⟩, ⟨gO, fun q hq hn => in1 q (s.o2 q (mem_cutO.mpr ⟨hq, hn i⟩) fun j z => hn j (mut_cut z).2), fun a o h hn => s.kp a o h fun j z => hn j (mut_cut z).2, s.dm, fun j d2 h => ?_, fun j q h => mj h, fun j q h => bj h⟩⟩
  · rcases get_set h with ⟨rfl, e⟩ | ⟨e1, e2⟩
    · cases e
      obtain ⟨v, ev, rv⟩ := R.sl i dv hi
      refine ⟨v, ev, ?_⟩
      cases dv with
      | own xs =>
        obtain ⟨p, vs, e, h1, h2, h3⟩ := rv
        subst e
        have mp : MutAt σ ds i p := mutAt ev hi trivial
        exact ⟨p, vs, rfl, own_in p mp, own_kp p mp _ h2, RpL.mv R.lo kO gO h3⟩
      | mu c p =>
        obtain ⟨e, h1, h2⟩ := rv
        subst e
        exact ⟨rfl, fun q hq => own_in q (R.mutP hi hq), MuAt.mv R.lo kO gO (fun q hq o ho => own_kp q (R.mutP hi hq) o ho) h2⟩
      | d y => exact fz.elim
      | box => exact fz.elim
      | slot y => exact fz.elim
      | exc a b => exact fz.elim
      | fd c => exact fz.elim
    · obtain ⟨v, ev, rv⟩ := R1.sl j d2 e2
      refine ⟨v, ev, ?_⟩
      rcases sf j d2 e1 e2 with ⟨a, b⟩ | a | ⟨ys, xs, a, rfl, f⟩
      · obtain ⟨v', ev', rv'⟩ := R.sl j d2 a
        rw [ev] at ev'; cases ev'
        cases d2 with
        | d y => exact Rp.mv R.lo kO gO rv'
        | own xs => exact (b trivial).elim
        | box => exact (b trivial).elim
        | mu c p => exact (b trivial).elim
        | slot y => exact rv'.elim
        | exc a b => exact ExS.mv R.lo kO gO rv'
        | fd c => exact FdS.mv R.lo kO gO rv'
      · cases d2 with
        | d y => exact Rp.flat rv a
        | own xs =>
          obtain ⟨q, us, e, a1, a2, a3⟩ := rv
          exact ⟨q, us, e, in1 q a1, a2, RpL.flat a3 a⟩
        | box =>
          obtain ⟨q, e, a1, a2⟩ := rv
          exact ⟨q, e, in1 q a1, a2⟩
        | mu c p =>
          obtain ⟨e, a1, a2⟩ := rv
          exact ⟨e, fun q hq => in1 q (a1 q hq), a K H1 O1 _ p a2⟩
        | slot y => exact a.elim
        | exc a' b => exact a.elim
        | fd c => exact a.elim
      · obtain ⟨v', ev', q, us, e, a1, a2, a3⟩ := R.sl j _ a
        rw [ev] at ev'; cases ev'
        subst e
        have rv : Rp K H1 O1 (.ref q) (.list xs) := rv
        cases rv with
        | @lst _ vs _ hl rl =>
          refine .lst ⟨hl.1, fun z => ?_⟩ (RpL.flat rl f)
          rcases List.mem_append.mp z with w | w
          · exact hl.2 w
          · exact e1 (R.mu i j q (mem_ownO.mp w).2 (mutAt ev a trivial))
  · rcases get_set b with ⟨e, e'⟩ | ⟨e1, e2⟩
    · cases e'; subst e; exact R.newO i q ys a hi
    · exact R1.newO j q ys a e2
  · rcases get_set h with ⟨e, e'⟩ | ⟨e1, e2⟩
    · cases e'; subst e; exact R.nm i c a q hi (mj hm)
    · have hm' : MutAt σ ds1 j q := by
        obtain ⟨r, h1, d3, h2, h3, h4⟩ := hm
        rcases get_set h2 with ⟨z, _⟩ | ⟨_, z⟩
        · exact absurd z e1
        · exact ⟨r, h1, d3, z, h3, h4⟩
      exact R1.nm j c a q e2 hm'
  · by_cases e : i = j
    · subst e; exact ⟨dv, by show (ds1.sl.set i _)[i]? = _; rw [List.getElem?_set_self hil]⟩
    · obtain ⟨d3, e3⟩ := s.sl j d2 (by show (ds.sl.set i _)[j]? = _; rw [List.getElem?_set_ne e]; exact h)
      exact ⟨d3, by show (ds1.sl.set i _)[j]? = _; rw [List.getElem?_set_ne e]; exact e3⟩
theorem rpv_back {v : V} {r : DV} (R : Rep K F H O σ ds) (s : Step σ H (cutO σ ds i O) ⟨ds.sl.set i (some (.d x)), ds.n⟩ H1 O1 ds1) (h : RpV K F H1 (cutO σ ds i O) O1 σ ds1 v r) (u : UpV r) : RpV K F H1 O (O1 ++ ownO σ ds i O) σ ⟨ds1.sl.set i (some dv), ds1.n⟩ v r := by
  have no : ∀ q, q ∈ O1 → q ∉ cutO σ ds i O → q ∉ O := fun q h1 h2 z => by
    rcases s.o1 q h1 with w | w
    · exact h2 w
    · obtain ⟨o, e, _⟩ := R.lo q z
      rw [w] at e; cases e
  cases r with
  | d y => exact Rp.flat h u
  | own xs =>
    obtain ⟨p, vs, e, h1, h2, h3, h4, h5⟩ := h
    exact ⟨p, vs, e, List.mem_append.mpr (.inl h1), no p h1 h2, h3, h4, RpL.flat h5 u⟩
  | box => exact u.elim
  | mu c p =>
    obtain ⟨e, h1, h2⟩ := h
    exact ⟨e, fun q hq => ⟨List.mem_append.mpr (.inl (h1 q hq).1), no q (h1 q hq).1 (h1 q hq).2.1, (h1 q hq).2.2⟩, u K H1 O1 _ p h2⟩
  | slot j => exact u.elim
  | exc a b => exact u.elim
  | fd c => exact u.elim
end
def borP (ms : List Addr) (i : Nat) (dv : DV) (x : D) (ds : DS) : Prop := FzD dv x ∧ ∀ q ∈ ms, ∃ (j : Nat) (c' : Mu) (p' : Addr), j ≠ i ∧ ds.sl[j]? = some (some (.mu c' p')) ∧ (q = p' ∨ q ∈ innM c')
def borE (i : Nat) (dv : DV) (ds ds1 : DS) (P : DS → Prop) : Prop := (∀ (j : Nat) (d2 : DV), i ≠ j → ds1.sl[j]? = some (some d2) → SafeB ds.sl[j]? d2) ∧ P ⟨ds1.sl.set i (some dv), ds1.n⟩
def dBor (ms : List Addr) (i : Nat) (te : DTE) : DTE := fun ds Q => ∃ dv x, ds.sl[i]? = some (some dv) ∧ borP ms i dv x ds ∧ te ⟨ds.sl.set i (some (.d x)), ds.n⟩ fun r ds1 => UpV r ∧ borE i dv ds ds1 (Q r)
def dBorT (ms : List Addr) (i : Nat) (tt : DTT) : DTT := fun ds Q => ∃ dv x, ds.sl[i]? = some (some dv) ∧ borP ms i dv x ds ∧ tt ⟨ds.sl.set i (some (.d x)), ds.n⟩ fun b ds1 => borE i dv ds ds1 (Q b)
section
variable {X : Cx} {F : Fx} {e : Expr} {te : DTE} {tt : DTT} {ms : List Addr} {i : Nat}
theorem bor_F {K : Fg} {H : Hp} {O : List Addr} {σ : St} {ds : DS} {dv : DV} {x : D} (R : Rep K F H O σ ds) (hm : ∀ q ∈ F.M, q ∈ ms) (hi : ds.sl[i]? = some (some dv)) (b : borP ms i dv x ds) : ∀ q, MutAt σ ds i q → q ∉ F.O := fun q hq z => by
  obtain ⟨fz, b2⟩ := b
  have nh := R.fo q z
  cases dv with
  | own xs =>
    obtain ⟨r, h1, d2, h2, h3, h4⟩ := hq
    rw [hi] at h2; cases h2
    rcases h4 with rfl | h4
    · exact nh (R.newO i q xs h1 hi)
    · cases h4
  | mu c p =>
    rcases R.nm i c p q hi hq with w | w
    · exact nh w
    · obtain ⟨j, c', p', nj, ej, hj⟩ := b2 q (hm q w)
      exact nj (R.mu j i q (R.mutP ej hj) hq)
  | d y => exact fz.elim
  | box => exact fz.elim
  | slot y => exact fz.elim
  | exc a b => exact fz.elim
  | fd c => exact fz.elim
theorem de_bor (hm : ∀ q ∈ F.M, q ∈ ms) (h : DE X F e te) : DE X F e (dBor ms i te) := PE_imp h fun σ H Q ⟨O, ds, Qa, R, ⟨dv, x, hi, b, ht⟩, hq⟩ =>
  ⟨_, _, _, R.cut hi b.1 (bor_F R hm hi b), ht, fun r ds1 v H1 O1 s1 R1 rx hx => by
    obtain ⟨u, sf, hx⟩ := hx
    obtain ⟨R2, s2⟩ := R.back hi b.1 s1 R1 sf
    exact hq r _ v H1 _ s2 R2 (rpv_back R s1 rx u) hx⟩
theorem dt_bor (hm : ∀ q ∈ F.M, q ∈ ms) (h : DT X F e tt) : DT X F e (dBorT ms i tt) := PT_imp h fun σ H Q ⟨O, ds, Qa, R, ⟨dv, x, hi, b, ht⟩, hq⟩ =>
  ⟨_, _, _, R.cut hi b.1 (bor_F R hm hi b), ht, fun r ds1 H1 O1 s1 R1 hx => by
    obtain ⟨sf, hx⟩ := hx
    obtain ⟨R2, s2⟩ := R.back hi b.1 s1 R1 sf
    exact hq r _ H1 _ s2 R2 hx⟩
end
def innV : List Fv → List Addr
  | [] => []
  | x :: xs => innF x ++ innV xs
theorem innV_app {a b : List Fv} : innV (a ++ b) = innV a ++ innV b := by
  induction a with
  | nil => rfl
  | cons x a ih => show innF x ++ innV (a ++ b) = (innF x ++ innV a) ++ innV b; rw [ih, List.append_assoc]
theorem innV_one {x : Fv} : innV [x] = innF x := List.append_nil _
inductive FvL (K : Fg) (H : Hp) (O : List Addr) : List V → List Fv → Prop
  | nil : FvL K H O [] []
  | cons {v : V} {x : Fv} {vs : List V} {xs : List Fv} : FvAt K H O v x → FvL K H O vs xs → FvL K H O (v :: vs) (x :: xs)
section
variable {K : Fg} {H H' : Hp} {O O' : List Addr}
theorem FvL.len {vs : List V} {xs : List Fv} (h : FvL K H O vs xs) : vs.length = xs.length := by
  induction h with
  | nil => rfl
  | cons _ _ ih => rw [List.length_cons, List.length_cons, ih]
theorem FvL.mv (lo : LO O H) (k : Keep O H H') (g : Grow O O' H) {vs : List V} {xs : List Fv} (h : FvL K H O vs xs) : (∀ q ∈ innV xs, ∀ o, H q = some o → H' q = some o) → FvL K H' O' vs xs := by
  induction h with
  | nil => intro _; exact .nil
  | cons a _ ih => intro hp; exact .cons (a.mv lo k g fun q hq => hp q (List.mem_append.mpr (.inl hq))) (ih fun q hq => hp q (List.mem_append.mpr (.inr hq)))
theorem FvAt.less (hl : ∀ q ∈ O', q ∈ O) {v : V} {x : Fv} (a : FvAt K H O v x) : FvAt K H O' v x := by
  cases x with
  | d x => exact Rp.lessF hl a
  | own c q => exact ⟨a.1, a.2.lessA hl⟩
theorem FvL.less (hl : ∀ q ∈ O', q ∈ O) {vs : List V} {xs : List Fv} (h : FvL K H O vs xs) : FvL K H O' vs xs := by
  induction h with
  | nil => exact .nil
  | cons a _ ih => exact .cons (a.less hl) ih
theorem FvL.pr {vs : List V} {xs : List Fv} (h : FvL K H O vs xs) : ∀ q ∈ innV xs, ∃ o, H q = some o ∧ prt o = true := by
  induction h with
  | nil => intro q hq; cases hq
  | @cons v x vs xs a _ ih =>
    intro q hq
    rcases List.mem_append.mp hq with z | z
    · cases x with
      | d x => cases z
      | own c u => exact a.2.prtA (List.mem_cons.mp z)
    · exact ih q z
theorem FvL.snoc {vs : List V} {xs : List Fv} {v : V} {x : Fv} (h : FvL K H O vs xs) (a : FvAt K H O v x) : FvL K H O (vs ++ [v]) (xs ++ [x]) := by
  induction h with
  | nil => exact .cons a .nil
  | cons b _ ih => exact .cons b ih
end
def tlAt (xs : List Fv) (K : Fg) (H : Hp) (O : List Addr) (p : Addr) : Prop := (∃ vs, H p = some (.lst vs) ∧ FvL K H O vs xs) ∧ (p :: innV xs).Nodup
def tlA (xs : List Fv) : Ab where
  inn := innV xs
  at_ := tlAt xs
  mv := fun lo k g hp ⟨⟨vs, h1, h2⟩, nd⟩ => ⟨⟨vs, hp _ (.inl rfl) _ h1, h2.mv lo k g fun q hq => hp q (.inr hq)⟩, nd⟩
  less := fun h ⟨⟨vs, h1, h2⟩, nd⟩ => ⟨⟨vs, h1, h2.less h⟩, nd⟩
  nd := fun h => h.2
  pr := fun ⟨⟨vs, h1, h2⟩, nd⟩ q hq => by
    rcases hq with rfl | hq
    · exact ⟨_, h1, rfl⟩
    · exact h2.pr q hq
abbrev mtl (xs : List Fv) : Mu := .ab (tlA xs)
def FzF : Fv → D → Prop
  | .d x, y => y = x
  | .own c _, y => FzM c y
inductive FzL : List Fv → List D → Prop
  | nil : FzL [] []
  | cons {x : Fv} {y : D} {xs : List Fv} {ys : List D} : FzF x y → FzL xs ys → FzL (x :: xs) (y :: ys)
theorem fz_lst {xs : List D} : FzM (.lst xs) (.list xs) := fun K H O O' p lo sub no ⟨es, h1, h2⟩ => .lst ⟨h1, no p (.inl rfl)⟩ (RpL.less lo sub h2)
theorem fzl_rp {xs : List Fv} {ys : List D} (z : FzL xs ys) {K : Fg} {H : Hp} {O O' : List Addr} (lo : LO O H) (sub : ∀ q ∈ O', q ∈ O) : ∀ {vs : List V}, (∀ q ∈ innV xs, q ∉ O') → FvL K H O vs xs → RpL K H O' vs ys := by
  induction z with
  | nil => intro vs no h; cases h; exact .nil
  | @cons x y xs ys a _ ih =>
    intro vs no h
    cases h with
    | @cons v _ vs _ b r =>
      refine .cons ?_ (ih (fun q hq => no q (List.mem_append.mpr (.inr hq))) r)
      cases x with
      | d x => cases (show y = x from a); exact Rp.less lo sub b
      | own c k =>
        obtain ⟨e, m⟩ := b
        subst e
        exact a K H O O' k lo sub (fun q hq => no q (List.mem_append.mpr (.inl (List.mem_cons.mpr hq)))) m
theorem fz_mtl {xs : List Fv} {ys : List D} (z : FzL xs ys) : FzM (mtl xs) (.list ys) := fun K H O O' p lo sub no ⟨⟨vs, h1, h2⟩, nd⟩ =>
  .lst ⟨h1, no p (.inl rfl)⟩ (fzl_rp z lo sub (fun q hq => no q (.inr hq)) h2)
theorem up_lst {xs : List D} (h : flatL xs = true) : UpM (.lst xs) := fun K H O O' p ⟨es, h1, h2⟩ => ⟨es, h1, RpL.flat h2 h⟩
def UpF : Fv → Prop
  | .d x => flat x = true
  | .own c _ => UpM c
theorem FvL.up {K : Fg} {H : Hp} {O O' : List Addr} {vs : List V} {xs : List Fv} (h : FvL K H O vs xs) : (∀ x ∈ xs, UpF x) → FvL K H O' vs xs := by
  induction h with
  | nil => intro _; exact .nil
  | @cons v x vs xs a _ ih =>
    intro hu
    refine .cons ?_ (ih fun y hy => hu y (List.mem_cons_of_mem _ hy))
    have := hu x List.mem_cons_self
    cases x with
    | d x => exact Rp.flat a this
    | own c k => exact ⟨a.1, this K H O O' k a.2⟩
theorem up_mtl {xs : List Fv} (h : ∀ x ∈ xs, UpF x) : UpM (mtl xs) := fun K H O O' p ⟨⟨vs, h1, h2⟩, nd⟩ => ⟨⟨vs, h1, h2.up h⟩, nd⟩
def itP (P : Fv → Prop) : DV → Prop
  | .d x => P (.d x)
  | .own xs => ∀ k, P (.own (.lst xs) k)
  | .mu c k => P (.own c k)
  | _ => False
def dLcV (w : DTI) (g : DTG) (tt : DTT) (te : DTE) (vs : List Nat) : DTE := fun ds Q => w ds fun its ds1 => match noBox ds1.sl vs with
  | false => False
  | true => ∃ P : Nat → List Fv → DS → Prop, P 0 [] ⟨wipeD ds1.sl vs, ds1.n⟩ ∧
    (∀ (i : Nat) d acc ds2, its[i]? = some d → P i acc ds2 → g d ds2 fun ds3 => tt ds3 fun b ds4 => match b with
      | true => te ds4 fun y ds5 => itP (fun f => P (i + 1) (acc ++ [f]) ⟨wipeD ds5.sl vs, ds5.n⟩) y
      | false => P (i + 1) acc ⟨wipeD ds4.sl vs, ds4.n⟩) ∧
    ∀ acc ds2, P its.length acc ds2 → ∀ D, Q (.mu (mtl acc) D) ⟨restD ds2.sl ds1.sl vs, ds2.n⟩
theorem it_at {K : Fg} {F : Fx} {H : Hp} {O O' : List Addr} {σ : St} {ds : DS} {v : V} {y : DV} {P : Fv → Prop} (h : RpV K F H O O' σ ds v y) (hp : itP P y) : ∃ f, P f ∧ FvAt K H O' v f ∧ (∀ q ∈ innF f, q ∈ O' ∧ q ∉ O ∧ F.Hin q = none) ∧ (innF f).Nodup := by
  cases y with
  | d x => exact ⟨.d x, hp, h, (fun q hq => by cases hq), List.nodup_nil⟩
  | own xs =>
    obtain ⟨p, vs, e, h1, h2, h3, h4, h5⟩ := h
    refine ⟨.own (.lst xs) p, hp p, ⟨e, vs, h4, h5⟩, fun q hq => ?_, List.nodup_cons.mpr ⟨List.not_mem_nil, List.nodup_nil⟩⟩
    rw [List.mem_singleton.mp hq]
    exact ⟨h1, h2, h3⟩
  | mu c k =>
    obtain ⟨e, h1, h2⟩ := h
    exact ⟨.own c k, hp, ⟨e, h2⟩, fun q hq => h1 q (List.mem_cons.mp hq), h2.nd⟩
  | box => exact hp.elim
  | slot j => exact hp.elim
  | exc a b => exact hp.elim
  | fd c => exact hp.elim
section
variable {X : Cx} {F : Fx} {tg it elt : Expr} {pos : Pos}
structure NewV (K : Fg) (F : Fx) (H1 : Hp) (H : Hp) (O : List Addr) (σ : St) (ds : DS) (D : Addr) (ws : List V) (acc : List Fv) : Prop where
  at_ : FvL K H O ws acc
  nd : (D :: innV acc).Nodup
  o : ∀ q ∈ innV acc, q ∈ O
  h : ∀ q ∈ innV acc, F.Hin q = none
  n : ∀ q ∈ innV acc, H1 q = none
  m : ∀ q ∈ innV acc, ∀ j, ¬ MutAt σ ds j q
theorem NewV.mv {K : Fg} {H1 H H' : Hp} {O O' : List Addr} {σ σ' : St} {ds ds' : DS} {D : Addr} {ws : List V} {acc : List Fv} (N : NewV K F H1 H O σ ds D ws acc) (lo : LO O H) (kp : Keep O H H') (g : Grow O O' H) (hk : ∀ q ∈ innV acc, ∀ o, H q = some o → H' q = some o) (ho : ∀ q ∈ innV acc, q ∈ O') (hm : ∀ q ∈ innV acc, ∀ j, ¬ MutAt σ' ds' j q) : NewV K F H1 H' O' σ' ds' D ws acc :=
  ⟨N.at_.mv lo kp g hk, N.nd, ho, N.h, N.n, hm⟩
theorem lcV_lift {s : Bool} {T : List Nat} {w : DTI} {g : DTG} {tt : DTT} {te : DTE} {vs : List Nat} {K : Fg} (hT : ∀ i ∈ T, i ∈ vs) {σ : St} {H : Hp} {Q : VK} (h : lift K F (dLcV w g tt te vs) σ H Q) :
    tLc (liftI s K F w) (liftG s T K F g) (liftT K F tt) (lift K F te) vs σ H Q := by
  obtain ⟨O, ds, Qa, R, ht, hq⟩ := h
  unfold dLcV at ht
  refine ⟨O, ds, _, R, ht, fun its ds1 H1 O1 J s1 R1 io hx => ?_⟩
  intro D hD
  split at hx
  · exact hx.elim
  rename_i hbx
  obtain ⟨P, p0, turn, fin⟩ := hx
  have hDin := R1.hin hD
  have wl : (wipe σ vs).length = σ.length := wipe_length σ vs
  have wo : ∀ i : Nat, i ∉ vs → (wipe σ vs)[i]? = σ[i]? := fun i hi => wipe_out hi
  have sm := same_new (o := .lst []) hD
  have gr := grow_new (O := O1) hD
  have sub : ∀ q ∈ O1, q ∈ D :: O1 := fun q h => List.mem_cons_of_mem _ h
  have R1' := R1.grow sm gr sub (lo_new R1.lo hD)
  have Rw : Rep K F (upd H1 D (.lst [])) (D :: O1) (wipe σ vs) ⟨wipeD ds1.sl vs, ds1.n⟩ := R1'.fit vs wl wo
  have nD1 : ∀ j, ¬ MutAt σ ds1 j D := fun j hj => by
    obtain ⟨xs, e, _⟩ := R1.lo D (R1.mutO hj)
    rw [hD] at e; cases e
  have mw : ∀ j p, MutAt (wipe σ vs) ⟨wipeD ds1.sl vs, ds1.n⟩ j p → MutAt σ ds1 j p ∧ j ∉ vs := fun j p ⟨a0, a, dv, b, c, ce⟩ => by
    obtain ⟨b1, b2⟩ := wipeD_some b
    rw [wo j b2] at a
    exact ⟨⟨a0, a, dv, b1, c, ce⟩, b2⟩
  have nDw : ∀ j, ¬ MutAt (wipe σ vs) ⟨wipeD ds1.sl vs, ds1.n⟩ j D := fun j hj => nD1 j (mw j D hj).1
  have hs0 : HS O1 H1 (D :: O1) (upd H1 D (.lst [])) := (Step.grow (σ := σ) (ds := ds1) sm gr sub).hs R1
  refine ⟨fun i m H2 => m = its.length - i ∧ i ≤ its.length ∧ ∃ O2 ds2 ws acc, Step (wipe σ vs) (upd H1 D (.lst [])) (D :: O1) ⟨wipeD ds1.sl vs, ds1.n⟩ (upd H2 D (.lst [])) O2 ds2 ∧ HS O1 H1 O2 H2 ∧ Rep K F H2 O2 (wipe σ vs) ds2 ∧ H2 D = some (.lst ws) ∧ NewV K F (upd H1 D (.lst [])) H2 O2 (wipe σ vs) ds2 D ws acc ∧ acc.length ≤ i ∧ Clear vs ds2 ∧ P i acc ds2,
    ⟨its.length, by simp, Nat.zero_le _, D :: O1, _, [], [], by rw [upd_upd]; exact Step.refl, hs0, Rw, upd_same, ⟨.nil, List.nodup_cons.mpr ⟨List.not_mem_nil, List.nodup_nil⟩, fun q hq => absurd hq List.not_mem_nil, fun q hq => absurd hq List.not_mem_nil, fun q hq => absurd hq List.not_mem_nil, fun q hq => absurd hq List.not_mem_nil⟩, Nat.le_refl _, wipeD_clear _ _ _, p0⟩, ?_⟩
  rintro i m H2 ⟨rfl, hi, O2, ds2, ws, acc, st, a2, R2, eD, nw, hal, hcl, p2⟩
  have memD : D ∈ O2 := st.o2 D List.mem_cons_self nDw
  have nD2 : ∀ j, ¬ MutAt (wipe σ vs) ds2 j D := fun j hj => nDw j (st.mu j D hj)
  by_cases hlt : i < its.length
  · obtain ⟨go, yl⟩ := io.go H2 O2 R2.lo a2 i hlt
    refine .inr ⟨go, fun H' => ∃ O2 ds2 ws acc, Step (wipe σ vs) (upd H1 D (.lst [])) (D :: O1) ⟨wipeD ds1.sl vs, ds1.n⟩ (upd H' D (.lst [])) O2 ds2 ∧ HS O1 H1 O2 H' ∧ Rep K F H' O2 (wipe σ vs) ds2 ∧ H' D = some (.lst ws) ∧ NewV K F (upd H1 D (.lst [])) H' O2 (wipe σ vs) ds2 D ws acc ∧ acc.length ≤ i + 1 ∧ Clear vs ds2 ∧ P (i + 1) acc ds2,
      fun H' hN => ⟨its.length - (i + 1), by omega, rfl, hlt, hN⟩, fun x H3 hy => ?_⟩
    obtain ⟨d, ed, sm3, im⟩ := yl x H3 hy
    have R3 : Rep K F H3 O2 (wipe σ vs) ds2 := R2.grow sm3 grow_refl (fun _ h => h) (lo_same R2.lo sm3)
    have st3 : Step (wipe σ vs) H2 O2 ds2 H3 O2 ds2 := Step.grow sm3 grow_refl fun _ h => h
    have eD3 : H3 D = some (.lst ws) := sm3 _ _ eD
    refine ⟨O2, ds2, d, _, R3, im, turn i d acc ds2 ed p2, fun O4 ds4 σ4 tg4 R4 on4 h4 => ?_⟩
    have ag4 : ∀ j : Nat, j ∉ vs → σ4[j]? = (wipe σ vs)[j]? := fun j hj => on4.2 j fun z => hj (hT j z)
    have memD4 : D ∈ O4 := tg4.sub D memD
    have nD4 : ∀ j, ¬ MutAt σ4 ds4 j D := fun j hj => nD2 j (tg4.mu j D hj)
    refine ⟨wipe_eq (on4.1.trans wl) fun j hj => by rw [ag4 j hj, wo j hj], ?_⟩
    have bring : ∀ {H6 : Hp} {O6 : List Addr} {ds6 : DS}, Step σ4 H3 O4 ds4 H6 O6 ds6 → Rep K F H6 O6 σ4 ds6 →
        Step (wipe σ vs) (upd H1 D (.lst [])) (D :: O1) ⟨wipeD ds1.sl vs, ds1.n⟩ (upd H6 D (.lst [])) O6 ⟨wipeD ds6.sl vs, ds6.n⟩ ∧ HS O1 H1 O6 H6 ∧ Rep K F H6 O6 (wipe σ vs) ⟨wipeD ds6.sl vs, ds6.n⟩ ∧ H6 D = some (.lst ws) ∧ NewV K F (upd H1 D (.lst [])) H6 O6 (wipe σ vs) ⟨wipeD ds6.sl vs, ds6.n⟩ D ws acc ∧ D ∈ O6 ∧ ∀ j, ¬ MutAt (wipe σ vs) ⟨wipeD ds6.sl vs, ds6.n⟩ j D := by
      intro H6 O6 ds6 s6 R6
      have s46 : Step (wipe σ vs) H3 O4 ds2 H6 O6 ⟨wipeD ds6.sl vs, ds6.n⟩ := s6.fit ag4 hcl tg4.mu tg4.bx tg4.sl
      have sT : Step (wipe σ vs) H3 O2 ds2 H3 O4 ds2 := ⟨tg4.hs.gr, fun p hp _ => tg4.sub p hp, fun _ _ h _ => h, fun _ h => h, fun _ dv h => ⟨dv, h⟩, fun _ _ h => h, fun _ _ h => h⟩
      have s26 := (st3.trans sT).trans s46
      have R6w := R6.fit (σ' := wipe σ vs) vs (by rw [on4.1]) fun j hj => (ag4 j hj).symm
      have eD6 := s26.kp D _ eD nD2
      have m6 : D ∈ O6 := s6.o2 D memD4 nD4
      refine ⟨⟨fun p hp => ?_, fun p hp n => ?_, fun a o ha n => ?_, fun a ha => ?_, fun j dv hj => ?_, fun j p hj => st.mu j p (s26.mu j p hj), fun j p hj => st.bx j p (s26.bx j p hj)⟩, a2.trans (s26.hs R2), R6w, eD6, ?_, m6, fun j hj => nD2 j (s26.mu j D hj)⟩
      · rcases s26.o1 p hp with h | h
        · exact st.o1 p h
        · right
          cases e : upd H1 D (.lst []) p with
          | none => rfl
          | some o =>
            have q := st.dm p (by rw [e]; simp)
            by_cases z : p = D
            · subst z; rw [eD] at h; cases h
            · rw [upd_ne z] at q; exact absurd h q
      · exact s26.o2 p (st.o2 p hp n) fun j hj => n j (st.mu j p hj)
      · by_cases z : a = D
        · subst z; rw [upd_same] at ha ⊢; exact ha
        · have q := st.kp a o ha n
          rw [upd_ne z] at q ⊢
          exact s26.kp a o q fun j hj => n j (st.mu j a hj)
      · by_cases z : a = D
        · subst z; rw [upd_same]; simp
        · have q := st.dm a ha
          rw [upd_ne z] at q ⊢
          exact s26.dm a q
      · obtain ⟨dv1, e1⟩ := st.sl j dv hj
        exact s26.sl j dv1 e1
      · exact nw.mv R2.lo (s26.keepO R2) s26.o1 (fun q hq o ho => s26.kp q o ho (nw.m q hq)) (fun q hq => s26.o2 q (nw.o q hq) (nw.m q hq)) fun q hq j hj => nw.m q hq j (s26.mu j q hj)
    refine ⟨O4, ds4, fun b ds5 => match b with
      | true => te ds5 fun y ds6 => itP (fun f => P (i + 1) (acc ++ [f]) ⟨wipeD ds6.sl vs, ds6.n⟩) y
      | false => P (i + 1) acc ⟨wipeD ds5.sl vs, ds5.n⟩, R4, h4, fun b ds5 H5 O5 s5 R5 h5 => ?_⟩
    cases b with
    | false =>
      obtain ⟨c1, c2, c3, c4, c5, c6, c7⟩ := bring s5 R5
      exact iteF ⟨O5, _, ws, acc, c1, c2, c3, c4, c5, by omega, wipeD_clear _ _ _, h5⟩
    | true =>
    refine iteT ⟨O5, ds5, _, R5, h5, fun y ds6 v H6 O6 s6 R6 ry h6 => ?_⟩
    obtain ⟨f, h6, r2, r1, rn⟩ := it_at ry h6
    obtain ⟨c1, c2, c3, c4, c5, c6, c7⟩ := bring s5 R5
    obtain ⟨b1, b2, b3, b4, b5, b6, b7⟩ := bring (s5.trans s6) R6
    have n5 : ∀ q, q ∈ innF f → H5 q = none := fun q hq => by
      rcases s6.o1 q (r1 q hq).1 with z | z
      · exact absurd z (r1 q hq).2.1
      · exact z
    have nD : ∀ q, q ∈ innF f → q ≠ D := fun q hq z => by
      have := n5 q hq
      rw [z, c4] at this; cases this
    have n1 : ∀ q, q ∈ innF f → upd H1 D (.lst []) q = none := fun q hq => by
      cases e : upd H1 D (.lst []) q with
      | none => rfl
      | some o =>
        have z := c1.dm q (by rw [e]; simp)
        rw [upd_ne (nD q hq)] at z
        exact absurd (n5 q hq) z
    have nA : ∀ q, q ∈ innF f → q ∉ innV acc := fun q hq z => by
      obtain ⟨o, w, _⟩ := c5.at_.pr q z
      rw [n5 q hq] at w; cases w
    have e1 : ∀ q, q ∈ innV (acc ++ [f]) → q ∈ innV acc ∨ q ∈ innF f := fun q hq => by
      rw [innV_app, innV_one] at hq
      exact List.mem_append.mp hq
    have m6 : ∀ q, q ∈ innF f → ∀ j, ¬ MutAt (wipe σ vs) ⟨wipeD ds6.sl vs, ds6.n⟩ j q := fun q hq j hj => by
      have z := b1.mu j q hj
      have w := (Rw.mutO z)
      have : ∃ o, upd H1 D (.lst []) q = some o ∧ prt o = true := Rw.lo q w
      obtain ⟨o, e, _⟩ := this
      rw [n1 q hq] at e; cases e
    have nw6 : NewV K F (upd H1 D (.lst [])) H6 O6 (wipe σ vs) ⟨wipeD ds6.sl vs, ds6.n⟩ D (ws ++ [v]) (acc ++ [f]) := by
      refine ⟨b5.at_.snoc r2, ?_, fun q hq => ?_, fun q hq => ?_, fun q hq => ?_, fun q hq => ?_⟩
      · obtain ⟨d1, d2⟩ := List.nodup_cons.mp b5.nd
        rw [innV_app, innV_one]
        refine List.nodup_cons.mpr ⟨fun z => ?_, List.nodup_append.mpr ⟨d2, rn, fun a ha b hb z => ?_⟩⟩
        · rcases List.mem_append.mp z with w | w
          · exact d1 w
          · exact nD D w rfl
        · subst z
          exact nA a hb ha
      · rcases e1 q hq with z | z
        · exact b5.o q z
        · exact (r1 q z).1
      · rcases e1 q hq with z | z
        · exact b5.h q z
        · exact (r1 q z).2.2
      · rcases e1 q hq with z | z
        · exact b5.n q z
        · exact n1 q z
      · rcases e1 q hq with z | z
        · exact b5.m q z
        · exact m6 q z
    have wl2 := c5.at_.len
    refine ⟨_, b4, ?_, ?_⟩
    · have h2 := io.len
      omega
    · obtain ⟨R8, k8⟩ := b3.updT (ws := ws ++ [v]) b6 b7 hDin
      obtain ⟨d1, d2⟩ := List.nodup_cons.mp nw6.nd
      refine ⟨O6, _, ws ++ [v], acc ++ [f], by rw [upd_upd]; exact b1, b2.trans ⟨k8, grow_refl, fun a ha => ?_⟩, R8, upd_same, nw6.mv b3.lo k8 grow_refl (fun q hq o ho => by rw [upd_ne (fun z : q = D => d1 (z ▸ hq))]; exact ho) nw6.o nw6.m, by rw [List.length_append, List.length_singleton]; omega, wipeD_clear _ _ _, h6⟩
      by_cases za : a = D
      · subst za; rw [upd_same]; simp
      · rw [upd_ne za]; exact ha
  · have e : i = its.length := by omega
    subst e
    refine .inl ⟨io.stop H2 O2 R2.lo a2, ?_⟩
    have q := fin acc ds2 p2 D
    have l2 : ds2.sl.length = ds1.sl.length := by rw [R2.len, R1.len, wl]
    have ke : ∀ a o, H1 a = some o → (∀ j, ¬ MutAt (wipe σ vs) ⟨wipeD ds1.sl vs, ds1.n⟩ j a) → H2 a = some o := fun a o ha n => by
      have nz : a ≠ D := ne_of_none ha hD
      have q := st.kp a o (by rw [upd_ne nz]; exact ha) n
      rwa [upd_ne nz] at q
    have mo : ∀ j p, MutAt σ ⟨restD ds2.sl ds1.sl vs, ds2.n⟩ j p → MutAt σ ds1 j p := fun j p ⟨a0, a, dv, b, c, ce⟩ => by
      by_cases hj : j ∈ vs
      · have b' : (restD ds2.sl ds1.sl vs)[j]? = some (some dv) := b
        rw [restD_in l2 hj] at b'
        exact ⟨a0, a, dv, b', c, ce⟩
      · have b' : (restD ds2.sl ds1.sl vs)[j]? = some (some dv) := b
        rw [restD_out hj] at b'
        exact (mw j p (st.mu j p ⟨a0, by rw [wo j hj]; exact a, dv, b', c, ce⟩)).1
    have bo : ∀ j p, BoxS σ ⟨restD ds2.sl ds1.sl vs, ds2.n⟩ j p → BoxS σ ds1 j p := fun j p ⟨a, b⟩ => by
      have b' : (restD ds2.sl ds1.sl vs)[j]? = some (some .box) := b
      by_cases hj : j ∈ vs
      · rw [restD_in l2 hj] at b'
        exact ⟨a, b'⟩
      · rw [restD_out hj] at b'
        obtain ⟨b1, b2⟩ := st.bx j p ⟨by rw [wo j hj]; exact a, b'⟩
        exact ⟨a, (wipeD_some b2).1⟩
    have inw : ∀ j p, j ∈ vs → MutAt σ ds1 j p → ∀ k, ¬ MutAt (wipe σ vs) ⟨wipeD ds1.sl vs, ds1.n⟩ k p := fun j p hj hm k hk => by
      obtain ⟨h1, h2⟩ := mw k p hk
      exact h2 (R1.mu j k p hm h1 ▸ hj)
    have mO : ∀ j p, j ∈ vs → MutAt σ ds1 j p → p ∈ O2 := fun j p hj hm => st.o2 p (List.mem_cons_of_mem _ (R1.mutO hm)) (inw j p hj hm)
    refine hq (.mu (mtl acc) D) ⟨restD ds2.sl ds1.sl vs, ds2.n⟩ (.ref D) H2 O2 (s1.trans ⟨a2.gr, fun p hp n => ?_, fun a o ha n => ke a o ha fun j hj => n j (mw j a hj).1, a2.dm, fun j dv hj => ?_, mo, bo⟩) ?_ ?_ q
    · exact st.o2 p (List.mem_cons_of_mem _ hp) fun j hj => n j (mw j p hj).1
    · by_cases hv : j ∈ vs
      · exact ⟨dv, by show (restD ds2.sl ds1.sl vs)[j]? = _; rw [restD_in l2 hv]; exact hj⟩
      · obtain ⟨dv', e'⟩ := st.sl j dv (by show (wipeD ds1.sl vs)[j]? = _; rw [wipeD_keep hv]; exact hj)
        exact ⟨dv', by show (restD ds2.sl ds1.sl vs)[j]? = _; rw [restD_out hv]; exact e'⟩
    · refine ⟨R2.lo, R2.sub, R2.ext, fun j dv hj => ?_, fun j k p h1 h2 => R1.mu j k p (mo j p h1) (mo k p h2), fun j p h1 => R1.new j p (mo j p h1), fun j p ys h1 h2 => ?_, R2.bx, fun j p hb => R1.bu j p (bo j p hb), fun j k p r h1 h2 => R1.b1 j k p r (bo j p h1) (bo k r h2), R2.fo, R2.bo, by show (restD ds2.sl ds1.sl vs).length = _; rw [restD_len, l2, R1.len], fun j c' p' q h hm => ?_⟩
      · by_cases hv : j ∈ vs
        · have hj' : (restD ds2.sl ds1.sl vs)[j]? = some (some dv) := hj
          rw [restD_in l2 hv] at hj'
          obtain ⟨w', ew, r⟩ := R1.sl j dv hj'
          refine ⟨w', ew, ?_⟩
          cases dv with
          | exc xa xb => exact hs_ex R1.lo a2 r
          | fd xc => exact hs_fd R1.lo a2 r
          | d y => exact hs_rp R1.lo a2 r
          | own ys =>
            obtain ⟨p, us, e3, c1, c2, c3⟩ := r
            subst e3
            have hm : MutAt σ ds1 j p := mutAt ew hj' trivial
            exact ⟨p, us, rfl, mO j p hv hm, ke p _ c2 (inw j p hv hm), hs_rpl R1.lo a2 c3⟩
          | box => exact absurd hj' (noBox_ok hbx hv)
          | mu c p =>
            obtain ⟨e3, c1, c2⟩ := r
            subst e3
            have hm : ∀ u, u = p ∨ u ∈ innM c → MutAt σ ds1 j u := fun u hu => mutAtM ew hj' hu
            exact ⟨rfl, fun u hu => mO j u hv (hm u hu), MuAt.mv R1.lo a2.kp a2.gr (fun u hu o ho => ke u o ho (inw j u hv (hm u hu))) c2⟩
          | slot k => exact r
        · have hj' : (restD ds2.sl ds1.sl vs)[j]? = some (some dv) := hj
          rw [restD_out hv] at hj'
          obtain ⟨w', ew, r⟩ := R2.sl j dv hj'
          exact ⟨w', by rw [← wo j hv]; exact ew, r⟩
      · by_cases hv : j ∈ vs
        · have hj' : (restD ds2.sl ds1.sl vs)[j]? = some (some (.own ys)) := h2
          rw [restD_in l2 hv] at hj'
          exact R1.newO j p ys h1 hj'
        · have hj' : (restD ds2.sl ds1.sl vs)[j]? = some (some (.own ys)) := h2
          rw [restD_out hv] at hj'
          exact R2.newO j p ys (by rw [wo j hv]; exact h1) hj'
      · by_cases hv : j ∈ vs
        · have hj' : (restD ds2.sl ds1.sl vs)[j]? = some (some (.mu c' p')) := h
          rw [restD_in l2 hv] at hj'
          exact R1.nm j c' p' q hj' (mo j q hm)
        · have hj' : (restD ds2.sl ds1.sl vs)[j]? = some (some (.mu c' p')) := h
          rw [restD_out hv] at hj'
          refine R2.nm j c' p' q hj' ?_
          obtain ⟨a0, a, dv, b, c, ce⟩ := hm
          have b' : (restD ds2.sl ds1.sl vs)[j]? = some (some dv) := b
          rw [restD_out hv] at b'
          exact ⟨a0, by rw [wo j hv]; exact a, dv, b', c, ce⟩
    · have bk : ∀ q, q ∈ innV acc → H1 q = none := fun q hq => by
        have z := nw.n q hq
        by_cases w : q = D
        · rw [w]; exact hD
        · rw [upd_ne w] at z; exact z
      refine ⟨rfl, fun q hq => ?_, ⟨ws, eD, nw.at_⟩, nw.nd⟩
      rcases hq with z | z
      · rw [z]; exact ⟨memD, s1.fresh R hD, hDin⟩
      · exact ⟨nw.o q z, s1.fresh R (bk q z), nw.h q z⟩
theorem de_lcV {s : Bool} {T : List Nat} {w : DTI} {g : DTG} {tt : DTT} {te : DTE} {ifs : List Expr} {scope : Scope} {own : List (Str × Nat)} (hc : X.calm = true) (hN : X.N.Nodup) (hi : DI s X F tg it w) (ok : BlkOk X.N X.env.scope scope own)
    (hT : ∀ i ∈ T, i ∈ own.map (·.2))
    (hg : ∀ (s0 : Shared) (H : Hp) (C : Addr) (cl : List (Str × Addr)) (fp : List Addr), DG s T (X.blk s0 H scope (compEnvC scope cl C X.env) fp) F tg g)
    (ht : ∀ (s0 : Shared) (H : Hp) (C : Addr) (cl : List (Str × Addr)) (fp : List Addr), DTs (X.blk s0 H scope (compEnvC scope cl C X.env) fp) F ifs tt)
    (he : ∀ (s0 : Shared) (H : Hp) (C : Addr) (cl : List (Str × Addr)) (fp : List Addr), DE (X.blk s0 H scope (compEnvC scope cl C X.env) fp) F elt te)
    (hs : ∀ x, foldedSetIterable it X.env x = pure x := by intro _; rfl) : DE X F (.ListComp elt [⟨tg, it, ifs, 0⟩] scope pos) (dLcV w g tt te (own.map (·.2))) :=
  PE_imp (pe_lc hc hN hi ok hg ht he hs) fun σ H Q h => lcV_lift hT h
end
theorem nom_ms {F : Fx} (h : NoM F) : ∀ q ∈ F.M, q ∈ ([] : List Addr) := fun q hq => by
  unfold NoM at h; rw [h] at hq; exact hq
section
variable {X : Cx} {F : Fx} {tg it c1 c2 : Expr} {pos p1 p2 : Pos} {sts1 sts2 : List Stmt} {t1 t2 : DTT} {u1 u2 : DTS} {w : DTI} {i j x : Nat}
theorem set_free {σ : St} {x : Nat} : (σ.set x none).set x ((σ[x]?).getD none) = σ := by
  rw [List.set_set]
  by_cases h : x < σ.length
  · rw [List.getElem?_eq_getElem h]
    exact List.set_getElem_self h
  · exact List.set_eq_of_length_le (by omega)
end
def dFrzS (i : Nat) (t : DTS) : DTS := fun E ds => match frz ds (.slot i) with
  | some (_, ds2) => t E ds2
  | none => False
section
variable {X : Cx} {F : Fx} {st : Stmt} {t : DTS} {i : Nat}
theorem ds_frzS (h : DSt X F st t) : DSt X F st (dFrzS i t) := PS_imp h fun Dn σ H ⟨O, ds, E, R, ht, k⟩ => by
  unfold dFrzS at ht
  split at ht
  · rename_i d ds2 e
    have es : ∃ dv, ds.sl[i]? = some (some dv) := by
      simp only [frz] at e
      split at e
      · rename_i x hx; exact ⟨_, hx⟩
      · rename_i x hx; exact ⟨_, hx⟩
      · cases e
    obtain ⟨dv, es⟩ := es
    obtain ⟨v, ev, _⟩ := R.sl i dv es
    have rv : RpV X.K F H O O σ ds v (.slot i) := ⟨ev, dv, es⟩
    obtain ⟨O2, s2, R2, _⟩ := frz_ok R Step.refl R rv e
    exact ⟨O2, ds2, E, R2, ht, k.later (s2.hs R)⟩
  · exact ht.elim
end
section
variable {K : Fg} {F : Fx} {H : Hp} {O O' : List Addr} {σ : St} {ds : DS} {p : Addr} {c c' : Mu} {ob : HO} {i : Nat}
theorem Rep.dropO (R : Rep K F H O σ ds) (sub : ∀ q ∈ O', q ∈ O) (hF : ∀ q ∈ F.O, q ∈ O') (hm : ∀ (j : Nat) (q : Addr), MutAt σ ds j q → q ∈ O') : Rep K F H O' σ ds := by
  refine ⟨fun q hq => R.lo q (sub q hq), hF, R.ext, fun j dv h => ?_, R.mu, R.new, R.newO, R.bx, R.bu, R.b1, R.fo, R.bo, R.len, R.nm⟩
  obtain ⟨v, ev, rv⟩ := R.sl j dv h
  refine ⟨v, ev, ?_⟩
  cases dv with
  | d y => exact Rp.less R.lo sub rv
  | own xs =>
    obtain ⟨p, vs, e, h1, h2, h3⟩ := rv
    subst e
    exact ⟨p, vs, rfl, hm j p (mutAt ev h trivial), h2, RpL.less R.lo sub h3⟩
  | box =>
    obtain ⟨p, e, h1, h2⟩ := rv
    subst e
    exact ⟨p, rfl, hm j p (mutAt ev h trivial), h2⟩
  | mu c p =>
    obtain ⟨e, h1, h2⟩ := rv
    subst e
    exact ⟨rfl, fun q hq => hm j q (R.mutP h hq), h2.less R.lo sub⟩
  | slot y => exact rv.elim
  | exc a b => exact ExS.less R.lo sub rv
  | fd c => exact FdS.less R.lo sub rv
theorem Rep.growI (R : Rep K F H O σ ds) (h1 : σ[i]? = some (some (.ref p))) (h2 : ds.sl[i]? = some (some (.mu c p))) (nw : ∀ q ∈ innM c', q ∈ innM c ∨ (q ∈ O ∧ F.Hin q = none ∧ ∀ j, ¬ MutAt σ ds j q)) (hm : MuAt K (upd H p ob) O p c') : Rep K F (upd H p ob) O σ ⟨ds.sl.set i (some (.mu c' p)), ds.n⟩ := by
  have mi : ∀ u, u = p ∨ u ∈ innM c → MutAt σ ds i u := fun u hu => mutAtM h1 h2 hu
  have po : p ∈ O := R.mutO (mi p (.inl rfl))
  have mp : MutAt σ ds i p := mi p (.inl rfl)
  have nw0 := R.new i p mp
  have nm0 := R.nm i c p p h2 mp
  have prp : prt ob = true := by
    obtain ⟨o, e, k⟩ := hm.prtA (q := p) (.inl rfl)
    rw [upd_same] at e; cases e; exact k
  have mo : ∀ {j : Nat} {q : Addr}, MutAt σ ⟨ds.sl.set i (some (.mu c' p)), ds.n⟩ j q → MutAt σ ds j q ∨ (j = i ∧ q ∈ O ∧ F.Hin q = none ∧ ∀ l, ¬ MutAt σ ds l q) := fun {j q} ⟨r, a, dv, b, k, ke⟩ => by
    rcases get_set b with ⟨e1, e2⟩ | ⟨e1, e2⟩
    · subst e1
      cases e2
      rw [h1] at a; cases a
      rcases ke with rfl | ke
      · exact .inl mp
      · rcases nw q ke with z | z
        · exact .inl (mi q (.inr z))
        · exact .inr ⟨rfl, z⟩
    · exact .inl ⟨r, a, dv, e2, k, ke⟩
  have bo : ∀ {j : Nat} {q : Addr}, BoxS σ ⟨ds.sl.set i (some (.mu c' p)), ds.n⟩ j q → BoxS σ ds j q := fun {j q} ⟨a, b⟩ => by
    rcases get_set b with ⟨e1, e2⟩ | ⟨e1, e2⟩
    · cases e2
    · exact ⟨a, e2⟩
  refine ⟨fun q hq => ?_, R.sub, fun a o h n => ?_, fun j dv hj => ?_, fun j k q a b => ?_, fun j q a => ?_, fun j q zs a b => ?_, fun q hq => ?_, fun j q hb => R.bu j q (bo hb), fun j k q r a b => R.b1 j k q r (bo a) (bo b), R.fo, R.bo, by rw [List.length_set]; exact R.len, fun j c0 a q h hh => ?_⟩
  · by_cases z : q = p
    · subst z; exact ⟨_, upd_same, prp⟩
    · rw [upd_ne z]; exact R.lo q hq
  · rw [upd_ne (fun z : a = p => by
      subst z
      rcases nw0 with q | q
      · rw [h] at q; cases q
      · exact n q)]
    exact R.ext a o h n
  · rcases get_set hj with ⟨e1, e2⟩ | ⟨e1, e2⟩
    · subst e1
      cases e2
      refine ⟨_, h1, rfl, fun u hu => ?_, hm⟩
      rcases hu with rfl | hu
      · exact po
      · rcases nw u hu with z | z
        · exact R.mutO (mi u (.inr z))
        · exact z.1
    · obtain ⟨w, ew, r⟩ := R.sl j dv e2
      exact ⟨w, ew, R.updS po (fun mj => e1 (R.mu i j p mp mj)) e2 ew r⟩
  · rcases mo a with x | ⟨x, _, _, x4⟩ <;> rcases mo b with y | ⟨y, _, _, y4⟩
    · exact R.mu j k q x y
    · exact absurd x (y4 j)
    · exact absurd y (x4 k)
    · rw [x, y]
  · rcases mo a with x | ⟨_, _, x, _⟩
    · exact R.new j q x
    · exact .inl x
  · rcases get_set b with ⟨e1, e2⟩ | ⟨e1, e2⟩
    · cases e2
    · exact R.newO j q zs a e2
  · by_cases z : q = p
    · subst z
      rcases nm0 with w | w
      · exact absurd w (R.fo q (R.bo q hq))
      · exact .inl w
    · rcases R.bx q hq with h | ⟨x, y, c0, h, r⟩
      · exact .inl h
      · exact .inr ⟨x, y, c0, by rw [upd_ne z]; exact h, r⟩
  · rcases mo hh with x | ⟨x, _, x3, _⟩
    · rcases get_set h with ⟨e1, e2⟩ | ⟨e1, e2⟩
      · subst e1; exact R.nm i c p q h2 x
      · exact R.nm j c0 a q e2 x
    · exact .inl x3
end
def dFrzE (te : DTE) : DTE := fun ds Q => te ds fun r ds1 => match r with
  | .mu c _ => ∃ x, FzM c x ∧ Q (.d x) ds1
  | r => Q r ds1
def dTreeE (te : DTE) : DTE := fun ds Q => te ds fun r ds1 => match r with
  | .own [] => ∀ p, Q (.mu (mtl []) p) ds1
  | _ => False
def itL : List DV → (List Fv → Prop) → Prop
  | [], P => P []
  | y :: ys, P => itP (fun f => itL ys fun fs => P (f :: fs)) y
def dLstT (tA : DTA) : DTE := fun ds Q => tA ds fun ys ds1 => few ys.length (itL ys fun fs => ∀ p, Q (.mu (mtl fs) p) ds1)
def dAppV (i : Nat) (tA : DTA) : DTS := fun E ds => ∃ xs p, ds.sl[i]? = some (some (.mu (mtl xs) p)) ∧ xs.length < 16777216 ∧ tA ds fun ys ds1 => ds1.sl[i]? = ds.sl[i]? ∧ match ys with
  | [y] => itP (fun f => E.nx ⟨ds1.sl.set i (some (.mu (mtl (xs ++ [f])) p)), ds1.n⟩) y
  | _ => False
section
variable {X : Cx} {F : Fx} {e : Expr} {es : List Expr} {te : DTE} {tA : DTA} {pos : Pos} {i : Nat}
theorem de_frzE (h : DE X F e te) : DE X F e (dFrzE te) := PE_imp h fun σ H Q ⟨O, ds, Qa, R, ht, hq⟩ =>
  ⟨O, ds, _, R, ht, fun r ds1 v H1 O1 s1 R1 rx hx => by
    cases r with
    | mu c p =>
      obtain ⟨x, fz, hx⟩ := hx
      obtain ⟨ev, fr, m⟩ := rx
      subst ev
      have sub : ∀ q ∈ O1.filter (fun q => decide (q ≠ p ∧ q ∉ innM c)), q ∈ O1 := fun q hq => (List.mem_filter.mp hq).1
      have inO : ∀ q, q ∈ O1 → q ∈ O → q ∈ O1.filter (fun q => decide (q ≠ p ∧ q ∉ innM c)) := fun q h1 h2 => List.mem_filter.mpr ⟨h1, decide_eq_true ⟨fun z => (fr q (.inl z)).2.1 h2, fun z => (fr q (.inr z)).2.1 h2⟩⟩
      have R2 : Rep X.K F H1 _ σ ds1 := R1.dropO sub (fun q hq => inO q (R1.sub q hq) (R.sub q hq)) fun j q hj => inO q (R1.mutO hj) (R.mutO (s1.mu j q hj))
      have s2 : Step σ H O ds H1 (O1.filter (fun q => decide (q ≠ p ∧ q ∉ innM c))) ds1 := ⟨fun q hq => s1.o1 q (sub q hq), fun q hq hn => inO q (s1.o2 q hq hn) hq, s1.kp, s1.dm, s1.sl, s1.mu, s1.bx⟩
      refine hq (.d x) ds1 _ H1 _ s2 R2 (fz X.K H1 O1 _ p R1.lo sub (fun q hq z => ?_) m) hx
      have := of_decide_eq_true (List.mem_filter.mp z).2
      rcases hq with w | w
      · exact this.1 w
      · exact this.2 w
    | d x => exact hq _ ds1 v H1 O1 s1 R1 rx hx
    | own x => exact hq _ ds1 v H1 O1 s1 R1 rx hx
    | box => exact hq _ ds1 v H1 O1 s1 R1 rx hx
    | slot x => exact hq _ ds1 v H1 O1 s1 R1 rx hx
    | exc x y => exact hq _ ds1 v H1 O1 s1 R1 rx hx
    | fd x => exact hq _ ds1 v H1 O1 s1 R1 rx hx⟩
theorem de_treeE (h : DE X F e te) : DE X F e (dTreeE te) := PE_imp h fun σ H Q ⟨O, ds, Qa, R, ht, hq⟩ =>
  ⟨O, ds, _, R, ht, fun r ds1 v H1 O1 s1 R1 rx hx => by
    split at hx
    · obtain ⟨p, vs, ev, h1, h2, h3, h4, h5⟩ := rx
      cases h5
      refine hq (.mu (mtl []) p) ds1 v H1 O1 s1 R1 ⟨ev, fun q hq => ?_, ⟨[], h4, .nil⟩, by show ([p] : List Addr).Nodup; simp⟩ (hx p)
      rcases hq with rfl | hq
      · exact ⟨h1, h2, h3⟩
      · cases hq
    · exact hx.elim⟩
theorem it_own {K : Fg} {H : Hp} {O O' : List Addr} {σ : St} {ds : DS} {v : V} {y : DV} {P : Fv → Prop} (h : RpV K F H O O' σ ds v y) (hp : itP P y) : ∃ f, P f ∧ FvAt K H O' v f ∧ (∀ q ∈ innF f, q ∈ O' ∧ q ∉ O ∧ F.Hin q = none) ∧ (innF f).Nodup ∧ ∀ q ∈ innF f, OwnT v y q := by
  cases y with
  | d x => exact ⟨.d x, hp, h, (fun q hq => by cases hq), List.nodup_nil, fun q hq => by cases hq⟩
  | own xs =>
    obtain ⟨p, vs, e, h1, h2, h3, h4, h5⟩ := h
    refine ⟨.own (.lst xs) p, hp p, ⟨e, vs, h4, h5⟩, fun q hq => ?_, List.nodup_cons.mpr ⟨List.not_mem_nil, List.nodup_nil⟩, fun q hq => ?_⟩
    · rw [List.mem_singleton.mp hq]
      exact ⟨h1, h2, h3⟩
    · rw [List.mem_singleton.mp hq]
      first | exact e | exact .inl e | exact ⟨_, e, .inl rfl⟩
  | mu c k =>
    obtain ⟨e, h1, h2⟩ := h
    refine ⟨.own c k, hp, ⟨e, h2⟩, fun q hq => h1 q (List.mem_cons.mp hq), h2.nd, fun q hq => ?_⟩
    first | exact List.mem_cons.mp hq | exact ⟨_, e, List.mem_cons.mp hq⟩
  | box => exact hp.elim
  | slot j => exact hp.elim
  | exc a b => exact hp.elim
  | fd c => exact hp.elim
theorem its_at {K : Fg} {H : Hp} {O O' : List Addr} {σ : St} {ds : DS} : ∀ {ys : List DV} {vs : List V} {P : List Fv → Prop}, RpVs K F H O O' σ ds vs ys → itL ys P → ∃ fs, P fs ∧ FvL K H O' vs fs ∧ (∀ q ∈ innV fs, q ∈ O' ∧ q ∉ O ∧ F.Hin q = none) ∧ (innV fs).Nodup ∧ ∀ q ∈ innV fs, ∃ (j : Nat) (w : V) (y : DV), vs[j]? = some w ∧ ys[j]? = some y ∧ OwnT w y q
  | [], vs, P, h, hp => by
    cases h.1
    exact ⟨[], hp, .nil, (fun q hq => by cases hq), List.nodup_nil, fun q hq => by cases hq⟩
  | y :: ys, vs, P, h, hp => by
    obtain ⟨h1, h2⟩ := h
    cases h1 with
    | @cons v _ vs _ a b =>
      obtain ⟨f, hf, f1, f2, f3, f4⟩ := it_own a hp
      obtain ⟨fs, hfs, g1, g2, g3, g4⟩ := its_at (ys := ys) (vs := vs) ⟨b, fun i j u w x z hij e1 e2 e3 e4 => h2 (i + 1) (j + 1) u w x z (by omega) (by simpa using e1) (by simpa using e2) (by simpa using e3) (by simpa using e4)⟩ hf
      refine ⟨f :: fs, hfs, .cons f1 g1, fun q hq => ?_, ?_, fun q hq => ?_⟩
      · rcases List.mem_append.mp hq with z | z
        · exact f2 q z
        · exact g2 q z
      · refine List.nodup_append.mpr ⟨f3, g3, fun q hq q' hq' z => ?_⟩
        subst z
        obtain ⟨j, w, z, e1, e2, e3⟩ := g4 q hq'
        exact h2 0 (j + 1) v w y z (by omega) rfl (by simpa using e1) rfl (by simpa using e2) q (f4 q hq) e3
      · rcases List.mem_append.mp hq with z | z
        · exact ⟨0, v, y, rfl, rfl, f4 q z⟩
        · obtain ⟨j, w, x, e1, e2, e3⟩ := g4 q z
          exact ⟨j + 1, w, x, by simpa using e1, by simpa using e2, e3⟩
theorem de_lstT (h : DA X F es tA) : DE X F (.List es pos) (dLstT tA) := PE_imp (pe_lst h) fun σ H Q ⟨O, ds, Qa, R, ht, hq⟩ =>
  ⟨O, ds, _, R, ht, fun ys ds1 vs H1 O1 s1 R1 rx hx => by
    obtain ⟨hn, hx⟩ := few_le hx
    obtain ⟨fs, hfs, g1, g2, g3, _⟩ := its_at rx hx
    have lu := paired_len rx.1
    refine ⟨by have := k_line; omega, fun p hp => ?_⟩
    have sm := same_new (o := .lst vs) hp
    have gr := grow_new (O := O1) hp
    have sub : ∀ q ∈ O1, q ∈ p :: O1 := fun q h => List.mem_cons_of_mem _ h
    have R2 := R1.grow sm gr sub (lo_new R1.lo hp)
    have s2 : Step σ H1 O1 ds1 (upd H1 p (.lst vs)) (p :: O1) ds1 := Step.grow sm gr sub
    have hin := R1.hin hp
    have np : ∀ q ∈ innV fs, q ≠ p := fun q hq z => by
      obtain ⟨o, e, _⟩ := R1.lo q (g2 q hq).1
      rw [z, hp] at e; cases e
    refine hq (.mu (mtl fs) p) ds1 (.ref p) _ _ (s1.trans s2) R2 ⟨rfl, fun q hq => ?_, ⟨vs, upd_same, g1.mv R1.lo (fun a o h n => by rw [upd_ne (fun z : a = p => by rw [z, hp] at h; cases h)]; exact h) gr fun q hq o ho => by rw [upd_ne (np q hq)]; exact ho⟩, List.nodup_cons.mpr ⟨fun z => np p z rfl, g3⟩⟩ (hfs p)
    rcases hq with rfl | hq
    · exact ⟨List.mem_cons_self, s1.fresh R hp, hin⟩
    · exact ⟨sub q (g2 q hq).1, (g2 q hq).2⟩⟩
theorem ds_appVB (h : PE X e (tBM X.K "list" rAppend (tVar i) (liftA X.K F tA))) (hs : swapsWith e none pos.line X.env = pure false := by rfl) : DSt X F (.Expr e pos) (dAppV i tA) := PS_imp (ps_expr h hs) fun Dn σ H ⟨O, ds, E, R, ⟨xs, p, e0, hl, ht⟩, kk⟩ => by
  obtain ⟨v, ev, rv⟩ := R.sl i _ e0
  obtain ⟨rfl, hO, ⟨vs, h1, h2⟩, nd⟩ := rv
  refine ⟨_, ev, .inl ⟨rfl, _, .inl (.inl h1)⟩, O, ds, _, R, ht, fun ys ds1 avs H1 O1 s1 R1 rx hx => ?_⟩
  obtain ⟨l2, hx⟩ := hx
  split at hx
  · rename_i y
    obtain ⟨r1, _⟩ := rx
    cases r1 with
    | @cons u _ us _ ru rest =>
      cases rest
      obtain ⟨f, hx, f1, f2, f3⟩ := it_at ru hx
      have e1 := l2.trans e0
      obtain ⟨v, ev1, rv⟩ := R1.sl i _ e1
      rw [ev] at ev1; cases ev1
      obtain ⟨_, hO1, ⟨vs1, h11, h21⟩, nd1⟩ := rv
      have own0 : ∀ q, q = p ∨ q ∈ innV xs → q ∈ O := fun q hq => hO q hq
      have np : ∀ q ∈ innF f, q ≠ p ∧ q ∉ innV xs := fun q hq => ⟨fun z => (f2 q hq).2.1 (own0 q (.inl z)), fun z => (f2 q hq).2.1 (own0 q (.inr z))⟩
      obtain ⟨nd2, nd3⟩ := List.nodup_cons.mp nd1
      have kp : Keep O1 H1 (upd H1 p (.lst (vs1 ++ [u]))) := fun a o h n => by rw [upd_ne (fun z : a = p => n (z ▸ hO1 p (.inl rfl)))]; exact h
      have hm : MuAt X.K (upd H1 p (.lst (vs1 ++ [u]))) O1 p (mtl (xs ++ [f])) := by
        refine ⟨⟨_, upd_same, (h21.snoc f1).mv R1.lo kp grow_refl fun q hq o ho => ?_⟩, ?_⟩
        · rw [innV_app, innV_one] at hq
          rw [upd_ne (fun z : q = p => ?_)]
          · exact ho
          · subst z
            rcases List.mem_append.mp hq with w | w
            · exact nd2 w
            · exact (np q w).1 rfl
        · rw [innV_app, innV_one]
          refine List.nodup_cons.mpr ⟨fun z => ?_, List.nodup_append.mpr ⟨nd3, f3, fun a ha b hb z => ?_⟩⟩
          · rcases List.mem_append.mp z with w | w
            · exact nd2 w
            · exact (np p w).1 rfl
          · subst z; exact (np a hb).2 ha
      have R2 := R1.growI (c' := mtl (xs ++ [f])) ev e1 (fun q hq => by
        have hq : q ∈ innV (xs ++ [f]) := hq
        rw [innV_app, innV_one] at hq
        rcases List.mem_append.mp hq with w | w
        · exact .inl w
        · exact .inr ⟨(f2 q w).1, (f2 q w).2.2, fun j hj => (f2 q w).2.1 (R.mutO (s1.mu j q hj))⟩) hm
      refine ⟨p, vs1, u, rfl, rfl, h11, by rw [h21.len, sizeLine_eq]; exact hl, ?_⟩
      refine kk.nx O1 _ σ _ ((s1.hs R).trans ⟨kp, grow_refl, fun a ha => ?_⟩) R2 hx
      by_cases z : a = p
      · subst z; rw [upd_same]; simp
      · rw [upd_ne z]; exact ha
  · exact hx.elim
theorem ds_appV {o c : Expr} {apos cpos : Pos} (ho : PE X o (tVar i)) (ha : DA X F [c] tA) (hbase : attributeBase o "append" X.env (eval o X.env) = eval o X.env := by rfl)
    (hs : swapsWith (.Call (.Attribute o "append" apos) [c] [] cpos) none pos.line X.env = pure false := by rfl)
    (hfew : ((backTo cpos (starEach [c] X.env)).all (fun x => !x.1) && (backToKw cpos (keywordEach [] X.env)).all (fun x => x.1.isSome) && decide ([c].length + ([] : List Keyword).length + (if ([] : List Keyword).isEmpty then 0 else 1) < 30)) = true := by rfl)
    (hline : (apos.endLine == cpos.line) = true := by rfl) (hst : starEach [c] X.env = (false, eval c X.env) :: starEach [] X.env := by rfl) (hplain : (backTo cpos (starEach [] X.env)).any (·.1) = false := by rfl) :
    DSt X F (.Expr (.Call (.Attribute o "append" apos) [c] [] cpos) pos) (dAppV i tA) :=
  ds_appVB (pe_bm PySem.F.plainAttrs_list PySem.F.slot_list_append PySem.F.type_list_append mt_append ho ha hbase hfew hline hst hplain) hs
end
structure Loose (K : Fg) (F : Fx) (O : List Addr) (σ0 : St) (ds0 : DS) (A : List Addr) (m : Nat) (H : Hp) : Prop where
  rep : Rep K F H O σ0 ds0
  at_ : ∀ q ∈ A, q ∈ O ∧ F.Hin q = none ∧ (∀ j, ¬ MutAt σ0 ds0 j q) ∧ ∃ es, H q = some (.lst es) ∧ es.length ≤ m
section
variable {K : Fg} {F : Fx} {H H0 : Hp} {O : List Addr} {σ0 : St} {ds0 : DS} {A : List Addr} {m : Nat}
theorem Loose.more (L : Loose K F O σ0 ds0 A m H) {m' : Nat} (h : m ≤ m') : Loose K F O σ0 ds0 A m' H := ⟨L.rep, fun q hq => by
  obtain ⟨a, b, c, es, d, e⟩ := L.at_ q hq
  exact ⟨a, b, c, es, d, Nat.le_trans e h⟩⟩
theorem Loose.app (L : Loose K F O σ0 ds0 A m H) {a : Addr} (ha : a ∈ A) {es : List V} (he : H a = some (.lst es)) {u : V} : Loose K F O σ0 ds0 A (m + 1) (upd H a (.lst (es ++ [u]))) := by
  obtain ⟨h1, h2, h3, es', h4, h5⟩ := L.at_ a ha
  rw [he] at h4; cases h4
  refine ⟨L.rep.updN h1 h2 h3 rfl, fun q hq => ?_⟩
  obtain ⟨a1, b1, c1, es2, d1, e1⟩ := L.at_ q hq
  by_cases z : q = a
  · subst z
    exact ⟨a1, b1, c1, _, upd_same, by rw [List.length_append, List.length_singleton]; omega⟩
  · exact ⟨a1, b1, c1, es2, by rw [upd_ne z]; exact d1, by omega⟩
end
def tApp (x : Nat) (u : V) : TS := fun Dn σ H => ∃ a es, σ[x]? = some (some (.ref a)) ∧ H a = some (.lst es) ∧ es.length < sizeLine ∧ Dn.nx σ (upd H a (.lst (es ++ [u])))
def tOver (i x : Nat) (tb : TS) : TS := fun Dn σ H => ∃ p vs, σ[i]? = some (some (.ref p)) ∧ H p = some (.lst vs) ∧ vs.length ≤ sizeLine ∧ ∃ Iv : Nat → St → Hp → Prop, Iv 0 σ H ∧
  (∀ k σ2 H2 v, Iv k σ2 H2 → vs[k]? = some v → H2 p = some (.lst vs) ∧ tb { Dn with nx := Iv (k + 1), ct := Iv (k + 1), bk := Dn.nx } (σ2.set x (some v)) H2) ∧ ∀ σ2 H2, Iv vs.length σ2 H2 → H2 p = some (.lst vs) ∧ Dn.nx σ2 H2
def tOverS (i x : Nat) (n : Int) (tb : TS) : TS := fun Dn σ H => ∃ p us, σ[i]? = some (some (.ref p)) ∧ H p = some (.lst us) ∧ ∀ p2, H p2 = none → (cutV us none (some n)).length ≤ sizeLine ∧ ∃ Iv : Nat → St → Hp → Prop, Iv 0 σ (upd H p2 (.lst (cutV us none (some n)))) ∧
  (∀ k σ2 H2 v, Iv k σ2 H2 → (cutV us none (some n))[k]? = some v → H2 p2 = some (.lst (cutV us none (some n))) ∧ tb { Dn with nx := Iv (k + 1), ct := Iv (k + 1), bk := Dn.nx } (σ2.set x (some v)) H2) ∧ ∀ σ2 H2, Iv (cutV us none (some n)).length σ2 H2 → H2 p2 = some (.lst (cutV us none (some n))) ∧ Dn.nx σ2 H2
section
variable {X : Cx} {F : Fx} {tg it e o c : Expr} {pos p2 : Pos} {i x : Nat} {u : V} {body : List Stmt} {tb : TS} {apos cpos : Pos}
theorem ps_appU (ho : PE X o (tVar x)) (hv : PE X c (tC u)) (hbase : attributeBase o "append" X.env (eval o X.env) = eval o X.env := by rfl)
    (hs : swapsWith (.Call (.Attribute o "append" apos) [c] [] cpos) none pos.line X.env = pure false := by rfl)
    (hfew : ((backTo cpos (starEach [c] X.env)).all (fun x => !x.1) && (backToKw cpos (keywordEach [] X.env)).all (fun x => x.1.isSome) && decide ([c].length + ([] : List Keyword).length + (if ([] : List Keyword).isEmpty then 0 else 1) < 30)) = true := by rfl)
    (hline : (apos.endLine == cpos.line) = true := by rfl) (hst : starEach [c] X.env = (false, eval c X.env) :: starEach [] X.env := by rfl) (hplain : (backTo cpos (starEach [] X.env)).any (·.1) = false := by rfl) :
    PS X (.Expr (.Call (.Attribute o "append" apos) [c] [] cpos) pos) (tApp x u) :=
  PS_imp (ps_expr (pe_bm PySem.F.plainAttrs_list PySem.F.slot_list_append PySem.F.type_list_append mt_append ho (pa_cons hv pa_nil hst) hbase hfew hline hst hplain) hs) fun Dn σ H ⟨a, es, h1, h2, h3, h4⟩ =>
    ⟨_, h1, .inl ⟨rfl, _, .inl (.inl h2)⟩, a, es, u, rfl, rfl, h2, h3, h4⟩
theorem over_core {K : Fg} {p : Addr} {vs : List V} {Dn : Ends} {σ : St} {H : Hp} {x : Nat} {tb : TS} {Iv : Nat → St → Hp → Prop} (i0 : Iv 0 σ H)
    (turn : ∀ k σ2 H2 v, Iv k σ2 H2 → vs[k]? = some v → H2 p = some (.lst vs) ∧ tb { Dn with nx := Iv (k + 1), ct := Iv (k + 1), bk := Dn.nx } (σ2.set x (some v)) H2)
    (fin : ∀ σ2 H2, Iv vs.length σ2 H2 → H2 p = some (.lst vs) ∧ Dn.nx σ2 H2) :
    ∃ W : Nat → Nat → St → Hp → Prop, (∃ m, W 0 m σ H) ∧ ∀ i m σ H, W i m σ H →
      ((Itl K p).stop i H ∧ Dn.nx σ H) ∨ ((Itl K p).go i H ∧ ∃ N : St → Hp → Prop, (∀ σ' H', N σ' H' → ∃ m', m' < m ∧ W (i + 1) m' σ' H') ∧ ∀ y H', (Itl K p).yld i H y H' → gName x y σ H' fun σ2 H2 => tb { Dn with nx := N, ct := N, bk := Dn.nx } σ2 H2) := by
  refine ⟨fun k m σ2 H2 => m = vs.length - k ∧ k ≤ vs.length ∧ Iv k σ2 H2, ⟨vs.length, by simp, Nat.zero_le _, i0⟩, ?_⟩
  rintro k m σ2 H2 ⟨rfl, hk, I⟩
  by_cases hlt : k < vs.length
  · have ek := List.getElem?_eq_getElem hlt
    obtain ⟨hp, _⟩ := turn k σ2 H2 _ I ek
    refine .inr ⟨⟨vs, _, .inl (.inl hp), ek⟩, Iv (k + 1), fun σ' H' h => ⟨vs.length - (k + 1), by omega, rfl, hlt, h⟩, fun y H' hy => ?_⟩
    obtain ⟨e1, e2⟩ := hy
    subst e1
    have ey := e2 vs (.inl (.inl hp))
    exact (turn k σ2 _ y I ey).2
  · have e : k = vs.length := by omega
    subst e
    obtain ⟨hp, hn⟩ := fin σ2 H2 I
    exact .inl ⟨⟨vs, .inl (.inl hp), Nat.le_refl _⟩, hn⟩
theorem ps_over {nm : Expr} (hp : PassesOwn (model X.prog X.w) X.A X.env X.xe) (hc : X.calm = true) (hv : PE X nm (tVar i)) (hg : PG X tg (gName x)) (hb : PSs X body tb) (hs : ∀ x, foldedSetIterable nm X.env x = pure x := by intro _; rfl) : PS X (.For tg nm body [] pos) (tOver i x tb) :=
  PS_imp (ps_for hp hc (pi_sq hv) hg hb hs) fun Dn σ H ⟨p, vs, h1, h2, h3, Iv, i0, turn, fin⟩ =>
    ⟨_, h1, p, vs, rfl, .inl ⟨.inl (.inl h2), fun _ => over_core i0 turn fin⟩⟩
theorem ps_overS {nm hi : Expr} {n : Int} (hp : PassesOwn (model X.prog X.w) X.A X.env X.xe) (hc : X.calm = true) (hv : PE X nm (tVar i)) (hh : PE X hi (tC (.int n))) (hg : PG X tg (gName x)) (hb : PSs X body tb) (hs : ∀ x, foldedSetIterable (.Subscript nm (.Slice none (some hi) none p2) pos) X.env x = pure x := by intro _; rfl) {fpos : Pos} : PS X (.For tg (.Subscript nm (.Slice none (some hi) none p2) pos) body [] fpos) (tOverS i x n tb) :=
  PS_imp (ps_for hp hc (pi_sq (pe_slice sl_list hv po_none (po_some hh))) hg hb hs) fun Dn σ H ⟨p, us, h1, h2, h3⟩ =>
    ⟨_, h1, n, rfl, p, us, rfl, .inl (.inl h2), fun q hq => by
      obtain ⟨h4, Iv, i0, turn, fin⟩ := h3 q hq
      exact ⟨q, _, rfl, .inl ⟨.inl (.inl upd_same), fun _ => over_core i0 turn fin⟩⟩⟩
end
def LsM (m : Nat) (c : Mu) : Prop := ∀ (K : Fg) (H : Hp) (O : List Addr) (p : Addr), MuAt K H O p c → ∃ es, H p = some (.lst es) ∧ es.length ≤ m
theorem ls_lst {m : Nat} {xs : List D} (h : xs.length ≤ m) : LsM m (.lst xs) := fun K H O p ⟨es, h1, h2⟩ => ⟨es, h1, by rw [h2.length]; exact h⟩
theorem ls_mtl {m : Nat} {xs : List Fv} (h : xs.length ≤ m) : LsM m (mtl xs) := fun K H O p ⟨⟨vs, h1, h2⟩, _⟩ => ⟨vs, h1, by rw [h2.len]; exact h⟩
def IsLs (m : Nat) : Fv → Prop
  | .own c _ => LsM m c
  | .d _ => False
def keyF : Fv → List Addr
  | .own _ k => [k]
  | .d _ => []
def keysV : List Fv → List Addr
  | [] => []
  | f :: fs => keyF f ++ keysV fs
theorem keys_in : ∀ {xs : List Fv} {q : Addr}, q ∈ keysV xs → q ∈ innV xs
  | f :: fs, q, h => by
    rcases List.mem_append.mp h with z | z
    · cases f with
      | d x => cases z
      | own c k => exact List.mem_append.mpr (.inl (by rw [List.mem_singleton.mp z]; exact List.mem_cons_self))
    · exact List.mem_append.mpr (.inr (keys_in z))
section
variable {K : Fg} {F : Fx} {H : Hp} {O : List Addr} {σ : St} {ds : DS} {xs : List Fv} {vs : List V} {m : Nat}
theorem keys_at (h : FvL K H O vs xs) : (∀ f ∈ xs, IsLs m f) → ∀ q ∈ keysV xs, ∃ es, H q = some (.lst es) ∧ es.length ≤ m := by
  induction h with
  | nil => intro _ q hq; cases hq
  | @cons v x vs xs a _ ih =>
    intro hl q hq
    rcases List.mem_append.mp hq with z | z
    · have hx := hl x List.mem_cons_self
      cases x with
      | d x => cases z
      | own c k =>
        rw [List.mem_singleton.mp z]
        exact hx K H O k a.2
    · exact ih (fun f hf => hl f (List.mem_cons_of_mem _ hf)) q z
theorem keys_ref (h : FvL K H O vs xs) : (∀ f ∈ xs, IsLs m f) → ∀ {k : Nat} {v : V}, vs[k]? = some v → ∃ q ∈ keysV xs, v = .ref q := by
  induction h with
  | nil => intro _ k v e; simp at e
  | @cons v x vs xs a _ ih =>
    intro hl k w e
    cases k with
    | zero =>
      cases e
      have hx := hl x List.mem_cons_self
      cases x with
      | d x => exact hx.elim
      | own c q => exact ⟨q, List.mem_append.mpr (.inl List.mem_cons_self), a.1⟩
    | succ k =>
      obtain ⟨q, h1, h2⟩ := ih (fun f hf => hl f (List.mem_cons_of_mem _ hf)) (k := k) (by simpa using e)
      exact ⟨q, List.mem_append.mpr (.inr h1), h2⟩
theorem loose_of {i x : Nat} {c : Mu} {p : Addr} {A : List Addr} (hM : NoM F) (R : Rep K F H O σ ds) (e0 : ds.sl[i]? = some (some (.mu c p))) (σ0 : St) (ds0 : DS) (R0 : Rep K F H O σ0 ds0) (mo : ∀ j q, MutAt σ0 ds0 j q → i ≠ j ∧ MutAt σ ds j q) (hA : ∀ q ∈ A, (q = p ∨ q ∈ innM c) ∧ ∃ es, H q = some (.lst es) ∧ es.length ≤ m) : Loose K F O σ0 ds0 A m H := ⟨R0, fun q hq => by
  obtain ⟨h1, es, h2, h3⟩ := hA q hq
  have mq := R.mutP e0 h1
  refine ⟨R.mutO mq, ?_, fun j hj => (mo j q hj).1 (R.mu i j q mq (mo j q hj).2), es, h2, h3⟩
  rcases R.nm i c p q e0 mq with z | z
  · exact z
  · unfold NoM at hM; rw [hM] at z; cases z⟩
end
def dSpoil1 (i x : Nat) : DTS := fun E ds => x ≠ i ∧ x < ds.sl.length ∧ ∃ xs p, ds.sl[i]? = some (some (.mu (mtl xs) p)) ∧ xs.length ≤ 1000 ∧ (∀ f ∈ xs, IsLs 1000 f) ∧ E.nx ⟨(ds.sl.set i none).set x none, ds.n⟩
def dSpoil2 (i x y : Nat) : DTS := fun E ds => (x ≠ i ∧ y ≠ i ∧ x ≠ y) ∧ x < ds.sl.length ∧ y < ds.sl.length ∧ ∃ fs0 k0 fs1 k1 f2 p, ds.sl[i]? = some (some (.mu (mtl [.own (mtl fs0) k0, .own (mtl fs1) k1, f2]) p)) ∧ fs0.length ≤ 1000 ∧ fs1.length ≤ 1000 ∧ (∀ f ∈ fs0, IsLs 1000 f) ∧ (∀ f ∈ fs1, IsLs 1000 f) ∧ E.nx ⟨((ds.sl.set i none).set x none).set y none, ds.n⟩
section
variable {X : Cx} {F : Fx} {tg nm : Expr} {pos : Pos} {i x y : Nat} {u : V} {body : List Stmt}
theorem ds_spoil1 (hM : NoM F) (hp : PassesOwn (model X.prog X.w) X.A X.env X.xe) (hc : X.calm = true) (hv : PE X nm (tVar i)) (hg : PG X tg (gName x)) (hb : PSs X body (tApp x u)) (hs : ∀ x, foldedSetIterable nm X.env x = pure x := by intro _; rfl) : DSt X F (.For tg nm body [] pos) (dSpoil1 i x) :=
  PS_imp (ps_over hp hc hv hg hb hs) fun Dn σ H ⟨O, ds, E, R, ⟨nxi, hx, xs, p, e0, hl, hls, ht⟩, kk⟩ => by
    obtain ⟨v, ev, rfl, hO, ⟨vs, h1, h2⟩, nd⟩ := R.sl i _ e0
    have lx : x < σ.length := by rw [← R.len]; exact hx
    have R0 := (R.gone i).any x none
    have L0 : Loose X.K F O (σ.set x none) ⟨(ds.sl.set i none).set x none, ds.n⟩ (keysV xs) 1000 H := loose_of (x := x) hM R e0 _ _ R0 (fun j q hj => by
      obtain ⟨r, a1, d, a2, a3, a4⟩ := hj
      obtain ⟨n1, a2⟩ := sl_none_of a2
      obtain ⟨n2, a2⟩ := sl_none_of a2
      rw [none_ne n1] at a1
      exact ⟨n2, r, a1, d, a2, a3, a4⟩) fun q hq => ⟨.inr (keys_in hq), keys_at h2 hls q hq⟩
    have pn : p ∉ keysV xs := fun z => (List.nodup_cons.mp nd).1 (keys_in z)
    have lv := h2.len
    refine ⟨p, vs, ev, h1, by rw [sizeLine_eq]; omega, fun k σ2 H2 => k ≤ vs.length ∧ Loose X.K F O (σ.set x none) ⟨(ds.sl.set i none).set x none, ds.n⟩ (keysV xs) (1000 + k) H2 ∧ H2 p = some (.lst vs) ∧ Keep O H H2 ∧ (∀ a, H a ≠ none → H2 a ≠ none) ∧ ∃ a2, σ2 = (σ.set x none).set x a2, ⟨Nat.zero_le _, L0, h1, fun a o h _ => h, fun _ h => h, (σ[x]?).getD none, set_free.symm⟩, ?_, ?_⟩
    · rintro k σ2 H2 w ⟨hk, L, hp2, kp, dm, a2, rfl⟩ ew
      refine ⟨hp2, ?_⟩
      obtain ⟨q, hq, rfl⟩ := keys_ref h2 hls ew
      obtain ⟨q1, q2, q3, es, q4, q5⟩ := L.at_ q hq
      have hk2 : k < vs.length := (List.getElem?_eq_some_iff.mp ew).1
      refine ⟨q, es, by rw [List.getElem?_set_self (by simpa using lx)], q4, by rw [sizeLine_eq]; omega, hk2, L.app hq q4, by rw [upd_ne (fun z : p = q => pn (z ▸ hq))]; exact hp2, fun a o h n => by rw [upd_ne (fun z : a = q => n (z ▸ q1))]; exact kp a o h n, fun a h => ?_, some (.ref q), by rw [List.set_set]⟩
      by_cases z : a = q
      · subst z; rw [upd_same]; simp
      · rw [upd_ne z]; exact dm a h
    · rintro σ2 H2 ⟨_, L, hp2, kp, dm, a2, rfl⟩
      refine ⟨hp2, ?_⟩
      have Rf := L.rep.any x a2
      rw [show (DS.mk ((ds.sl.set i none).set x none) ds.n).sl.set x none = (ds.sl.set i none).set x none from List.set_set ..] at Rf
      exact kk.nx O _ _ H2 ⟨kp, grow_refl, dm⟩ Rf ht
theorem ds_spoil2 {tg2 nm2 hi : Expr} {p2 fpos2 : Pos} (hM : NoM F) (hp : PassesOwn (model X.prog X.w) X.A X.env X.xe) (hc : X.calm = true) (hv : PE X nm (tVar i)) (hh : PE X hi (tC (.int 2))) (hg : PG X tg (gName x)) (hv2 : PE X nm2 (tVar x)) (hg2 : PG X tg2 (gName y)) (hb : PSs X body (tApp y u))
    (hs : ∀ x, foldedSetIterable (.Subscript nm (.Slice none (some hi) none p2) pos) X.env x = pure x := by intro _; rfl) (hs2 : ∀ x, foldedSetIterable nm2 X.env x = pure x := by intro _; rfl) {fpos : Pos} :
    DSt X F (.For tg (.Subscript nm (.Slice none (some hi) none p2) pos) [.For tg2 nm2 body [] fpos2] [] fpos) (dSpoil2 i x y) :=
  PS_imp (ps_overS hp hc hv hh hg (pss_one (ps_over hp hc hv2 hg2 hb hs2)) hs) fun Dn σ H ⟨O, ds, E, R, ⟨⟨nxi, nyi, nxy⟩, hx, hy, fs0, k0, fs1, k1, f2, p, e0, l0, l1, hl0, hl1, ht⟩, kk⟩ => by
    obtain ⟨v, ev, rfl, hO, ⟨vs, h1, h2⟩, nd⟩ := R.sl i _ e0
    have lx : x < σ.length := by rw [← R.len]; exact hx
    have ly : y < σ.length := by rw [← R.len]; exact hy
    cases h2 with
    | @cons v0 _ _ _ g0 h2 =>
    cases h2 with
    | @cons v1 _ _ _ g1 h2 =>
    cases h2 with
    | @cons v2 _ _ _ g2 h2 =>
    cases h2
    obtain ⟨rfl, ⟨ws0, m0, m1⟩, nd0⟩ := g0
    obtain ⟨rfl, ⟨ws1, m2, m3⟩, nd1⟩ := g1
    have ndv : (innV [.own (mtl fs0) k0, .own (mtl fs1) k1, f2]).Nodup := (List.nodup_cons.mp nd).2
    have nda : ((k0 :: innV fs0) ++ ((k1 :: innV fs1) ++ (innF f2 ++ []))).Nodup := ndv
    obtain ⟨n1, n2, n3⟩ := List.nodup_append.mp nda
    obtain ⟨n4, n5, n6⟩ := List.nodup_append.mp n2
    have in0 : ∀ q, q ∈ keysV fs0 → q ∈ innM (mtl [.own (mtl fs0) k0, .own (mtl fs1) k1, f2]) := fun q hq => List.mem_append.mpr (.inl (List.mem_cons_of_mem _ (keys_in hq)))
    have in1 : ∀ q, q ∈ keysV fs1 → q ∈ innM (mtl [.own (mtl fs0) k0, .own (mtl fs1) k1, f2]) := fun q hq => List.mem_append.mpr (.inr (List.mem_append.mpr (.inl (List.mem_cons_of_mem _ (keys_in hq)))))
    have k0n : k0 ∉ keysV fs0 ++ keysV fs1 := fun z => by
      rcases List.mem_append.mp z with w | w
      · exact (List.nodup_cons.mp n1).1 (keys_in w)
      · exact n3 k0 List.mem_cons_self k0 (List.mem_append.mpr (.inl (List.mem_cons_of_mem _ (keys_in w)))) rfl
    have k1n : k1 ∉ keysV fs0 ++ keysV fs1 := fun z => by
      rcases List.mem_append.mp z with w | w
      · exact n3 k1 (List.mem_cons_of_mem _ (keys_in w)) k1 (List.mem_append.mpr (.inl List.mem_cons_self)) rfl
      · exact (List.nodup_cons.mp n4).1 (keys_in w)
    have R0 := ((R.gone i).any x none).any y none
    have mo : ∀ j q, MutAt ((σ.set x none).set y none) ⟨((ds.sl.set i none).set x none).set y none, ds.n⟩ j q → i ≠ j ∧ MutAt σ ds j q := fun j q hj => by
      obtain ⟨r, a1, d, a2, a3, a4⟩ := hj
      obtain ⟨n0, a2⟩ := sl_none_of a2
      obtain ⟨n1, a2⟩ := sl_none_of a2
      obtain ⟨n2, a2⟩ := sl_none_of a2
      rw [none_ne n0, none_ne n1] at a1
      exact ⟨n2, r, a1, d, a2, a3, a4⟩
    have L0 : Loose X.K F O ((σ.set x none).set y none) ⟨((ds.sl.set i none).set x none).set y none, ds.n⟩ (keysV fs0 ++ keysV fs1) 1000 H := loose_of (x := x) hM R e0 _ _ R0 mo fun q hq => by
      rcases List.mem_append.mp hq with w | w
      · exact ⟨.inr (in0 q w), keys_at m1 hl0 q w⟩
      · exact ⟨.inr (in1 q w), keys_at m3 hl1 q w⟩
    refine ⟨p, _, ev, h1, fun p3 hp3 => ?_⟩
    have ecut : cutV [V.ref k0, V.ref k1, v2] none (some 2) = [V.ref k0, V.ref k1] := rfl
    rw [ecut]
    have sm := same_new (o := .lst [V.ref k0, V.ref k1]) hp3
    have ne3 : ∀ {q o}, H q = some o → q ≠ p3 := fun h z => by rw [z, hp3] at h; cases h
    have L3 : Loose X.K F O ((σ.set x none).set y none) ⟨((ds.sl.set i none).set x none).set y none, ds.n⟩ (keysV fs0 ++ keysV fs1) 1000 (upd H p3 (.lst [V.ref k0, V.ref k1])) := ⟨L0.rep.grow sm grow_refl (fun _ h => h) (lo_same L0.rep.lo sm), fun q hq => by
      obtain ⟨a, b, c, es, d, e⟩ := L0.at_ q hq
      exact ⟨a, b, c, es, by rw [upd_ne (ne3 d)]; exact d, e⟩⟩
    have p3n : p3 ∉ keysV fs0 ++ keysV fs1 := fun z => by
      obtain ⟨_, _, _, es, d, _⟩ := L0.at_ p3 z
      rw [hp3] at d; cases d
    let S : Nat → Hp → Prop := fun n H2 => Loose X.K F O ((σ.set x none).set y none) ⟨((ds.sl.set i none).set x none).set y none, ds.n⟩ (keysV fs0 ++ keysV fs1) (1000 + n) H2 ∧ H2 p3 = some (.lst [V.ref k0, V.ref k1]) ∧ H2 k0 = some (.lst ws0) ∧ H2 k1 = some (.lst ws1) ∧ Keep O H H2 ∧ ∀ a, H a ≠ none → H2 a ≠ none
    have S0 : S 0 (upd H p3 (.lst [V.ref k0, V.ref k1])) := ⟨L3, upd_same, by rw [upd_ne (ne3 m0)]; exact m0, by rw [upd_ne (ne3 m2)]; exact m2, fun a o h n => by rw [upd_ne (ne3 h)]; exact h, fun a h => by
      by_cases z : a = p3
      · subst z; rw [upd_same]; simp
      · rw [upd_ne z]; exact h⟩
    have Smore : ∀ {n n' H2}, n ≤ n' → S n H2 → S n' H2 := fun h ⟨a, b⟩ => ⟨a.more (by omega), b⟩
    have Sapp : ∀ {n H2 q es}, S n H2 → q ∈ keysV fs0 ++ keysV fs1 → H2 q = some (.lst es) → S (n + 1) (upd H2 q (.lst (es ++ [u]))) := fun {n H2 q es} ⟨a, b, c, d, e, f⟩ hq he => by
      obtain ⟨q1, _⟩ := a.at_ q hq
      refine ⟨a.app hq he, by rw [upd_ne (fun z : p3 = q => p3n (z ▸ hq))]; exact b, by rw [upd_ne (fun z : k0 = q => k0n (z ▸ hq))]; exact c, by rw [upd_ne (fun z : k1 = q => k1n (z ▸ hq))]; exact d, fun w o h n => by rw [upd_ne (fun z : w = q => n (z ▸ q1))]; exact e w o h n, fun w h => ?_⟩
      by_cases z : w = q
      · subst z; rw [upd_same]; simp
      · rw [upd_ne z]; exact f w h
    have σeq : ∀ s : St, s.length = σ.length → (∀ l, l ≠ x → l ≠ y → s[l]? = σ[l]?) → s = (((σ.set x none).set y none).set x ((s[x]?).getD none)).set y ((s[y]?).getD none) := fun s hl ha => by
      refine List.ext_getElem? fun l => ?_
      by_cases ey : y = l
      · subst ey
        rw [List.getElem?_set_self (by simpa using ly), List.getElem?_eq_getElem (by omega)]; rfl
      · rw [List.getElem?_set_ne ey]
        by_cases ex : x = l
        · subst ex
          rw [List.getElem?_set_self (by simpa using lx), List.getElem?_eq_getElem (by omega)]; rfl
        · rw [List.getElem?_set_ne ex, List.getElem?_set_ne ey, List.getElem?_set_ne ex]
          exact ha l (fun z => ex z.symm) (fun z => ey z.symm)
    refine ⟨by rw [sizeLine_eq]; show 2 ≤ 16777216; omega, fun k σ2 H2 => k ≤ 2 ∧ S (k * 1000) H2 ∧ σ2.length = σ.length ∧ ∀ l, l ≠ x → l ≠ y → σ2[l]? = σ[l]?, ⟨by omega, S0, rfl, fun l _ _ => rfl⟩, ?_, ?_⟩
    · rintro k σ2 H2 w ⟨hk, s2, hl2, ha2⟩ ew
      refine ⟨s2.2.1, ?_⟩
      have inner : ∀ (kk0 : Addr) (ws : List V) (fs : List Fv), (fun H2 => S (k * 1000) H2 → H2 kk0 = some (.lst ws)) H2 → (∀ n H2, S n H2 → H2 kk0 = some (.lst ws)) → FvL X.K H O ws fs → (∀ f ∈ fs, IsLs 1000 f) → fs.length ≤ 1000 → (∀ q ∈ keysV fs, q ∈ keysV fs0 ++ keysV fs1) → k < 2 →
          tOver x y (tApp y u) { Dn with nx := fun σ2 H2 => k + 1 ≤ 2 ∧ S ((k + 1) * 1000) H2 ∧ σ2.length = σ.length ∧ ∀ l, l ≠ x → l ≠ y → σ2[l]? = σ[l]?, ct := fun σ2 H2 => k + 1 ≤ 2 ∧ S ((k + 1) * 1000) H2 ∧ σ2.length = σ.length ∧ ∀ l, l ≠ x → l ≠ y → σ2[l]? = σ[l]?, bk := Dn.nx } (σ2.set x (some (.ref kk0))) H2 := fun kk0 ws fs hk0 hkeep hfl hfs lf hin hk2 => by
        have lws := hfl.len
        refine ⟨kk0, ws, by rw [List.getElem?_set_self (by omega)], hk0 s2, by rw [sizeLine_eq]; omega, fun l σ3 H3 => l ≤ ws.length ∧ S (k * 1000 + l) H3 ∧ σ3.length = σ.length ∧ ∀ l, l ≠ x → l ≠ y → σ3[l]? = σ[l]?, ⟨by omega, s2, by rw [List.length_set]; exact hl2, fun l h1 h2 => by rw [List.getElem?_set_ne (fun z => h1 z.symm)]; exact ha2 l h1 h2⟩, ?_, ?_⟩
        · rintro l σ3 H3 w3 ⟨hl3, s3, hl4, ha3⟩ ew3
          refine ⟨hkeep _ _ s3, ?_⟩
          obtain ⟨q, hq, rfl⟩ := keys_ref hfl hfs ew3
          have hq2 := hin q hq
          obtain ⟨_, _, _, es, q4, q5⟩ := s3.1.at_ q hq2
          have hk3 : l < ws.length := (List.getElem?_eq_some_iff.mp ew3).1
          refine ⟨q, es, by rw [List.getElem?_set_self (by omega)], q4, by rw [sizeLine_eq]; omega, hk3, Sapp s3 hq2 q4, by rw [List.length_set]; exact hl4, fun l h1 h2 => by rw [List.getElem?_set_ne (fun z => h2 z.symm)]; exact ha3 l h1 h2⟩
        · rintro σ3 H3 ⟨_, s3, hl4, ha3⟩
          exact ⟨hkeep _ _ s3, by omega, Smore (by omega) s3, hl4, ha3⟩
      match k, ew with
      | 0, ew =>
        cases ew
        exact inner k0 ws0 fs0 (fun s => s.2.2.1) (fun n H2 s => s.2.2.1) m1 hl0 l0 (fun q hq => List.mem_append.mpr (.inl hq)) (by omega)
      | 1, ew =>
        cases ew
        exact inner k1 ws1 fs1 (fun s => s.2.2.2.1) (fun n H2 s => s.2.2.2.1) m3 hl1 l1 (fun q hq => List.mem_append.mpr (.inr hq)) (by omega)
      | k + 2, ew => simp at ew
    · rintro σ2 H2 ⟨_, s2, hl2, ha2⟩
      refine ⟨s2.2.1, ?_⟩
      have Rf := (s2.1.rep.any x ((σ2[x]?).getD none)).any y ((σ2[y]?).getD none)
      rw [← σeq σ2 hl2 ha2] at Rf
      have eds : ((((ds.sl.set i none).set x none).set y none).set x none).set y none = ((ds.sl.set i none).set x none).set y none := by
        rw [List.set_comm _ _ nxy.symm, List.set_set, List.set_set]
      have eds' : ({ sl := (({ sl := (({ sl := ((ds.sl.set i none).set x none).set y none, n := ds.n } : DS).sl.set x none), n := ds.n } : DS).sl.set y none), n := ds.n } : DS) = ⟨((ds.sl.set i none).set x none).set y none, ds.n⟩ := congrArg (fun l => (⟨l, ds.n⟩ : DS)) eds
      exact kk.nx O _ σ2 H2 ⟨s2.2.2.2.2.1, grow_refl, s2.2.2.2.2.2⟩ (eds' ▸ Rf) ht
end
def t_chainsT_0 : DTS :=
  (dSet 3 (dLc (dRng1 (dCons (dCB gLen (dCons (dOp2 gIx (dVar 0) (dC (.int 1))) dNil)) dNil)) (gdName 4) (dTst (dOp2 fNe (dOp2 gIx (dVar 1) (dVar 4)) (dOp2 gIx (dVar 2) (dVar 4)))) (dVar 4) [4]))
def t_chainsT_1 (sp_follow : DSp) : DTS :=
  (dRetT (dLcV (dSq (dVar 3)) (gdName 4) (dTst (dOp2 gNotIn (dOp2 gIx (dVar 1) (dVar 4)) (dVar 2))) (dCall sp_follow (fun as => as) (dCons (dVar 1) (dCons (dVar 2) (dCons (dVar 4) dNil)))) [4]))
def t_chainsT (sp_follow : DSp) : DTS := (dSeq (t_chainsT_0) (t_chainsT_1 sp_follow))
def t_ringsT_0 (sp_settled : DSp) : DTS :=
  (dSet 3 (dCall sp_settled (fun as => as) (dCons (dVar 0) (dCons (dVar 1) (dCons (dVar 2) dNil)))))
def t_ringsT_1 (sp_chainsT : DSp) : DTS :=
  (dFor (dSq (dFrzE (dCall sp_chainsT (fun as => as) (dCons (dVar 0) (dCons (dVar 1) (dCons (dVar 2) dNil)))))) (gdName 4) (dSet 3 (dOp2 fAdd (dVar 3) (dVar 4))))
def t_ringsT_2 : DTS :=
  (dSet 5 (dTreeE (dLst dNil)))
def t_ringsT_3 (sp_follow : DSp) : DTS :=
  (dFor (dRng1 (dCons (dCB gLen (dCons (dOp2 gIx (dVar 0) (dC (.int 1))) dNil)) dNil)) (gdName 6) (dIfS (dTst (dOp2 gNotIn (dVar 6) (dVar 3))) (dSeq (dAppV 5 (dCons (dCall sp_follow (fun as => as) (dCons (dVar 1) (dCons (dVar 2) (dCons (dVar 6) dNil)))) dNil))
    (dSet 3 (dBor [] 5 (dOp2 fAdd (dVar 3) (dOp2 gIx (dVar 5) (dOp1 fNeg (dC (.int 1)))))))) dNext))
def t_ringsT_4 : DTS :=
  (dRetM [] 5)
def t_ringsT (sp_settled : DSp) (sp_chainsT : DSp) (sp_follow : DSp) : DTS := (dSeq (t_ringsT_0 sp_settled) (dSeq (t_ringsT_1 sp_chainsT) (dSeq (t_ringsT_2) (dSeq (t_ringsT_3 sp_follow) (t_ringsT_4)))))
def t_way : DTS :=
  (dRet (dCB fSum (dCons (dLc (dZip2 (dCons (dVar 0) (dCons (dVar 1) dNil))) (gdTup 2 (gdCons (gdName 2) (gdCons (gdName 3) gdNil))) dYes (dCB fAbs (dCons (dOp2 fSub (dVar 2) (dVar 3)) dNil)) [2, 3]) dNil)))
def t_right_0 (sp_plant : DSp) : DTS :=
  (dTgt (gdTup 2 (gdCons (gdName 1) (gdCons (gdName 2) gdNil))) (dCall sp_plant (fun as => as) (dCons (dVar 0) (dCons (dC (.int 8)) (dCons (dC (.int 12)) dNil)))))
def t_right_1 (sp_goal : DSp) : DTS :=
  (dSet 3 (dCall sp_goal (fun as => as) (dCons (dVar 0) (dCons (dVar 1) (dCons (dVar 2) dNil)))))
def t_right_2 (sp_l_rings : DSp) : DTS :=
  (dSet 4 (dCall sp_l_rings (fun as => as) (dCons (dVar 2) (dCons (dVar 3) dNil))))
def t_right_3 : DTS :=
  (dSet 5 (dLst (dCons (dCB fSortedR (dCons (dLc (dSq (dVar 4)) (gdName 11) (dTst (dOp2 fIsNot (dOp2 gIx (dVar 11) (dOp1 fNeg (dC (.int 1)))) (dC .none))) (dVar 11) [11]) dNil)) dNil)))
def t_right_4 : DTS :=
  (dDrop (dMut 5 gAppend (dCons (dCB fSortedR (dCons (dLc (dSq (dVar 4)) (gdName 11) (dTst (dOp2 fIs (dOp2 gIx (dVar 11) (dOp1 fNeg (dC (.int 1)))) (dC .none))) (dSl (dVar 11) dNoP (dP (dOp1 fNeg (dC (.int 1))))) [11]) dNil)) dNil)))
def t_right_5 : DTS :=
  (dDrop (dMut 5 gAppend (dCons (dLc (dRng1 (dCons (dCB gLen (dCons (dVar 2) dNil)) dNil)) (gdName 14) (dTst (dOp2 fEq (dOp2 gIx (dVar 2) (dVar 14)) (dOp2 gIx (dVar 3) (dVar 14)))) (dVar 14) [14]) dNil)))
def t_right_6 (sp_lists : DSp) : DTS :=
  (dPar 6 7 (dCons (dCB fRepr (dCons (dLst (dCons (dVar 1) (dCons (dVar 2) (dCons (dVar 3) dNil)))) dNil)) (dCons (dCall sp_lists (fun as => as) (dCons (dLst (dCons (dVar 1) (dCons (dVar 2) (dCons (dVar 3) dNil)))) dNil)) dNil)))
def t_right_7 (sp_settled : DSp) (sp_chainsT : DSp) (sp_ringsT : DSp) : DTS :=
  (dSet 8 (dLstT (dCons (dCall sp_ringsT (fun as => as) (dCons (dVar 1) (dCons (dVar 2) (dCons (dVar 3) dNil)))) (dCons (dCall sp_chainsT (fun as => as) (dCons (dVar 1) (dCons (dVar 2) (dCons (dVar 3) dNil)))) (dCons (dCall sp_settled (fun as => as) (dCons (dVar 1) (dCons (dVar 2) (dCons (dVar 3) dNil)))) dNil)))))
def t_right_8 (sp_chainsT : DSp) (sp_ringsT : DSp) : DTS :=
  (dSet 9 (dLstT (dCons (dCall sp_ringsT (pick 3 [2, 1, 0]) (dCons (dOp2 gIx (dVar 7) (dC (.int 2))) (dCons (dOp2 gIx (dVar 7) (dC (.int 1))) (dCons (dOp2 gIx (dVar 7) (dC (.int 0))) dNil)))) (dCons (dCall sp_chainsT (pick 3 [2, 1, 0]) (dCons (dOp2 gIx (dVar 7) (dC (.int 2))) (dCons (dOp2 gIx (dVar 7) (dC (.int 1))) (dCons (dOp2 gIx (dVar 7) (dC (.int 0))) dNil)))) dNil))))
def t_right_9 (sp_settled : DSp) : DTS :=
  (dAppV 9 (dCons (dCall sp_settled (pick 3 [2, 1, 0]) (dCons (dOp2 gIx (dVar 7) (dC (.int 2))) (dCons (dOp2 gIx (dVar 7) (dC (.int 1))) (dCons (dOp2 gIx (dVar 7) (dC (.int 0))) dNil)))) dNil))
def t_right_10 (sp_same : DSp) : DTS :=
  (dFrzS 7 (dFrzS 5 (dIfS (dBorT [] 8 (dBorT [] 9 (dNot (dTr (dCall sp_same (fun as => as) (dCons (dLst (dCons (dVar 8) (dCons (dVar 9) dNil))) (dCons (dLst (dCons (dVar 5) (dCons (dVar 5) dNil))) dNil))))))) (dRet (dC (.bool false))) dNext)))
def t_right_11 : DTS :=
  (dSpoil1 8 10)
def t_right_12 : DTS :=
  (dSpoil2 9 10 11)
def t_right_13 (sp_settled : DSp) (sp_chainsT : DSp) (sp_ringsT : DSp) : DTS :=
  (dSet 8 (dLstT (dCons (dCall sp_ringsT (fun as => as) (dCons (dVar 1) (dCons (dVar 2) (dCons (dVar 3) dNil)))) (dCons (dCall sp_chainsT (fun as => as) (dCons (dVar 1) (dCons (dVar 2) (dCons (dVar 3) dNil)))) (dCons (dCall sp_settled (fun as => as) (dCons (dVar 1) (dCons (dVar 2) (dCons (dVar 3) dNil)))) dNil)))))
def t_right_14 : DTS :=
  (dSet 12 (dCB fSum (dCons (dLc (dZip2 (dCons (dVar 2) (dCons (dVar 3) dNil))) (gdTup 2 (gdCons (gdName 15) (gdCons (gdName 16) gdNil))) dYes (dOp2 fSub (dCB fMax (dCons (dVar 15) (dCons (dVar 16) dNil))) (dCB fMin (dCons (dVar 15) (dCons (dVar 16) dNil)))) [15, 16]) dNil)))
def t_right_15 (sp_same : DSp) (sp_way : DSp) : DTS :=
  (dFrzS 7 (dFrzS 5 (dIfS (dBorT [] 8 (dNot (dTr (dCall sp_same (fun as => as) (dCons (dLst (dCons (dVar 8) (dCons (dCall sp_way (fun as => as) (dCons (dVar 2) (dCons (dVar 3) dNil))) (dCons (dCall sp_way (pick 2 [1, 0]) (dCons (dOp2 gIx (dVar 7) (dC (.int 2))) (dCons (dOp2 gIx (dVar 7) (dC (.int 1))) dNil))) dNil)))) (dCons (dLst (dCons (dVar 5) (dCons (dVar 12) (dCons (dVar 12) dNil)))) dNil)))))) (dRet (dC (.bool false))) dNext)))
def t_right_16 : DTS :=
  (dSet 13 (dCB fList (dCons (dOp2 gIx (dVar 5) (dC (.int 2))) dNil)))
def t_right_17 : DTS :=
  (dFor (dSq (dOp2 fAdd (dOp2 gIx (dVar 5) (dC (.int 0))) (dOp2 gIx (dVar 5) (dC (.int 1))))) (gdName 11) (dSet 13 (dOp2 fAdd (dVar 13) (dVar 11))))
def t_right_18 : DTS :=
  (dIfS (dOr (dTst (dOp2 fNe (dCB fSorted (dCons (dVar 13) dNil)) (dRg1 mkL (dCB gLen (dCons (dVar 2) dNil))))) (dTst (dOp2 fNe (dCB fRepr (dCons (dLst (dCons (dVar 1) (dCons (dVar 2) (dCons (dVar 3) dNil)))) dNil)) (dVar 6)))) (dRet (dC (.bool false))) dNext)
def t_right_19 (sp_same : DSp) (sp_chainsT : DSp) (sp_ringsT : DSp) : DTS :=
  (dIfS (dNot (dTr (dCall sp_same (fun as => as) (dCons (dLst (dCons (dFrzE (dCall sp_ringsT (fun as => as) (dCons (dVar 1) (dCons (dVar 3) (dCons (dVar 3) dNil))))) (dCons (dFrzE (dCall sp_chainsT (fun as => as) (dCons (dVar 1) (dCons (dVar 3) (dCons (dVar 3) dNil))))) dNil))) (dCons (dLst (dCons (dLst dNil) (dCons (dLst dNil) dNil))) dNil))))) (dRet (dC (.bool false))) dNext)
def t_right_20 (sp_way : DSp) : DTS :=
  (dRet (dOp2 fEq (dCall sp_way (fun as => as) (dCons (dVar 3) (dCons (dVar 3) dNil))) (dC (.int 0))))
def t_right (sp_plant : DSp) (sp_goal : DSp) (sp_l_rings : DSp) (sp_lists : DSp) (sp_settled : DSp) (sp_chainsT : DSp) (sp_ringsT : DSp) (sp_same : DSp) (sp_way : DSp) : DTS := (dSeq (t_right_0 sp_plant) (dSeq (t_right_1 sp_goal) (dSeq (t_right_2 sp_l_rings) (dSeq (t_right_3) (dSeq (t_right_4) (dSeq (t_right_5) (dSeq (t_right_6 sp_lists) (dSeq (t_right_7 sp_settled sp_chainsT sp_ringsT) (dSeq (t_right_8 sp_chainsT sp_ringsT) (dSeq (t_right_9 sp_settled) (dSeq (t_right_10 sp_same) (dSeq (t_right_11) (dSeq (t_right_12) (dSeq (t_right_13 sp_settled sp_chainsT sp_ringsT) (dSeq (t_right_14) (dSeq (t_right_15 sp_same sp_way) (dSeq (t_right_16) (dSeq (t_right_17) (dSeq (t_right_18) (dSeq (t_right_19 sp_same sp_chainsT sp_ringsT) (t_right_20 sp_way)))))))))))))))))))))
def OkO : Option DV → Prop
  | some (.own xs) => flatL xs = true
  | some (.mu c _) => UpM c
  | _ => True
def OkSl : List (Option DV) → Prop
  | [] => True
  | o :: r => OkO o ∧ OkSl r
theorem ok_at : ∀ {sl : List (Option DV)} {j : Nat} {d : DV}, OkSl sl → sl[j]? = some (some d) → ¬ isMut d ∨ UpDV d
  | [], j, d, _, h => by simp at h
  | o :: r, 0, d, h, e => by
    cases e
    have := h.1
    cases d with
    | own xs => exact .inr this
    | mu c p => exact .inr this
    | box => exact .inr trivial
    | d x => exact .inl id
    | fd c => exact .inl id
    | exc a b => exact .inl id
    | slot i => exact .inl id
  | o :: r, j + 1, d, h, e => ok_at h.2 (by simpa using e)
theorem safe_ok {sl : List (Option DV)} {i : Nat} {a : Option DV} (h : OkSl sl) : ∀ (j : Nat) (d2 : DV), i ≠ j → (sl.set i a)[j]? = some (some d2) → SafeB sl[j]? d2 := fun j d2 nj e => by
  rw [List.getElem?_set_ne nj] at e
  rcases ok_at h e with z | z
  · exact .inl ⟨e, z⟩
  · exact .inr (.inl z)
theorem lcV_in {w : DTI} {g : DTG} {tt : DTT} {te : DTE} {vs : List Nat} {ds ds1 : DS} {its : List D} {Q : DV → DS → Prop} (hw : ∀ K : List D → DS → Prop, K its ds1 → w ds K) (hb : noBox ds1.sl vs = true) (P : Nat → List Fv → DS → Prop) (h0 : P 0 [] ⟨wipeD ds1.sl vs, ds1.n⟩)
    (hs : ∀ (i : Nat) d acc ds2, its[i]? = some d → P i acc ds2 → g d ds2 fun ds3 => tt ds3 fun b ds4 => match b with
      | true => te ds4 fun y ds5 => itP (fun f => P (i + 1) (acc ++ [f]) ⟨wipeD ds5.sl vs, ds5.n⟩) y
      | false => P (i + 1) acc ⟨wipeD ds4.sl vs, ds4.n⟩)
    (hf : ∀ acc ds2, P its.length acc ds2 → ∀ D, Q (.mu (mtl acc) D) ⟨restD ds2.sl ds1.sl vs, ds2.n⟩) : dLcV w g tt te vs ds Q := by
  unfold dLcV
  refine hw _ ?_
  rw [hb]
  exact ⟨P, h0, hs, hf⟩
inductive TrL : List (List Nat) → List Fv → Prop
  | nil : TrL [] []
  | cons {l : List Nat} {k : Addr} {ls : List (List Nat)} {fs : List Fv} : TrL ls fs → TrL (l :: ls) (.own (.lst (l.map nD)) k :: fs)
theorem fl_nd : ∀ xs : List Nat, flatL (xs.map nD) = true := fun xs => by
  induction xs with
  | nil => rfl
  | cons x xs ih => simp only [List.map_cons, flatL, ih, Bool.and_true]; rfl
theorem TrL.fz {ls : List (List Nat)} {fs : List Fv} (h : TrL ls fs) : FzL fs (ls.map lD) := by
  induction h with
  | nil => exact .nil
  | cons _ ih => exact .cons fz_lst ih
theorem TrL.up {ls : List (List Nat)} {fs : List Fv} (h : TrL ls fs) : ∀ f ∈ fs, UpF f := by
  induction h with
  | nil => intro f hf; cases hf
  | @cons l k ls fs _ ih =>
    intro f hf
    rcases List.mem_cons.mp hf with z | z
    · rw [z]; exact up_lst (fl_nd l)
    · exact ih f z
theorem TrL.len {ls : List (List Nat)} {fs : List Fv} (h : TrL ls fs) : fs.length = ls.length := by
  induction h with
  | nil => rfl
  | cons _ ih => rw [List.length_cons, List.length_cons, ih]
theorem TrL.snoc {ls : List (List Nat)} {fs : List Fv} (h : TrL ls fs) {l : List Nat} {k : Addr} : TrL (ls ++ [l]) (fs ++ [.own (.lst (l.map nD)) k]) := by
  induction h with
  | nil => exact .cons .nil
  | cons _ ih => exact .cons ih
theorem TrL.ls {m : Nat} {ls : List (List Nat)} {fs : List Fv} (h : TrL ls fs) : (∀ l ∈ ls, l.length ≤ m) → ∀ f ∈ fs, IsLs m f := by
  induction h with
  | nil => intro _ f hf; cases hf
  | @cons l k ls fs _ ih =>
    intro hl f hf
    rcases List.mem_cons.mp hf with z | z
    · rw [z]; exact ls_lst (by rw [List.length_map]; exact hl l List.mem_cons_self)
    · exact ih (fun l h => hl l (List.mem_cons_of_mem _ h)) f z
def sp_chainsT : DSp := fun args n Q _ => ∃ t u v gs ps st gl, args = [.d (shQ t gs ps), .d (stD u st), .d (stD v gl)] ∧ Arg2 ps st gl ∧ ∀ fs p, TrL (chN st gl) fs → Q (.mu (mtl fs) p) n
theorem r_chainsT : ∀ args n Qa Ea, sp_chainsT args n Qa Ea → t_chainsT sp_follow (fin Qa) (startD 5 args n) := by
  rintro args n Qa Ea ⟨t, u, v, gs, ps, st, gl, rfl, A, hq⟩
  have l1 := A.two.l1
  have l2 := A.two.l2
  have le := A.le
  have T : Two st.length st gl := ⟨rfl, by omega, A.two.n1, A.two.n2⟩
  refine lc_map nD (List.range st.length) (keepN fun i => !(st.getD i 0 == gl.getD i 0)) (ds1 := ⟨[some (.d (shQ t gs ps)), some (.d (stD u st)), some (.d (stD v gl)), none, none], n⟩) (fun K hK => ?_) rfl (fun i hi acc P hP => ?_) ?_
  · refine ixl1 (lenQ ?_)
    rw [List.length_map]
    refine ⟨by omega, by omega, ?_⟩
    rw [show ((ps.length : Nat) : Int).toNat = st.length by omega, range_nD]
    exact hK
  · have hi' := List.mem_range.mp hi
    refine ixN_ints hi' (ixN_ints (by omega) (fne_int ?_))
    have := keep_stepN hP
    revert this
    cases (!(st.getD i 0 == gl.getD i 0)) <;> exact id
  · rw [fm_keepN]
    have main : (dRetT (dLcV (dSq (dVar 3)) (gdName 4) (dTst (dOp2 gNotIn (dOp2 gIx (dVar 1) (dVar 4)) (dVar 2))) (dCall sp_follow (fun as => as) (dCons (dVar 1) (dCons (dVar 2) (dCons (dVar 4) dNil)))) [4])) (fin Qa) ⟨[some (.d (shQ t gs ps)), some (.d (stD u st)), some (.d (stD v gl)), some (.own ((unN st gl).map nD)), none], n⟩ := by
      unfold dRetT
      refine lcV_in (vs := [4]) (w := dSq (dVar 3)) (ds := ⟨[some (.d (shQ t gs ps)), some (.d (stD u st)), some (.d (stD v gl)), some (.own ((unN st gl).map nD)), none], n⟩) (its := (unN st gl).map nD) (ds1 := ⟨[some (.d (shQ t gs ps)), some (.d (stD u st)), some (.d (stD v gl)), some (.d (.list ((unN st gl).map nD))), none], n⟩) (fun K hK => hK) rfl
        (fun i acc ds => ds = ⟨[some (.d (shQ t gs ps)), some (.d (stD u st)), some (.d (stD v gl)), some (.d (.list ((unN st gl).map nD))), none], n⟩ ∧ TrL ((((unN st gl).take i).filter fun i => !gl.contains (st.getD i 0)).map (folN st gl)) acc) ⟨rfl, by rw [List.take_zero]; exact .nil⟩ ?_ ?_
      · rintro i d acc ds2 hi ⟨rfl, ha⟩
        rw [List.getElem?_map] at hi
        cases ex : (unN st gl)[i]? with
        | none => rw [ex] at hi; cases hi
        | some m =>
          rw [ex] at hi
          cases hi
          have hm := List.mem_range.mp (List.mem_filter.mp (List.mem_of_getElem? ex)).1
          refine ixN_ints hm (notIn_ints ?_)
          have et : (unN st gl).take (i + 1) = (unN st gl).take i ++ [m] := take_snoc ex
          cases hc : (!gl.contains (st.getD m 0)) with
          | true =>
            refine ⟨u, v, st, gl, m, rfl, T, hm, by omega, fun k => ⟨rfl, ?_⟩⟩
            rw [et, List.filter_append, List.map_append, List.filter_cons, hc]
            exact ha.snoc
          | false =>
            refine ⟨rfl, ?_⟩
            rw [et, List.filter_append, List.map_append, List.filter_cons, hc]
            show TrL (_ ++ []) acc
            rw [List.append_nil]
            exact ha
      · rintro acc ds2 ⟨rfl, ha⟩ D
        rw [List.length_map, List.take_length, hd_un T] at ha
        exact hq acc D ha
    exact main
def sp_ringsT : DSp := fun args n Q _ => ∃ t u v gs ps st gl, args = [.d (shQ t gs ps), .d (stD u st), .d (stD v gl)] ∧ Arg2 ps st gl ∧ ∀ fs p, TrL (riN st gl) fs → Q (.mu (mtl fs) p) n
theorem r_ringsT : ∀ args n Qa Ea, sp_ringsT args n Qa Ea → t_ringsT sp_settled sp_chainsT sp_follow (fin Qa) (startD 7 args n) := by
  rintro args n Qa Ea ⟨t, u, v, gs, ps, st, gl, rfl, A, hq⟩
  have l1 := A.two.l1
  have l2 := A.two.l2
  have le := A.le
  have T : Two st.length st gl := ⟨rfl, by omega, A.two.n1, A.two.n2⟩
  refine ⟨t, u, v, gs, ps, st, gl, rfl, A, ?_⟩
  refine ⟨t, u, v, gs, ps, st, gl, rfl, A, fun gfs gp htr => ⟨_, fz_mtl htr.fz, for_run ?_⟩⟩
  have turn : ∀ (ms : List Nat) (d : List Nat) (fd : List (List Nat)) (fs : List Fv) (p : Addr) (m4 m6 : Option DV), (∀ m ∈ ms, m < st.length) → d.length + 100 * ms.length ≤ 100000 → fd.length + ms.length ≤ 1000 → TrL fd fs → OkO m4 → OkO m6 → (∀ fs p, TrL (fd ++ rgN st gl ms d) fs → Qa (.mu (mtl fs) p) n) →
      forR (gdName 6) (dIfS (dTst (dOp2 gNotIn (dVar 6) (dVar 3))) (dSeq (dAppV 5 (dCons (dCall sp_follow (fun as => as) (dCons (dVar 1) (dCons (dVar 2) (dCons (dVar 6) dNil)))) dNil))
    (dSet 3 (dBor [] 5 (dOp2 fAdd (dVar 3) (dOp2 gIx (dVar 5) (dOp1 fNeg (dC (.int 1)))))))) dNext) { fin Qa with nx := t_ringsT_4 (fin Qa) } (ms.map nD) ⟨[some (.d (shQ t gs ps)), some (.d (stD u st)), some (.d (stD v gl)), some (.own (d.map nD)), m4, some (.mu (mtl fs) p), m6], n⟩ := by
    intro ms
    induction ms with
    | nil =>
      intro d fd fs p m4 m6 _ _ _ ht _ _ hq
      rw [show rgN st gl [] d = [] from rfl, List.append_nil] at hq
      exact ⟨_, _, rfl, (fun q hq => by cases hq), hq fs p ht⟩
    | cons m ms ih =>
      intro d fd fs p m4 m6 hm hd hf ht o4 o6 hq
      simp only [List.length_cons] at hd hf
      have hm0 := hm m (by simp)
      refine notIn_nats ?_
      unfold rgN at hq
      cases hc : d.contains m with
      | true =>
        rw [hc, if_pos rfl] at hq
        exact ih d fd fs p m4 _ (fun k hk => hm k (List.mem_cons_of_mem _ hk)) (by omega) (by omega) ht o4 trivial hq
      | false =>
        rw [hc, if_neg Bool.false_ne_true] at hq
        have lt := ht.len
        refine ⟨_, _, rfl, by omega, ?_⟩
        refine ⟨u, v, st, gl, m, rfl, T, hm0, by omega, ?_⟩
        refine ⟨rfl, fun k => ?_⟩
        have ht2 : TrL (fd ++ [folN st gl m]) (fs ++ [.own (.lst ((folN st gl m).map nD)) k]) := ht.snoc
        have fz := fz_mtl ht2.fz
        rw [List.map_append] at fz
        refine ⟨_, _, rfl, ⟨fz, fun q hq => by cases hq⟩, ?_⟩
        refine ix_last ?_
        have fl := fol_len T hm0
        refine ⟨by rw [List.length_map, List.length_map]; omega, ?_⟩
        have ea : d.map nD ++ (folN st gl m).map nD = (d ++ folN st gl m).map nD := by rw [List.map_append]
        rw [ea]
        refine ⟨fl_nd _, safe_ok (i := 5) ⟨trivial, trivial, trivial, fl_nd d, o4, up_mtl ht2.up, trivial, trivial⟩, ?_⟩
        exact ih (d ++ folN st gl m) (fd ++ [folN st gl m]) _ p m4 (some (.d (nD m))) (fun k hk => hm k (List.mem_cons_of_mem _ hk)) (by rw [List.length_append]; omega) (by rw [List.length_append, List.length_singleton]; omega) ht2 o4 trivial (by rw [List.append_assoc]; exact hq)
  have rest : ∀ m4, OkO m4 → (dSeq t_ringsT_2 (dSeq (t_ringsT_3 sp_follow) t_ringsT_4)) (fin Qa) ⟨[some (.d (shQ t gs ps)), some (.d (stD u st)), some (.d (stD v gl)), some (.own ((dnN st gl).map nD)), m4, none, none], n⟩ := by
    intro m4 o4
    refine few_in (n := 0) (by omega) fun p => ?_
    refine ixl1 (lenQ ?_)
    rw [List.length_map]
    refine ⟨by omega, by omega, ?_⟩
    rw [show ((ps.length : Nat) : Int).toNat = st.length by omega, range_nD]
    refine for_run (turn (List.range st.length) (dnN st gl) [] [] p m4 none (fun m hm => List.mem_range.mp hm) ?_ (by rw [List.length_range]; simp; omega) .nil o4 trivial (by rw [List.nil_append]; exact hq))
    rw [List.length_range]
    unfold dnN
    rw [List.length_append]
    have a : (stN st gl).length ≤ st.length := filt_len
    have b : ∀ hs : List Nat, (∀ h ∈ hs, h < st.length) → ((hs.map (folN st gl)).flatten).length ≤ 100 * hs.length := by
      intro hs
      induction hs with
      | nil => intro _; simp
      | cons x xs ih =>
        intro h
        simp only [List.map_cons, List.flatten_cons, List.length_append, List.length_cons]
        have := fol_len T (h x (by simp))
        have := ih fun y hy => h y (List.mem_cons_of_mem _ hy)
        omega
    have c := b (hdN st gl) fun h hh => List.mem_range.mp (List.mem_filter.mp hh).1
    have d : (hdN st gl).length ≤ st.length := filt_len
    have e : ((chN st gl).flatten).length ≤ 100 * (hdN st gl).length := c
    omega
  have loop : ∀ (cs : List (List Nat)) (d : List Nat) (m4 : Option DV), OkO m4 → (∀ c ∈ cs, c.length ≤ 100) → d.length + 100 * cs.length ≤ 100000 → d ++ cs.flatten = dnN st gl →
      forR (gdName 4) (dSet 3 (dOp2 fAdd (dVar 3) (dVar 4))) { fin Qa with nx := (dSeq t_ringsT_2 (dSeq (t_ringsT_3 sp_follow) t_ringsT_4)) (fin Qa) } (cs.map lD) ⟨[some (.d (shQ t gs ps)), some (.d (stD u st)), some (.d (stD v gl)), some (.own (d.map nD)), m4, none, none], n⟩ := by
    intro cs
    induction cs with
    | nil =>
      intro d m4 o4 _ _ hd
      rw [List.flatten_nil, List.append_nil] at hd
      rw [hd]
      exact rest m4 o4
    | cons c cs ih =>
      intro d m4 o4 hc hl hd
      simp only [List.length_cons] at hl
      have c0 := hc c (by simp)
      refine ⟨by rw [List.length_map, List.length_map]; omega, ?_⟩
      have := ih (d ++ c) (some (.d (lD c))) trivial (fun x hx => hc x (List.mem_cons_of_mem _ hx)) (by rw [List.length_append]; omega) (by rw [List.append_assoc]; simpa using hd)
      rw [List.map_append] at this
      exact this
  refine loop (chN st gl) (stN st gl) none trivial (fun c hc => ?_) ?_ rfl
  · obtain ⟨h, hh, rfl⟩ := List.mem_map.mp hc
    have := fol_len T (List.mem_range.mp (List.mem_filter.mp hh).1)
    omega
  · have a : (stN st gl).length ≤ st.length := filt_len
    have d : (hdN st gl).length ≤ st.length := filt_len
    unfold chN
    rw [List.length_map]
    omega
theorem nd_ints (ls : List Nat) : ls.map nD = (ls.map fun (l : Nat) => (l : Int)).map .int := by
  rw [List.map_map]; rfl
section
variable {t : Bool} {gs : List Int} {ps : List (Int × Int)} {s0 : List Int} {ls : List Nat} {n : Nat} {E : DEn} {a3 a4 a5 a6 a7 a8 a9 : Option DV}
variable {FL : List FdN} {LL es : List EN} {p3 p6 : Addr} {σ τ : List Int} {c : Nat}
def nfF (FL : List FdN) (τ : List Int) : Bool := !(FL.map (·.1)).contains τ
end
section
variable {t : Bool} {gs : List Int} {ps : List (Int × Int)} {s0 : List Int} {ls : List Nat} {n : Nat} {E : DEn} {a3 a4 a5 a6 a7 a8 a9 : Option DV}
variable {FL : List FdN} {LL es : List EN} {p3 p6 : Addr} {σ τ : List Int} {c M : Nat} {V : List Int → Prop}
def prF (FL : List FdN) (σ : List Int) (c : Nat) (dl : List Ex) : List EN := ((dl.map (afterZ σ)).filter (nfF FL)).map fun t => (t, c)
end
section
variable {ps : List (Int × Int)} {found : List (Option Int)} {n : Nat} {E : DEn} {u w : Bool} {A0 : D} {s : Int}
abbrev g1 : DTS := (dSet 4 (dLc (dEnum (dCons (dVar 1) dNil)) (gdTup 2 (gdCons (gdName 6) (gdCons (gdName 5) gdNil))) (dTst (dOp2 fIs (dOp2 gIx (dVar 2) (dVar 6)) (dC .none))) (dTup (dCons (dOp2 gIx (dVar 5) (dC (.int 1))) (dCons (dVar 6) dNil))) [6, 5]))
abbrev g2 : DTS := (dSet 4 (dLc (dSq (dVar 4)) (gdTup 2 (gdCons (gdName 7) (gdCons (gdName 6) gdNil))) (dTr (dCall sp_takes (fun as => as) (dCons (dOp2 gIx (dVar 1) (dVar 6)) (dCons (dVar 3) dNil)))) (dTup (dCons (dVar 7) (dCons (dVar 6) dNil))) [7, 6]))
abbrev g3 : DTS := (dIfS (dTst (dOp2 fGt (dCB gLen (dCons (dVar 4) dNil)) (dC (.int 0)))) (dSetIx 2 (dOp2 gIx (dCB gMinD (dCons (dVar 4) dNil)) (dC (.int 1))) (dVar 3)) dNext)
end
theorem rangeD0 {k : Nat} : rangeD 0 k = (List.range k).map fun i => .int ((i : Nat) : Int) := by
  unfold rangeD
  refine List.map_congr_left fun i _ => ?_
  rw [Int.zero_add]
section
variable {gs : List Int} {ps : List (Int × Int)} {n : Nat} {E : DEn}
abbrev e1 : DTS := (dPar 3 4 (dCons (dLc (dSq (dOp2 gIx (dVar 0) (dC (.int 0)))) (gdName 6) (dTr (dCall sp_l_fits (fun as => as) (dCons (dVar 0) (dCons (dVar 2) (dCons (dVar 6) dNil))))) (dVar 6) [6]) (dCons (dLst dNil) dNil)))
abbrev e2b : DTS := (dDrop (dMut 4 gExtend (dCons (dLc (dSq (dVar 3)) (gdName 6) (dTst (dOp2 gNotIn (dVar 6) (dVar 5))) (dOp2 fAdd (dVar 5) (dTup (dCons (dVar 6) dNil))) [6]) dNil)))
abbrev e2 : DTS := (dFor (dSq (dVar 1)) (gdName 5) e2b)
end
end SF
namespace SF
end SF
namespace SF
end SF
namespace SF
open PySem PySem.Spec PyProof.Rows L2
section
variable {gs : List Int} {ps : List (Int × Int)} {s0 : List Int} {ls : List Nat}
theorem leR_iff {a b : List Int} : leR a b = true ↔ a ≤ b := by unfold leR; exact decide_eq_true_iff
end
section
variable {st gl : List Int} {n : Nat}
theorem fol_cons10 {o : Option Nat} {m : Nat} (W : Wlk n st gl m (folN st gl m) o) : ∃ t, folN st gl m = m :: t := W.hd
theorem rg_asc (T : Two n st gl) : ∀ (ms d : List Nat), ms.Pairwise (· < ·) → (∀ m ∈ ms, m < n) → (∀ x ∈ dnN st gl, x ∈ d) → (rgN st gl ms d).Pairwise (fun a b => ∃ x y s t, a = x :: s ∧ b = y :: t ∧ x < y) ∧ ∀ l ∈ rgN st gl ms d, ∃ m ∈ ms, ∃ t, l = m :: t
  | [], d, _, _, _ => ⟨List.Pairwise.nil, fun l hl => by cases hl⟩
  | m :: ms, d, hp, hn, hd => by
    obtain ⟨h1, h2⟩ := List.pairwise_cons.mp hp
    unfold rgN
    by_cases hc : d.contains m = true
    · rw [if_pos hc]
      obtain ⟨a, b⟩ := rg_asc T ms d h2 (fun k hk => hn k (List.mem_cons_of_mem _ hk)) hd
      exact ⟨a, fun l hl => by
        obtain ⟨k, hk, r⟩ := b l hl
        exact ⟨k, List.mem_cons_of_mem _ hk, r⟩⟩
    · rw [if_neg hc]
      obtain ⟨a, b⟩ := rg_asc T ms (d ++ folN st gl m) h2 (fun k hk => hn k (List.mem_cons_of_mem _ hk)) fun x hx => List.mem_append.mpr (.inl (hd x hx))
      have hm : m ∉ dnN st gl := fun z => hc (List.contains_iff_mem.mpr (hd m z))
      obtain ⟨t, et⟩ := fol_cons10 (ring_end T (hn m List.mem_cons_self) hm)
      refine ⟨List.pairwise_cons.mpr ⟨fun l hl => ?_, a⟩, fun l hl => ?_⟩
      · obtain ⟨k, hk, s, rfl⟩ := b l hl
        exact ⟨m, k, t, s, et, rfl, h1 k hk⟩
      · rcases List.mem_cons.mp hl with z | z
        · exact ⟨m, List.mem_cons_self, t, by rw [z]; exact et⟩
        · obtain ⟨k, hk, r⟩ := b l z
          exact ⟨k, List.mem_cons_of_mem _ hk, r⟩
abbrev iL (l : List Nat) : List Int := l.map fun (i : Nat) => (i : Int)
theorem le_heads {a b : List Nat} (h : ∃ x y s t, a = x :: s ∧ b = y :: t ∧ x < y) : leR (iL a) (iL b) = true := by
  obtain ⟨x, y, s, t, rfl, rfl, hxy⟩ := h
  rw [leR_iff]
  show (((x : Nat) : Int) :: iL s) ≤ (((y : Nat) : Int) :: iL t)
  rw [List.cons_le_cons_iff]
  left
  omega
theorem lD_rw (l : List Nat) : lD l = rwE (iL l) := by
  unfold lD rwE iL
  rw [List.map_map]; rfl
theorem sort_heads {ls : List (List Nat)} (h : ls.Pairwise fun a b => ∃ x y s t, a = x :: s ∧ b = y :: t ∧ x < y) (hl : ls.length ≤ 4000) {Q : DV → Prop} (q : Q (.own (ls.map lD))) : fSortedR [.list (ls.map lD)] Q := by
  have e : ls.map lD = (ls.map iL).map rwE := by rw [List.map_map]; exact List.map_congr_left fun l _ => lD_rw l
  rw [e]
  refine sortedR_i (by rw [List.length_map]; exact hl) ?_
  have em : (ls.map iL).mergeSort leR = ls.map iL := by
    refine List.mergeSort_of_pairwise ?_
    rw [List.pairwise_map]
    exact h.imp le_heads
  rw [em, ← e]
  exact q
theorem ri_asc10 (T : Two n st gl) : (riN st gl).Pairwise fun a b => ∃ x y s t, a = x :: s ∧ b = y :: t ∧ x < y := by
  refine (rg_asc T (List.range st.length) (dnN st gl) List.pairwise_lt_range (fun m hm => by rw [← T.l1]; exact List.mem_range.mp hm) fun x hx => hx).1
theorem ch_asc10 (T : Two n st gl) : (chN st gl).Pairwise fun a b => ∃ x y s t, a = x :: s ∧ b = y :: t ∧ x < y := by
  unfold chN
  rw [List.pairwise_map]
  have hp : (hdN st gl).Pairwise (· < ·) := List.Pairwise.sublist List.filter_sublist List.pairwise_lt_range
  refine List.Pairwise.imp_of_mem (fun {a b} ha hb h => ?_) hp
  obtain ⟨t, et⟩ := fol_cons10 (chain_end T ha)
  obtain ⟨s, es⟩ := fol_cons10 (chain_end T hb)
  exact ⟨a, b, t, s, et, es, h⟩
theorem all_once (T : Two n st gl) : (stN st gl ++ (riN st gl).flatten ++ (chN st gl).flatten).Perm (List.range n) := by
  have C := cov_all (gs := gl) T fun g h => h
  have mm : mems (covW st gl).flatten = (riN st gl).flatten ++ (chN st gl).flatten := by
    rw [mems_flat]
    unfold covW
    rw [List.map_append, List.map_map, List.map_map, List.flatten_append]
    congr 2
    · exact (List.map_congr_left fun l _ => mems_r).trans (List.map_id _)
    · exact (List.map_congr_left fun l _ => mems_c).trans (List.map_id _)
  have an := all_nd T
  obtain ⟨h1, h2, h3⟩ := List.nodup_append.mp an
  obtain ⟨h4, h5, h6⟩ := List.nodup_append.mp h1
  have rl : ∀ l ∈ riN st gl, ∀ x ∈ l, x < n := fun l hl x hx => by
    obtain ⟨m, a, b, rfl⟩ := ri_lt T hl
    exact (ring_end T a b).lt x hx
  have cl : ∀ l ∈ chN st gl, ∀ x ∈ l, x < n := fun l hl x hx => by
    obtain ⟨m, a, _, rfl⟩ := ch_lt T hl
    exact (chain_end T a).lt x hx
  refine (List.perm_ext_iff_of_nodup ?_ List.nodup_range).mpr fun i => ?_
  · refine List.nodup_append.mpr ⟨List.nodup_append.mpr ⟨h4, h2, fun a ha b hb => h3 a (List.mem_append.mpr (.inl ha)) b hb⟩, h5, fun a ha b hb => ?_⟩
    rcases List.mem_append.mp ha with z | z
    · exact h6 a z b hb
    · exact fun e => h3 b (List.mem_append.mpr (.inr hb)) a z e.symm
  · rw [List.mem_range, List.mem_append, List.mem_append]
    constructor
    · rintro ((h | h) | h)
      · rw [← T.l1]; exact List.mem_range.mp (List.mem_filter.mp h).1
      · obtain ⟨l, hl, hx⟩ := List.mem_flatten.mp h
        exact rl l hl i hx
      · obtain ⟨l, hl, hx⟩ := List.mem_flatten.mp h
        exact cl l hl i hx
    · intro hi
      by_cases hm : i ∈ mems (covW st gl).flatten
      · rw [mm] at hm
        rcases List.mem_append.mp hm with z | z
        · exact .inl (.inr z)
        · exact .inr z
      · refine .inl (.inl (List.mem_filter.mpr ⟨List.mem_range.mpr (by rw [T.l1]; exact hi), ?_⟩))
        rw [C.st i (by rw [T.l1]; exact hi) hm]
        exact beq_self_eq_true _
theorem ch_self {gl : List Int} : chN gl gl = [] := by
  unfold chN hdN
  rw [List.filter_eq_nil_iff.mpr fun i hi => ?_]
  · rfl
  · have := List.mem_range.mp hi
    have h : gl.contains (gl.getD i 0) = true := List.contains_iff_mem.mpr (mem_at.mpr ⟨i, this, rfl⟩)
    rw [h]; simp
theorem ri_self {gl : List Int} : riN gl gl = [] := by
  have key : ∀ (ms d : List Nat), (∀ m ∈ ms, m ∈ d) → rgN gl gl ms d = [] := fun ms => by
    induction ms with
    | nil => intro d _; rfl
    | cons m ms ih =>
      intro d h
      unfold rgN
      rw [if_pos (List.contains_iff_mem.mpr (h m List.mem_cons_self))]
      exact ih d fun k hk => h k (List.mem_cons_of_mem _ hk)
  refine key _ _ fun m hm => List.mem_append.mpr (.inl (List.mem_filter.mpr ⟨hm, beq_self_eq_true _⟩))
end
theorem bls2 {α : Type} (f : α → Bool) : ∀ xs : List α, boolsD (xs.map fun x => .bool (f x)) = some (xs.map f)
  | [] => rfl
  | x :: xs => by simp only [List.map_cons, boolsD, bls2 f xs]; rfl
theorem fms2 {α : Type} (f : α → D) : ∀ xs : List α, (xs.filterMap fun a => some (f a)) = xs.map f
  | [] => rfl
  | x :: xs => by rw [List.filterMap_cons, fms2 f xs]; rfl
theorem alid2 {α : Type} (f : α → Bool) : ∀ xs : List α, (xs.map f).all id = xs.all f
  | [] => rfl
  | x :: xs => by rw [List.map_cons, List.all_cons, List.all_cons, alid2 f xs]; rfl
theorem all_in2 {α : Type} (enc : α → D) (xs : List α) (f : α → Bool) {w : DTI} {g : DTG} {te : DTE} {vs : List Nat} {ds ds1 : DS} {K : DV → DS → Prop} (hw : ∀ K : List D → DS → Prop, K (xs.map enc) ds1 → w ds K) (hb : noBox ds1.sl vs = true)
    (hst : ∀ a ∈ xs, ∀ (P : DV → DS → Prop) , (∀ ds5, ds5.n = ds1.n → wipeD ds5.sl vs = wipeD ds1.sl vs → P (.d (.bool (f a))) ds5) → g (enc a) ⟨wipeD ds1.sl vs, ds1.n⟩ fun ds3 => te ds3 P)
    (h : K (.d (.bool (xs.all f))) ⟨restD (wipeD ds1.sl vs) ds1.sl vs, ds1.n⟩) : dCB fAll (dCons (dLc w g dYes te vs) dNil) ds K := by
  refine lc_map enc xs (fun x => some (.bool (f x))) (ds1 := ds1) hw hb (fun a ha acc P hP => ?_) ?_
  · refine hst a ha _ fun ds5 h1 h2 => ?_
    show P (acc ++ [.bool (f a)]) ⟨wipeD ds5.sl vs, ds5.n⟩
    rw [h1, h2]
    exact hP
  · rw [fms2]
    show someD (boolsD (xs.map fun x => .bool (f x))) _
    rw [bls2]
    show K (.d (.bool ((xs.map f).all id))) _
    rw [alid2]
    exact h
def sp_goal : DSp := fun args n Q _ => ∃ gs ps st, args = [.box, .d (shQ true gs ps), .d (stD true st)] ∧ Pl gs ps ∧ Good gs ps st ∧ st.length ≤ gs.length ∧ 2000 ≤ n ∧
  ∀ gl n', Good gs ps gl → n ≤ n' + 2000 → Q (.d (stD true gl)) n'
def fitL (ps : List (Int × Int)) (xs : List Int) : Bool := (List.range xs.length).all fun i => fitZ ps (i : Int) (xs.getD i 0)
theorem fitL_good {gs : List Int} {ps : List (Int × Int)} {zs : List Int} (P : Pl gs ps) (hp : zs.Perm gs) (hl : ps.length ≤ gs.length) (h : fitL ps (zs.take ps.length) = true) : Good gs ps (zs.take ps.length) := by
  have nd : gs.Nodup := List.Pairwise.imp (fun h => by omega) P.asc.lt
  have lz : (zs.take ps.length).length = ps.length := by rw [List.length_take, hp.length_eq]; omega
  refine ⟨(hp.nodup_iff.mpr nd).sublist (List.take_sublist _ _), lz, fun g hg => hp.mem_iff.mp (List.mem_of_mem_take hg), fun i h0 h1 => ?_⟩
  unfold fitL at h
  rw [lz, List.all_eq_true] at h
  have := h i.toNat (List.mem_range.mpr (by omega))
  rw [Int.toNat_of_nonneg h0] at this
  exact this
section
variable {gs : List Int} {ps : List (Int × Int)} {st : List Int} {n : Nat} {E : DEn}
abbrev gB2 : DTS := (dIfS (dTr (dCB fAll (dCons (dLc (dEnum (dCons (dVar 5) dNil)) (gdTup 2 (gdCons (gdName 6) (gdCons (gdName 7) gdNil))) dYes (dCall sp_l_fits (fun as => as) (dCons (dVar 1) (dCons (dVar 6) (dCons (dVar 7) dNil)))) [6, 7]) dNil))) (dSet 3 (dVar 5)) dNext)
abbrev gB : DTS := (dSeq (dSet 5 (dCB fTuple (dCons (dSl (dCall sp_shuffled (fun as => as) (dCons (dVar 0) (dCons (dOp2 gIx (dVar 1) (dC (.int 0))) dNil))) dNoP (dP (dCB gLen (dCons (dVar 2) dNil)))) dNil)))
    gB2)
abbrev sGo (gs : List Int) (ps : List (Int × Int)) (st gl : List Int) (a4 a5 : Option DV) : List (Option DV) := [some .box, some (.d (shQ true gs ps)), some (.d (stD true st)), some (.d (stD true gl)), a4, a5, none, none]
theorem gB2_in {gl xs : List Int} {a4 : Option DV} (P : Pl gs ps) (hx : xs.length = ps.length) (hgood : fitL ps xs = true → Good gs ps xs) (L : Good gs ps gl) (h : ∀ gl a5, Good gs ps gl → E.nx ⟨sGo gs ps st gl a4 a5, n⟩) :
    gB2 E ⟨sGo gs ps st gl a4 (some (.d (stD true xs))), n⟩ := by
  refine all_in2 (fun i : Nat => PyData.tuple [nD i, .int (xs.getD i 0)]) (List.range xs.length) (fun i => fitZ ps (i : Int) (xs.getD i 0)) (ds1 := ⟨sGo gs ps st gl a4 (some (.d (stD true xs))), n⟩) (fun K hK => ?_) rfl (fun i hi Pk hP => ?_) ?_
  · rw [← enum_ints] at hK
    have := P.lp
    exact ⟨by rw [List.length_map]; omega, hK⟩
  · have := List.mem_range.mp hi
    exact ⟨true, gs, ps, (i : Int), xs.getD i 0, rfl, ⟨by omega, by omega⟩, hP ⟨_, _⟩ rfl rfl⟩
  · cases hf : fitL ps xs with
    | false =>
      unfold fitL at hf
      rw [hf]
      exact h _ _ L
    | true =>
      have g := hgood hf
      unfold fitL at hf
      rw [hf]
      exact h _ _ g
theorem gB_in {gl : List Int} {a4 a5 : Option DV} (P : Pl gs ps) (G : Good gs ps st) (L : Good gs ps gl) (hl : st.length ≤ gs.length) (hn : 3 * gs.length ≤ n) (h : ∀ gl a5, Good gs ps gl → E.nx ⟨sGo gs ps st gl a4 a5, n - 3 * gs.length⟩) :
    gB E ⟨sGo gs ps st gl a4 a5, n⟩ := by
  have lg := P.lg
  have ls := G.len
  refine ixl0 (t := true) ?_
  refine ⟨.tuple (gs.map .int), gs.map .int, rfl, rfl, by rw [List.length_map]; omega, fun x hx => ?_, by rw [List.length_map]; exact hn, fun ys hy => ?_⟩
  · obtain ⟨g, hg, rfl⟩ := List.mem_map.mp hx
    have h1 := P.asc.lo g hg
    have h2 := P.asc.hi g hg
    exact (nice_i (by omega)).mono (by omega) (by omega)
  obtain ⟨zs, hz, rfl⟩ := perm_ints hy
  have lz : (zs.map PyData.int).length = gs.length := by rw [List.length_map, hz.length_eq]
  have l2 : (zs.take ps.length).length = ps.length := by rw [List.length_take, hz.length_eq]; omega
  refine lenQ (t := true) ?_
  have ec : cutD (zs.map PyData.int) none (some ((st.map PyData.int).length : Nat)) = (zs.take ps.length).map .int := by
    rw [cut_head (by omega) (by rw [lz, List.length_map]; omega), List.length_map, Int.toNat_natCast, List.map_take, ls]
  have key := gB2_in (E := E) (st := st) (n := n - 3 * gs.length) (gl := gl) (a4 := a4) P l2 (fun hf => fitL_good P hz (by omega) hf) L h
  rw [← List.length_map (as := gs) (f := PyData.int), show stD true (zs.take ps.length) = .tuple (cutD (zs.map PyData.int) none (some ((st.map PyData.int).length : Nat))) by rw [ec]; rfl] at key
  exact key
theorem gBs {a4 : Option DV} (P : Pl gs ps) (G : Good gs ps st) (hl : st.length ≤ gs.length) {n0 : Nat} (hE : ∀ gl a4 a5 n', Good gs ps gl → n0 ≤ n' + 1200 → E.nx ⟨sGo gs ps st gl a4 a5, n'⟩) : ∀ (is : List D) (gl : List Int) (a4 a5 : Option DV) (n : Nat), Good gs ps gl → is.length ≤ 4 → n0 ≤ n + 300 * (4 - is.length) → 1200 ≤ n0 →
    forR (gdName 4) gB E is ⟨sGo gs ps st gl a4 a5, n⟩
  | [], gl, a4, a5, n, L, _, hn, _ => hE gl a4 a5 n L (by simp only [List.length_nil] at hn; omega)
  | i :: is, gl, a4, a5, n, L, hi, hn, h0 => by
    have lg := P.lg
    rw [List.length_cons] at hi hn
    exact gB_in (E := { E with nx := forR (gdName 4) gB E is, ct := forR (gdName 4) gB E is, bk := E.nx }) (n := n) P G L hl (by omega) fun gl a5 L => gBs (a4 := a4) P G hl hE is gl _ a5 (n - 3 * gs.length) L (by omega) (by omega) h0
end
theorem r_goal : ∀ args n Qa Ea, sp_goal args n Qa Ea → t_goal sp_wandered sp_take sp_shuffled sp_l_fits (fin Qa) (startD 8 args n) := by
  rintro args n Qa Ea ⟨gs, ps, st, rfl, P, G, hl, hn, hq⟩
  refine ⟨12, rfl, by decide, by decide, by show 3 ≤ n; omega, fun r r0 r1 => ?_⟩
  refine ⟨true, gs, ps, st, r, rfl, P, G, r0, by omega, by show 3 * r.toNat ≤ n - 3; omega, fun es gl n' hp _ hn' => ?_⟩
  have hn'' : n - 3 ≤ n' + 3 * r.toNat := hn'
  refine ixl1 (t := true) ?_
  refine ⟨4, rfl, by decide, by decide, by show 3 ≤ n'; omega, fun q q0 q1 => ?_⟩
  refine ⟨by omega, by omega, ?_⟩
  refine for_run ?_
  refine gBs (a4 := none) (E := { fin Qa with nx := t_goal_2 (fin Qa) }) (n0 := n' - 3) P G hl (fun gl a4 a5 n2 L hn2 => ?_) _ gl none none (n' - 3) (hp.good G) (by rw [rangeD_len]; omega) (by omega) (by omega)
  exact hq gl n2 L (by omega)
def lotD (st gl : List Int) (l : List Nat) : D := .list (l.map nD ++ (match nxN st gl (l.getLastD 0) with | none => [.none] | some _ => []))
def sp_l_rings : DSp := fun args n Q _ => ∃ u v st gl, args = [.d (stD u st), .d (stD v gl)] ∧ u = true ∧ v = true ∧ Two st.length st gl ∧ st.length ≤ 100 ∧ Q (.own ((chN st gl ++ riN st gl).map (lotD st gl))) n
abbrev lrB : DTS := (dIfS (dTst (dOp2 gNotIn (dVar 5) (dVar 3))) (dSeq (dSet 6 (dLst (dCons (dVar 5) dNil)))
    (dSeq (dWhile (dAnd (dTst (dOp2 gIn (dOp2 gIx (dVar 1) (dOp2 gIx (dVar 6) (dOp1 fNeg (dC (.int 1))))) (dVar 0))) (dTst (dOp2 fNe (dIdx (dVar 0) (dOp2 gIx (dVar 1) (dOp2 gIx (dVar 6) (dOp1 fNeg (dC (.int 1)))))) (dVar 5)))) (dDrop (dMut 6 gAppend (dCons (dIdx (dVar 0) (dOp2 gIx (dVar 1) (dOp2 gIx (dVar 6) (dOp1 fNeg (dC (.int 1)))))) dNil))))
    (dSeq (dSet 3 (dOp2 fAdd (dVar 3) (dVar 6)))
    (dDrop (dMut 2 gAppend (dCons (dOp2 fAdd (dVar 6) (dOp2 fMul (dLst (dCons (dC .none) dNil)) (dCB fInt (dCons (dOp2 gNotIn (dOp2 gIx (dVar 1) (dOp2 gIx (dVar 6) (dOp1 fNeg (dC (.int 1))))) (dVar 0)) dNil)))) dNil)))))) dNext)
theorem r_l_rings : ∀ args n Qa Ea, sp_l_rings args n Qa Ea → t_l_rings (fin Qa) (startD 7 args n) := by
  rintro args n Qa Ea ⟨u, v, st, gl, rfl, rfl, rfl, T, le, hq⟩
  have l2 := T.l2
  rw [← law_lots T] at hq
  have walk : ∀ (E : DEn) (m : Nat) (m2 m3 m4 : Option DV), m < st.length → E.nx ⟨[some (.d (stD true st)), some (.d (stD true gl)), m2, m3, m4, some (.d (nD m)), some (.own ((folN st gl m).map nD))], n⟩ →
      (dWhile (dAnd (dTst (dOp2 gIn (dOp2 gIx (dVar 1) (dOp2 gIx (dVar 6) (dOp1 fNeg (dC (.int 1))))) (dVar 0))) (dTst (dOp2 fNe (dIdx (dVar 0) (dOp2 gIx (dVar 1) (dOp2 gIx (dVar 6) (dOp1 fNeg (dC (.int 1)))))) (dVar 5)))) (dDrop (dMut 6 gAppend (dCons (dIdx (dVar 0) (dOp2 gIx (dVar 1) (dOp2 gIx (dVar 6) (dOp1 fNeg (dC (.int 1)))))) dNil)))) E ⟨[some (.d (stD true st)), some (.d (stD true gl)), m2, m3, m4, some (.d (nD m)), some (.own ([m].map nD))], n⟩ := by
    intro E m m2 m3 m4 hm hE
    refine ⟨fun k ds => ∃ o acc, ds = ⟨[some (.d (stD true st)), some (.d (stD true gl)), m2, m3, m4, some (.d (nD m)), some (.own (acc.map nD))], n⟩ ∧ fol st gl m k o acc = folN st gl m ∧ Wlk st.length st gl m acc o ∧ acc.length + k = st.length + 1, ⟨st.length, nxN st gl m, [m], rfl, rfl, Wlk.start hm, by simp; omega⟩, ?_⟩
    rintro k ds ⟨o, acc, rfl, hf, W, hl⟩
    have wl := W.len
    obtain ⟨a, x, ea, ex⟩ := W.nx
    have xl : x < st.length := W.lt x (by rw [ea]; simp)
    have elD : PyData.list (acc.map nD) = .list (a.map nD ++ [nD x]) := by rw [ea, List.map_append]; rfl
    have ixm : ∀ {Q : DV → Prop}, Q (.d (nD x)) → gIx (.list (acc.map nD)) (.int (-1)) Q := fun q => by rw [elD]; exact ix_last q
    cases k with
    | zero => omega
    | succ k =>
      refine ixm (ixN_ints (t := true) (by omega) (in_ints (t := true) ?_))
      have ex' : holdN st (gl.getD x 0) = o := ex
      cases o with
      | none =>
        have hf' : acc = folN st gl m := hf
        have hc : st.contains (gl.getD x 0) = false := by
          cases h : st.contains (gl.getD x 0) with
          | false => rfl
          | true => exact absurd (List.contains_iff_mem.mp h) (holdN_none.mp ex')
        rw [hc, hf']
        exact hE
      | some j =>
        have hc : st.contains (gl.getD x 0) = true := by
          obtain ⟨q1, q2⟩ := holdN_some ex'
          exact List.contains_iff_mem.mpr (mem_at.mpr ⟨j, q1, q2⟩)
        rw [hc]
        refine someI (intsD_map st) ?_
        refine ixm (ixN_ints (t := true) (by omega) ?_)
        refine someI (idx_hold.trans ex') (fne_int ?_)
        unfold fol at hf
        by_cases e : j = m
        · rw [if_pos e] at hf
          rw [show (!((j : Int) == (m : Int))) = false by simp [e], hf]
          exact hE
        · rw [if_neg e] at hf
          rw [show (!((j : Int) == (m : Int))) = true by simp; omega]
          refine someI (intsD_map st) ?_
          refine ixm (ixN_ints (t := true) (by omega) ?_)
          refine someI (idx_hold.trans ex') ?_
          refine ⟨by rw [List.length_map]; omega, ?_⟩
          refine ⟨k, by omega, nxN st gl j, acc ++ [j], ?_, hf, W.next T e, by rw [List.length_append, List.length_singleton]; omega⟩
          rw [List.map_append]
          rfl
  have turn : ∀ (ms d : List Nat) (fd : List D) (m5 m6 : Option DV), (∀ m ∈ ms, m < st.length) → d.length + 100 * ms.length ≤ 100000 → fd.length + ms.length ≤ 1000 → Qa (.own (fd ++ (rgN st gl ms d).map (lotD st gl))) n → ∀ m4,
      forR (gdName 5) lrB { fin Qa with nx := t_l_rings_3 (fin Qa) } (ms.map nD) ⟨[some (.d (stD true st)), some (.d (stD true gl)), some (.own fd), some (.own (d.map nD)), m4, m5, m6], n⟩ := by
    intro ms
    induction ms with
    | nil =>
      intro d fd m5 m6 _ _ _ hq m4
      rw [show rgN st gl [] d = [] from rfl, List.map_nil, List.append_nil] at hq
      exact hq
    | cons m ms ih =>
      intro d fd m5 m6 hm hd hf hq m4
      simp only [List.length_cons] at hd hf
      have hm0 := hm m (by simp)
      refine notIn_nats ?_
      unfold rgN at hq
      cases hc : d.contains m with
      | true =>
        rw [hc, if_pos rfl] at hq
        exact ih d fd _ m6 (fun k hk => hm k (List.mem_cons_of_mem _ hk)) (by omega) (by omega) hq m4
      | false =>
        rw [hc, if_neg Bool.false_ne_true] at hq
        refine walk _ m (some (.own fd)) (some (.own (d.map nD))) m4 hm0 ?_
        have fl := fol_len T hm0
        have flt := fol_lt T hm0
        obtain ⟨a, ea⟩ := fol_last T hm0
        generalize hx : (folN st gl m).getLastD 0 = x at ea
        have xl : x < st.length := flt x (by rw [ea]; simp)
        have elD : PyData.list ((folN st gl m).map nD) = .list (a.map nD ++ [nD x]) := by rw [ea, List.map_append]; rfl
        have ixm : ∀ {Q : DV → Prop}, Q (.d (nD x)) → gIx (.list ((folN st gl m).map nD)) (.int (-1)) Q := fun q => by rw [elD]; exact ix_last q
        refine ⟨by rw [List.length_map, List.length_map]; omega, ?_⟩
        refine ixm (ixN_ints (t := true) (by omega) (notIn_ints (t := true) ?_))
        have el : lotD st gl (folN st gl m) = .list ((folN st gl m).map nD ++ (match nxN st gl x with | none => [.none] | some _ => [])) := by unfold lotD; rw [hx]
        have go : ∀ (tail : List D), lotD st gl (folN st gl m) = .list ((folN st gl m).map nD ++ tail) → forR (gdName 5) lrB { fin Qa with nx := t_l_rings_3 (fin Qa) } (ms.map nD) ⟨[some (.d (stD true st)), some (.d (stD true gl)), some (.own (fd ++ [PyData.list ((folN st gl m).map nD ++ tail)])), some (.own (d.map nD ++ (folN st gl m).map nD)), m4, some (.d (nD m)), some (.own ((folN st gl m).map nD))], n⟩ := fun tail et => by
          have := ih (d ++ folN st gl m) (fd ++ [PyData.list ((folN st gl m).map nD ++ tail)]) (some (.d (nD m))) (some (.own ((folN st gl m).map nD))) (fun k hk => hm k (List.mem_cons_of_mem _ hk)) (by rw [List.length_append]; omega) (by rw [List.length_append, List.length_singleton]; omega) (by rw [List.append_assoc, ← et]; exact hq) m4
          rw [List.map_append] at this
          exact this
        cases hh : nxN st gl x with
        | none =>
          have hc2 : st.contains (gl.getD x 0) = false := by
            cases h : st.contains (gl.getD x 0) with
            | false => rfl
            | true => exact absurd (List.contains_iff_mem.mp h) (holdN_none.mp hh)
          rw [hc2]
          refine ⟨⟨by decide, by decide, by decide⟩, ?_⟩
          refine ⟨by show ((folN st gl m).map nD).length + 1 ≤ 16777216; rw [List.length_map]; omega, ?_⟩
          refine ⟨by omega, ?_⟩
          exact go [.none] (by rw [el, hh])
        | some j =>
          have hc2 : st.contains (gl.getD x 0) = true := by
            obtain ⟨q1, q2⟩ := holdN_some hh
            exact List.contains_iff_mem.mpr (mem_at.mpr ⟨j, q1, q2⟩)
          rw [hc2]
          refine ⟨⟨by decide, by decide, by decide⟩, ?_⟩
          refine ⟨by show ((folN st gl m).map nD).length + 0 ≤ 16777216; rw [List.length_map]; omega, ?_⟩
          refine ⟨by omega, ?_⟩
          exact go [] (by rw [el, hh])
  refine lc_map nD (List.range st.length) (keepN fun i => st.getD i 0 == gl.getD i 0) (ds1 := ⟨[some (.d (stD true st)), some (.d (stD true gl)), none, none, none, none, none], n⟩) (fun K hK => ?_) rfl (fun i hi acc P hP => ?_) ?_
  · refine lenQ (t := true) ?_
    rw [List.length_map]
    refine ⟨by omega, by omega, ?_⟩
    rw [show ((st.length : Nat) : Int).toNat = st.length by omega, range_nD]
    exact hK
  · have hi' := List.mem_range.mp hi
    refine ixN_ints (t := true) hi' (ixN_ints (t := true) (by omega) (feq_int ?_))
    have := keep_stepN hP
    revert this
    cases (st.getD i 0 == gl.getD i 0) <;> exact id
  · rw [fm_keepN]
    refine lc_map nD (List.range st.length) (keepN fun i => !gl.contains (st.getD i 0)) (ds1 := ⟨[some (.d (stD true st)), some (.d (stD true gl)), some (.own []), some (.own ((stN st gl).map nD)), none, none, none], n⟩) (fun K hK => ?_) rfl (fun i hi acc P hP => ?_) ?_
    · refine lenQ (t := true) ?_
      rw [List.length_map]
      refine ⟨by omega, by omega, ?_⟩
      rw [show ((st.length : Nat) : Int).toNat = st.length by omega, range_nD]
      exact hK
    · have hi' := List.mem_range.mp hi
      refine ixN_ints (t := true) hi' (notIn_ints (t := true) ?_)
      have := keep_stepN hP
      revert this
      cases (!gl.contains (st.getD i 0)) <;> exact id
    · rw [fm_keepN]
      refine lenQ (t := true) ?_
      rw [List.length_map]
      refine ⟨⟨by omega, by omega, by omega, by omega, by omega⟩, ?_⟩
      have er : rgD 0 ((st.length : Nat) : Int) = (List.range st.length).map nD := by
        unfold rgD
        rw [show (((st.length : Nat) : Int) - 0).toNat = st.length by omega, range_nD]
      have hdl : (hdN st gl).length ≤ st.length := filt_len
      have stl : (stN st gl).length ≤ st.length := filt_len
      refine ⟨by rw [er, List.length_map, List.length_map, List.length_range]; have : ((List.range st.length).filter fun i => !gl.contains (st.getD i 0)).length ≤ st.length := filt_len; omega, ?_⟩
      rw [er, ← List.map_append]
      refine for_run (turn (hdN st gl ++ List.range st.length) (stN st gl) [] none none (fun m hm => ?_) ?_ ?_ (by rw [List.nil_append]; exact hq) _)
      · rcases List.mem_append.mp hm with h | h
        · exact List.mem_range.mp (List.mem_filter.mp h).1
        · exact List.mem_range.mp h
      · rw [List.length_append, List.length_range]; omega
      · rw [List.length_append, List.length_range, List.length_nil]; omega
end SF
namespace SF
end SF
namespace SF
open PySem PySem.Spec PyProof.Rows L2
theorem sqX {t u : DTS} {E : DEn} {ds : DS} (h : t { E with nx := u E } ds) : dSeq t u E ds := h
structure L10 (gs : List Int) (ps : List (Int × Int)) (st gl : List Int) : Prop where
  P : Pl gs ps
  G : Good gs ps st
  L : Good gs ps gl
  l8 : ps.length ≤ 8
  l12 : gs.length ≤ 12
section
variable {gs : List Int} {ps : List (Int × Int)} {st gl : List Int} {n : Nat} {E : DEn} {a4 a5 a6 a7 a8 a9 a10 a11 a12 a13 : Option DV}
theorem L10.two (B : L10 gs ps st gl) : Two ps.length st gl := B.G.two B.L
theorem L10.tw (B : L10 gs ps st gl) : Two st.length st gl := by have := B.two; rw [← B.G.len] at this; exact this
theorem L10.A (B : L10 gs ps st gl) : Arg2 ps st gl := ⟨B.two, by have := B.l8; omega⟩
theorem L10.s8 (B : L10 gs ps st gl) : st.length ≤ 8 := by rw [B.G.len]; exact B.l8
abbrev s10 (gs : List Int) (ps : List (Int × Int)) (st gl : List Int) (a4 a5 a6 a7 a8 a9 a10 a11 a12 a13 : Option DV) (n : Nat) : DS := ⟨[some .box, some (.d (shQ true gs ps)), some (.d (stD true st)), some (.d (stD true gl)), a4, a5, a6, a7, a8, a9, a10, a11, a12, a13, none, none, none], n⟩
abbrev e10 (a1 a2 a3 : Option DV) (n : Nat) : DS := ⟨[some .box, a1, a2, a3, none, none, none, none, none, none, none, none, none, none, none, none, none], n⟩
theorem z0_10 (hn : 100000 ≤ n) (h : ∀ gs ps st n', Pl gs ps → Good gs ps st → gs.length ≤ 12 → ps.length ≤ 8 → st.length ≤ gs.length → n ≤ n' + 100000 → E.nx (e10 (some (.d (shQ true gs ps))) (some (.d (stD true st))) none n')) : t_right_0 sp_plant E (e10 none none none n) := by
  refine ⟨8, 12, rfl, by decide, by decide, by decide, hn, fun gs ps st n1 sh h6 h9 hn1 => ?_⟩
  have hn1' : n ≤ n1 + 100000 := hn1
  have P : Pl gs ps := ⟨sh.asc, sh.len, by have := sh.eqv; omega, sh.rng⟩
  have one := sh.one
  have ev := sh.eqv
  exact h gs ps st n1 P sh.good (by omega) (by omega) (sub_len sh.good.nd sh.good.sub) hn1'
theorem z1_10 (P : Pl gs ps) (G : Good gs ps st) (l8 : ps.length ≤ 8) (l12 : gs.length ≤ 12) (hl : st.length ≤ gs.length) (hn : 2000 ≤ n) (h : ∀ gl n', L10 gs ps st gl → n ≤ n' + 2000 → E.nx (e10 (some (.d (shQ true gs ps))) (some (.d (stD true st))) (some (.d (stD true gl))) n')) : t_right_1 sp_goal E (e10 (some (.d (shQ true gs ps))) (some (.d (stD true st))) none n) :=
  ⟨gs, ps, st, rfl, P, G, hl, hn, fun gl n' L hn' => h gl n' ⟨P, G, L, l8, l12⟩ hn'⟩
abbrev ptO (st gl : List Int) : Option DV := some (.own ((chN st gl ++ riN st gl).map (lotD st gl)))
abbrev ptD10 (st gl : List Int) : Option DV := some (.d (.list ((chN st gl ++ riN st gl).map (lotD st gl))))
theorem z2_10 (B : L10 gs ps st gl) (h : E.nx (s10 gs ps st gl (ptO st gl) none none none none none none none none none n)) : t_right_2 sp_l_rings E (e10 (some (.d (shQ true gs ps))) (some (.d (stD true st))) (some (.d (stD true gl))) n) := by
  have := B.s8
  exact ⟨true, true, st, gl, rfl, rfl, rfl, B.tw, by omega, h⟩
theorem lot_cases (T : Two n st gl) {l : List Nat} (h : l ∈ chN st gl ++ riN st gl) : (l ∈ chN st gl ∧ lotD st gl l = .list (l.map nD ++ [.none])) ∨ (l ∈ riN st gl ∧ ∃ a x, l = a ++ [x] ∧ lotD st gl l = lD l) := by
  rcases List.mem_append.mp h with z | z
  · left
    refine ⟨z, ?_⟩
    obtain ⟨m, a, _, rfl⟩ := ch_lt T z
    obtain ⟨b, y, e, ey⟩ := (chain_end T a).nx
    unfold lotD
    have : (folN st gl m).getLastD 0 = y := by rw [e]; simp
    rw [this, ey]
  · right
    refine ⟨z, ?_⟩
    obtain ⟨m, a, c, rfl⟩ := ri_lt T z
    obtain ⟨b, y, e, ey⟩ := (ring_end T a c).nx
    refine ⟨b, y, e, ?_⟩
    unfold lotD lD
    have : (folN st gl m).getLastD 0 = y := by rw [e]; simp
    rw [this, ey]
    simp
theorem lots_len (T : Two n st gl) : (riN st gl).length ≤ n ∧ (chN st gl).length ≤ n ∧ (∀ l ∈ riN st gl, l.length ≤ n) ∧ ∀ l ∈ chN st gl, l.length ≤ n := by
  have rl : ∀ l ∈ riN st gl, l.length ≤ n ∧ 0 < l.length := fun l hl => by
    obtain ⟨m, a, c, rfl⟩ := ri_lt T hl
    have W := ring_end T a c
    exact ⟨W.len, by obtain ⟨t, e⟩ := W.hd; rw [e]; simp⟩
  have cl : ∀ l ∈ chN st gl, l.length ≤ n ∧ 0 < l.length := fun l hl => by
    obtain ⟨m, a, _, rfl⟩ := ch_lt T hl
    have W := chain_end T a
    exact ⟨W.len, by obtain ⟨t, e⟩ := W.hd; rw [e]; simp⟩
  have flat : ∀ ls : List (List Nat), (∀ l ∈ ls, 0 < l.length) → ls.length ≤ ls.flatten.length := fun ls => by
    induction ls with
    | nil => intro _; exact Nat.le_refl _
    | cons l ls ih =>
      intro h
      rw [List.flatten_cons, List.length_append, List.length_cons]
      have := h l List.mem_cons_self
      have := ih fun l hl => h l (List.mem_cons_of_mem _ hl)
      omega
  have p := (all_once T).length_eq
  rw [List.length_append, List.length_append, List.length_range] at p
  have f1 := flat (riN st gl) fun l hl => (rl l hl).2
  have f2 := flat (chN st gl) fun l hl => (cl l hl).2
  exact ⟨by omega, by omega, fun l hl => (rl l hl).1, fun l hl => (cl l hl).1⟩
theorem z3_10 (B : L10 gs ps st gl) (h : E.nx (s10 gs ps st gl (ptD10 st gl) (some (.own [.list ((riN st gl).map lD)])) none none none none none none none none n)) : t_right_3 E (s10 gs ps st gl (ptO st gl) none none none none none none none none none n) := by
  have T := B.tw
  have l8 := B.s8
  obtain ⟨r1, r2, r3, r4⟩ := lots_len T
  refine lc_map (lotD st gl) (chN st gl ++ riN st gl) (fun l => match nxN st gl (l.getLastD 0) with | none => none | some _ => some (lD l)) (ds1 := s10 gs ps st gl (ptD10 st gl) none none none none none none none none none n) (fun K hK => hK) rfl (fun l hl acc P hP => ?_) ?_
  · rcases lot_cases T hl with ⟨h1, e1⟩ | ⟨h1, a, x, e, e1⟩
    · obtain ⟨m, c, _, rfl⟩ := ch_lt T h1
      obtain ⟨b, y, e, ey⟩ := (chain_end T c).nx
      have gy : (folN st gl m).getLastD 0 = y := by rw [e]; simp
      rw [gy, ey] at hP
      rw [e1]
      refine ix_last ?_
      have hP' : P (acc ++ []) _ := hP
      rw [List.append_nil] at hP'
      exact hP'
    · obtain ⟨m, c, d, rfl⟩ := ri_lt T h1
      obtain ⟨b, y, e', ey⟩ := (ring_end T c d).nx
      have gy : (folN st gl m).getLastD 0 = y := by rw [e']; simp
      rw [gy, ey] at hP
      rw [e1]
      unfold lD at hP ⊢
      have em : (folN st gl m).map nD = a.map nD ++ [nD x] := by rw [e, List.map_append]; rfl
      rw [em] at hP ⊢
      exact ix_last hP
  · have e : (chN st gl ++ riN st gl).filterMap (fun l => match nxN st gl (l.getLastD 0) with | none => none | some _ => some (lD l)) = (riN st gl).map lD := by
      rw [List.filterMap_append]
      have e1 : (chN st gl).filterMap (fun l => match nxN st gl (l.getLastD 0) with | none => none | some _ => some (lD l)) = [] := List.filterMap_eq_nil_iff.mpr fun l hl => by
        obtain ⟨m, c, _, rfl⟩ := ch_lt T hl
        obtain ⟨b, y, e, ey⟩ := (chain_end T c).nx
        have gy : (folN st gl m).getLastD 0 = y := by rw [e]; simp
        rw [gy, ey]
      rw [e1, List.nil_append]
      have key : ∀ ls : List (List Nat), (∀ l ∈ ls, ∃ y, nxN st gl (l.getLastD 0) = some y) → ls.filterMap (fun l => match nxN st gl (l.getLastD 0) with | none => none | some _ => some (lD l)) = ls.map lD := fun ls => by
        induction ls with
        | nil => intro _; rfl
        | cons l ls ih =>
          intro hl
          obtain ⟨y, ey⟩ := hl l List.mem_cons_self
          rw [List.filterMap_cons, ey, List.map_cons]
          simp only
          rw [ih fun l h => hl l (List.mem_cons_of_mem _ h)]
      exact key _ fun l hl => by
        obtain ⟨m, c, d, rfl⟩ := ri_lt T hl
        obtain ⟨b, y, e', ey⟩ := (ring_end T c d).nx
        have gy : (folN st gl m).getLastD 0 = y := by rw [e']; simp
        exact ⟨m, by rw [gy, ey]⟩
    rw [e]
    refine sort_heads (ri_asc10 T) (by omega) ?_
    refine few_in (n := 1) (by omega) ?_
    exact h
theorem z4_10 (B : L10 gs ps st gl) (h : E.nx (s10 gs ps st gl (ptD10 st gl) (some (.own [.list ((riN st gl).map lD), .list ((chN st gl).map lD)])) none none none none none none none none n)) : t_right_4 E (s10 gs ps st gl (ptD10 st gl) (some (.own [.list ((riN st gl).map lD)])) none none none none none none none none n) := by
  have T := B.tw
  have l8 := B.s8
  obtain ⟨r1, r2, r3, r4⟩ := lots_len T
  refine lc_map (lotD st gl) (chN st gl ++ riN st gl) (fun l => match nxN st gl (l.getLastD 0) with | none => some (lD l) | some _ => none) (ds1 := s10 gs ps st gl (ptD10 st gl) (some (.own [.list ((riN st gl).map lD)])) none none none none none none none none n) (fun K hK => hK) rfl (fun l hl acc P hP => ?_) ?_
  · rcases lot_cases T hl with ⟨h1, e1⟩ | ⟨h1, a, x, e, e1⟩
    · obtain ⟨m, c, _, rfl⟩ := ch_lt T h1
      obtain ⟨b, y, e, ey⟩ := (chain_end T c).nx
      have gy : (folN st gl m).getLastD 0 = y := by rw [e]; simp
      rw [gy, ey] at hP
      rw [e1]
      refine ix_last ?_
      have hc := cut_last (xs := (folN st gl m).map nD) (x := PyData.none)
      unfold lD at hP
      rw [← hc] at hP
      exact hP
    · obtain ⟨m, c, d, rfl⟩ := ri_lt T h1
      obtain ⟨b, y, e', ey⟩ := (ring_end T c d).nx
      have gy : (folN st gl m).getLastD 0 = y := by rw [e']; simp
      rw [gy, ey] at hP
      rw [e1]
      unfold lD
      have em : (folN st gl m).map nD = a.map nD ++ [nD x] := by rw [e, List.map_append]; rfl
      rw [em]
      have hP' : P (acc ++ []) _ := hP
      rw [List.append_nil] at hP'
      exact ix_last hP'
  · have e : (chN st gl ++ riN st gl).filterMap (fun l => match nxN st gl (l.getLastD 0) with | none => some (lD l) | some _ => none) = (chN st gl).map lD := by
      rw [List.filterMap_append]
      have e1 : (riN st gl).filterMap (fun l => match nxN st gl (l.getLastD 0) with | none => some (lD l) | some _ => none) = [] := List.filterMap_eq_nil_iff.mpr fun l hl => by
        obtain ⟨m, c, d, rfl⟩ := ri_lt T hl
        obtain ⟨b, y, e', ey⟩ := (ring_end T c d).nx
        have gy : (folN st gl m).getLastD 0 = y := by rw [e']; simp
        rw [gy, ey]
      rw [e1, List.append_nil]
      have key : ∀ ls : List (List Nat), (∀ l ∈ ls, nxN st gl (l.getLastD 0) = none) → ls.filterMap (fun l => match nxN st gl (l.getLastD 0) with | none => some (lD l) | some _ => none) = ls.map lD := fun ls => by
        induction ls with
        | nil => intro _; rfl
        | cons l ls ih =>
          intro hl
          have ey := hl l List.mem_cons_self
          rw [List.filterMap_cons, ey, List.map_cons]
          simp only
          rw [ih fun l h => hl l (List.mem_cons_of_mem _ h)]
      exact key _ fun l hl => by
        obtain ⟨m, c, _, rfl⟩ := ch_lt T hl
        obtain ⟨b, y, e, ey⟩ := (chain_end T c).nx
        have gy : (folN st gl m).getLastD 0 = y := by rw [e]; simp
        rw [gy, ey]
    rw [e]
    refine sort_heads (ch_asc10 T) (by omega) ?_
    exact ⟨by show 1 < 16777216; omega, h⟩
abbrev duL (st gl : List Int) : List D := [.list ((riN st gl).map lD), .list ((chN st gl).map lD), .list ((stN st gl).map nD)]
theorem z5_10 (B : L10 gs ps st gl) (h : E.nx (s10 gs ps st gl (ptD10 st gl) (some (.own (duL st gl))) none none none none none none none none n)) : t_right_5 E (s10 gs ps st gl (ptD10 st gl) (some (.own [.list ((riN st gl).map lD), .list ((chN st gl).map lD)])) none none none none none none none none n) := by
  have T := B.tw
  have l8 := B.s8
  have l2 := T.l2
  refine lc_map nD (List.range st.length) (keepN fun i => st.getD i 0 == gl.getD i 0) (ds1 := s10 gs ps st gl (ptD10 st gl) (some (.own [.list ((riN st gl).map lD), .list ((chN st gl).map lD)])) none none none none none none none none n) (fun K hK => ?_) rfl (fun i hi acc P hP => ?_) ?_
  · refine lenQ (t := true) ?_
    rw [List.length_map]
    refine ⟨by omega, by omega, ?_⟩
    rw [show ((st.length : Nat) : Int).toNat = st.length by omega, range_nD]
    exact hK
  · have hi' := List.mem_range.mp hi
    refine ixN_ints hi' (ixN_ints (by omega) (feq_int ?_))
    have := keep_stepN hP
    revert this
    cases (st.getD i 0 == gl.getD i 0) <;> exact id
  · rw [fm_keepN]
    exact ⟨by show 2 < 16777216; omega, h⟩
abbrev tri10 (t : Bool) (gs : List Int) (ps : List (Int × Int)) (st gl : List Int) : List D := [shQ t gs ps, stD t st, stD t gl]
abbrev kpO (gs : List Int) (ps : List (Int × Int)) (st gl : List Int) : Option DV := some (.d (.str (PyData.list (tri10 true gs ps st gl)).shown))
theorem nice_tri10 {t : Bool} (B : L10 gs ps st gl) : Nice 4 110000 (.list (tri10 t gs ps st gl)) := by
  refine (nice_list (k := 3) (m := 27000) (Nat.le_refl _) fun x hx => ?_).mono (by omega) (by simp)
  simp only [List.mem_cons, List.not_mem_nil, or_false] at hx
  rcases hx with rfl | rfl | rfl
  · exact (B.P.nice t).mono (by omega) (by omega)
  · exact (B.G.nice B.P t).mono (by omega) (by omega)
  · exact (B.L.nice B.P t).mono (by omega) (by omega)
theorem lists_tri10 : rvL (.list [shQ true gs ps, stD true st, stD true gl]) = .own (tri10 false gs ps st gl) := by
  show DV.own (listsL [.tuple [.tuple (gs.map .int), .tuple (ps.map (prQ true))], .tuple (st.map .int), .tuple (gl.map .int)]) = _
  simp only [listsL, listsD, listsL_ints, listsL_prs]
  rfl
theorem z6_10 (B : L10 gs ps st gl) (h : E.nx (s10 gs ps st gl a4 a5 (kpO gs ps st gl) (some (.own (tri10 false gs ps st gl))) a8 a9 a10 a11 a12 a13 n)) : t_right_6 (sp_lists 8) E (s10 gs ps st gl a4 a5 none none a8 a9 a10 a11 a12 a13 n) := by
  have nt := nice_tri10 (t := true) B
  refine few_in (n := 3) (by omega) ?_
  refine ⟨nt.shows (by omega) (by omega), ?_⟩
  refine few_in (n := 3) (by omega) ?_
  refine ⟨_, rfl, nt.mono (by omega) (by omega), by have := nt.dp; exact Nat.lt_of_le_of_lt this (by omega), ?_⟩
  rw [lists_tri10]
  exact h
end
section
variable {gs : List Int} {ps : List (Int × Int)} {st gl : List Int} {n : Nat} {E : DEn} {a4 a5 a6 a7 a8 a9 a10 a11 a12 a13 : Option DV} {fr fc fr2 fc2 : List Fv} {pr pc k3 p8 pr2 pc2 k4 p9 : Addr}
abbrev tr3 (st gl : List Int) (fr fc : List Fv) (pr pc k3 : Addr) : List Fv := [.own (mtl fr) pr, .own (mtl fc) pc, .own (.lst ((stN st gl).map nD)) k3]
abbrev t3O (st gl : List Int) (fr fc : List Fv) (pr pc k3 p : Addr) : Option DV := some (.mu (mtl (tr3 st gl fr fc pr pc k3)) p)
theorem fz3 (hr : TrL (riN st gl) fr) (hc : TrL (chN st gl) fc) : FzM (mtl (tr3 st gl fr fc pr pc k3)) (.list (duL st gl)) := fz_mtl (.cons (fz_mtl hr.fz) (.cons (fz_mtl hc.fz) (.cons fz_lst .nil)))
theorem up3 (hr : TrL (riN st gl) fr) (hc : TrL (chN st gl) fc) : UpM (mtl (tr3 st gl fr fc pr pc k3)) := up_mtl (fun f hf => by
  simp only [List.mem_cons, List.not_mem_nil, or_false] at hf
  rcases hf with rfl | rfl | rfl
  · exact up_mtl hr.up
  · exact up_mtl hc.up
  · exact up_lst (fl_nd _))
abbrev tolT : DTS := (dSet 8 (dLstT (dCons (dCall sp_ringsT (fun as => as) (dCons (dVar 1) (dCons (dVar 2) (dCons (dVar 3) dNil)))) (dCons (dCall sp_chainsT (fun as => as) (dCons (dVar 1) (dCons (dVar 2) (dCons (dVar 3) dNil)))) (dCons (dCall sp_settled (fun as => as) (dCons (dVar 1) (dCons (dVar 2) (dCons (dVar 3) dNil)))) dNil)))))
theorem tol_in (B : L10 gs ps st gl) (h : ∀ fr fc pr pc k3 p, TrL (riN st gl) fr → TrL (chN st gl) fc → E.nx (s10 gs ps st gl a4 a5 a6 a7 (t3O st gl fr fc pr pc k3 p) a9 a10 a11 a12 a13 n)) : tolT E (s10 gs ps st gl a4 a5 a6 a7 a8 a9 a10 a11 a12 a13 n) := by
  refine ⟨true, true, true, gs, ps, st, gl, rfl, B.A, fun fr pr hr => ?_⟩
  refine ⟨true, true, true, gs, ps, st, gl, rfl, B.A, fun fc pc hc => ?_⟩
  refine ⟨true, true, true, gs, ps, st, gl, rfl, B.A, ?_⟩
  refine few_in (n := 3) (by omega) fun k3 p => ?_
  exact h fr fc pr pc k3 p hr hc
abbrev wdO (gs : List Int) (ps : List (Int × Int)) (st gl : List Int) : Option DV := some (.own (tri10 false gs ps st gl))
abbrev wdD (gs : List Int) (ps : List (Int × Int)) (st gl : List Int) : Option DV := some (.d (.list (tri10 false gs ps st gl)))
theorem z8_10 (B : L10 gs ps st gl) (h : ∀ fr fc pr pc p, TrL (riN st gl) fr → TrL (chN st gl) fc → E.nx (s10 gs ps st gl a4 a5 a6 (wdO gs ps st gl) a8 (some (.mu (mtl [.own (mtl fr) pr, .own (mtl fc) pc]) p)) a10 a11 a12 a13 n)) : t_right_8 sp_chainsT sp_ringsT E (s10 gs ps st gl a4 a5 a6 (wdO gs ps st gl) a8 a9 a10 a11 a12 a13 n) := by
  refine ixl2 (t := false) ?_
  refine ixl1 (t := false) ?_
  refine ixl0 (t := false) ?_
  refine ⟨false, false, false, gs, ps, st, gl, rfl, B.A, fun fr pr hr => ?_⟩
  refine ixl2 (t := false) ?_
  refine ixl1 (t := false) ?_
  refine ixl0 (t := false) ?_
  refine ⟨false, false, false, gs, ps, st, gl, rfl, B.A, fun fc pc hc => ?_⟩
  refine few_in (n := 2) (by omega) fun p => ?_
  exact h fr fc pr pc p hr hc
theorem z9_10 (B : L10 gs ps st gl) (h : ∀ k3, E.nx (s10 gs ps st gl a4 a5 a6 (wdO gs ps st gl) a8 (t3O st gl fr fc pr pc k3 p9) a10 a11 a12 a13 n)) : t_right_9 sp_settled E (s10 gs ps st gl a4 a5 a6 (wdO gs ps st gl) a8 (some (.mu (mtl [.own (mtl fr) pr, .own (mtl fc) pc]) p9)) a10 a11 a12 a13 n) := by
  refine ⟨_, _, rfl, by show 2 < 16777216; omega, ?_⟩
  refine ixl2 (t := false) ?_
  refine ixl1 (t := false) ?_
  refine ixl0 (t := false) ?_
  refine ⟨false, false, false, gs, ps, st, gl, rfl, B.A, ?_⟩
  exact ⟨rfl, fun k3 => h k3⟩
theorem nice_lD {l : List Nat} (hl : l.length ≤ 8) (hx : ∀ x ∈ l, x < 100) : Nice 1 600 (lD l) := by
  unfold lD
  rw [nD_ints]
  exact (nice_ints (t := false) fun x hx' => by
    obtain ⟨i, hi, rfl⟩ := List.mem_map.mp hx'
    have := hx i hi
    show Int.natAbs ((i : Nat) : Int) ≤ _
    omega).mono (by omega) (by rw [List.length_map]; omega)
theorem nice_du (B : L10 gs ps st gl) : Nice 3 20000 (.list (duL st gl)) := by
  have T := B.tw
  have l8 := B.s8
  obtain ⟨r1, r2, r3, r4⟩ := lots_len T
  have rl : ∀ l ∈ riN st gl, ∀ x ∈ l, x < 100 := fun l hl x hx => by
    obtain ⟨m, a, b, rfl⟩ := ri_lt T hl
    have := (ring_end T a b).lt x hx; omega
  have cl : ∀ l ∈ chN st gl, ∀ x ∈ l, x < 100 := fun l hl x hx => by
    obtain ⟨m, a, _, rfl⟩ := ch_lt T hl
    have := (chain_end T a).lt x hx; omega
  have sl : (stN st gl).length ≤ st.length := filt_len
  refine (nice_list (k := 2) (m := 6000) (xs := duL st gl) (Nat.le_refl _) fun x hx => ?_).mono (by omega) (by simp)
  simp only [List.mem_cons, List.not_mem_nil, or_false] at hx
  rcases hx with rfl | rfl | rfl
  · exact (nice_list (k := 1) (m := 600) (xs := (riN st gl).map lD) (Nat.le_refl _) fun x hx => by
      obtain ⟨l, hl, rfl⟩ := List.mem_map.mp hx
      have := r3 l hl
      exact nice_lD (by omega) (rl l hl)).mono (by omega) (by rw [List.length_map]; omega)
  · exact (nice_list (k := 1) (m := 600) (xs := (chN st gl).map lD) (Nat.le_refl _) fun x hx => by
      obtain ⟨l, hl, rfl⟩ := List.mem_map.mp hx
      have := r4 l hl
      exact nice_lD (by omega) (cl l hl)).mono (by omega) (by rw [List.length_map]; omega)
  · exact (nice_lD (l := stN st gl) (by omega) fun x hx => by have := List.mem_range.mp (List.mem_filter.mp hx).1; omega).mono (by omega) (by omega)
abbrev duO (st gl : List Int) : Option DV := some (.own (duL st gl))
abbrev duD (st gl : List Int) : Option DV := some (.d (.list (duL st gl)))
theorem z10_10 (B : L10 gs ps st gl) (hr : TrL (riN st gl) fr) (hc : TrL (chN st gl) fc) (hr2 : TrL (riN st gl) fr2) (hc2 : TrL (chN st gl) fc2)
    (h : E.nx (s10 gs ps st gl (ptD10 st gl) (duD st gl) (kpO gs ps st gl) (wdD gs ps st gl) (t3O st gl fr fc pr pc k3 p8) (t3O st gl fr2 fc2 pr2 pc2 k4 p9) none none none none n)) :
    t_right_10 (sp_same 8) E (s10 gs ps st gl (ptD10 st gl) (duO st gl) (kpO gs ps st gl) (wdO gs ps st gl) (t3O st gl fr fc pr pc k3 p8) (t3O st gl fr2 fc2 pr2 pc2 k4 p9) none none none none n) := by
  have nd := nice_du B
  have nn : Nice 4 50000 (.list [.list (duL st gl), .list (duL st gl)]) := (nice_list (k := 3) (m := 20000) (xs := [.list (duL st gl), .list (duL st gl)]) (Nat.le_refl _) fun x hx => by
    simp only [List.mem_cons, List.not_mem_nil, or_false, or_self] at hx
    rw [hx]; exact nd).mono (by omega) (by simp)
  show (dIfS (dBorT [] 8 (dBorT [] 9 (dNot (dTr (dCall (sp_same 8) (fun as => as) (dCons (dLst (dCons (dVar 8) (dCons (dVar 9) dNil))) (dCons (dLst (dCons (dVar 5) (dCons (dVar 5) dNil))) dNil))))))) (dRet (dC (.bool false))) dNext) E (s10 gs ps st gl (ptD10 st gl) (duD st gl) (kpO gs ps st gl) (wdD gs ps st gl) (t3O st gl fr fc pr pc k3 p8) (t3O st gl fr2 fc2 pr2 pc2 k4 p9) none none none none n)
  refine ⟨_, _, rfl, ⟨fz3 hr hc, fun q hq => by cases hq⟩, ?_⟩
  refine ⟨_, _, rfl, ⟨fz3 hr2 hc2, fun q hq => by cases hq⟩, ?_⟩
  refine few_in (n := 2) (by omega) ?_
  refine few_in (n := 2) (by omega) ?_
  refine ⟨_, rfl, nn.mono (by omega) (by omega), by have := nn.dp; exact Nat.lt_of_le_of_lt this (by omega), ?_⟩
  have o8 : OkSl (s10 gs ps st gl (ptD10 st gl) (duD st gl) (kpO gs ps st gl) (wdD gs ps st gl) (t3O st gl fr fc pr pc k3 p8) (t3O st gl fr2 fc2 pr2 pc2 k4 p9) none none none none n).sl := ⟨trivial, trivial, trivial, trivial, trivial, trivial, trivial, trivial, up3 hr hc, up3 hr2 hc2, trivial, trivial, trivial, trivial, trivial, trivial, trivial, trivial⟩
  have o9 : OkSl (s10 gs ps st gl (ptD10 st gl) (duD st gl) (kpO gs ps st gl) (wdD gs ps st gl) (some (.d (.list (duL st gl)))) (t3O st gl fr2 fc2 pr2 pc2 k4 p9) none none none none n).sl := ⟨trivial, trivial, trivial, trivial, trivial, trivial, trivial, trivial, trivial, up3 hr2 hc2, trivial, trivial, trivial, trivial, trivial, trivial, trivial, trivial⟩
  refine ⟨safe_ok (i := 9) o9, ?_⟩
  refine ⟨safe_ok (i := 8) o8, ?_⟩
  exact h
theorem z11_10 (B : L10 gs ps st gl) (hr : TrL (riN st gl) fr) (hc : TrL (chN st gl) fc) (h : E.nx (s10 gs ps st gl a4 a5 a6 a7 none a9 none a11 a12 a13 n)) : t_right_11 E (s10 gs ps st gl a4 a5 a6 a7 (t3O st gl fr fc pr pc k3 p8) a9 a10 a11 a12 a13 n) := by
  have T := B.tw
  have l8 := B.s8
  obtain ⟨r1, r2, r3, r4⟩ := lots_len T
  have sl : (stN st gl).length ≤ st.length := filt_len
  have lr := hr.len
  have lc := hc.len
  refine ⟨by decide, by show 10 < 17; omega, _, _, rfl, by show 3 ≤ 1000; omega, fun f hf => ?_, h⟩
  simp only [List.mem_cons, List.not_mem_nil, or_false] at hf
  rcases hf with rfl | rfl | rfl
  · exact ls_mtl (by omega)
  · exact ls_mtl (by omega)
  · exact ls_lst (by rw [List.length_map]; omega)
theorem z12_10 (B : L10 gs ps st gl) (hr : TrL (riN st gl) fr) (hc : TrL (chN st gl) fc) (h : E.nx (s10 gs ps st gl a4 a5 a6 a7 a8 none none none a12 a13 n)) : t_right_12 E (s10 gs ps st gl a4 a5 a6 a7 a8 (t3O st gl fr fc pr pc k3 p9) a10 a11 a12 a13 n) := by
  have T := B.tw
  have l8 := B.s8
  obtain ⟨r1, r2, r3, r4⟩ := lots_len T
  have lr := hr.len
  have lc := hc.len
  exact ⟨⟨by decide, by decide, by decide⟩, by show 10 < 17; omega, by show 11 < 17; omega, fr, pr, fc, pc, _, _, rfl, by omega, by omega, hr.ls fun l hl => by have := r3 l hl; omega, hc.ls fun l hl => by have := r4 l hl; omega, h⟩
end
def absX (x : Int) : Int := if x < 0 then -x else x
theorem zip_iX : ∀ (xs ys : List Int), zipD (xs.map .int) (ys.map .int) = (xs.zip ys).map fun q => PyData.tuple [.int q.1, .int q.2]
  | [], _ => by simp [zipD]
  | _ :: _, [] => by simp [zipD]
  | x :: xs, y :: ys => by
    show PyData.tuple [.int x, .int y] :: zipD (xs.map .int) (ys.map .int) = _
    rw [zip_iX xs ys]
    rfl
def wayX (st gl : List Int) : Int := ((st.zip gl).map fun q => absX (q.1 - q.2)).sum
def sp_way : DSp := fun args n Q _ => ∃ u v st gl, args = [.d (stD u st), .d (stD v gl)] ∧ st.length ≤ 1000 ∧ Q (.d (.int (wayX st gl))) n
theorem r_way : ∀ args n Qa Ea, sp_way args n Qa Ea → t_way (fin Qa) (startD 4 args n) := by
  rintro args n Qa Ea ⟨u, v, st, gl, rfl, hl, hq⟩
  refine lc_map (fun q : Int × Int => PyData.tuple [.int q.1, .int q.2]) (st.zip gl) (fun q => some (.int (absX (q.1 - q.2)))) (ds1 := ⟨[some (.d (stD u st)), some (.d (stD v gl)), none, none], n⟩) (fun K hK => ?_) rfl (fun q _ acc P hP => hP) ?_
  · rw [← zip_iX] at hK
    cases u <;> cases v <;> exact ⟨by rw [List.length_map]; omega, hK⟩
  · rw [fm_some]
    show someD (intsD ((st.zip gl).map fun q => PyData.int (absX (q.1 - q.2)))) _
    rw [sum_lc]
    exact hq
theorem sum_bd {B : Int} : ∀ {xs : List Int}, (∀ x ∈ xs, 0 ≤ x ∧ x ≤ B) → 0 ≤ xs.sum ∧ xs.sum ≤ B * (xs.length : Int)
  | [], _ => by simp
  | x :: xs, h => by
    obtain ⟨h1, h2⟩ := h x List.mem_cons_self
    obtain ⟨h3, h4⟩ := sum_bd fun y hy => h y (List.mem_cons_of_mem _ hy)
    rw [List.sum_cons, List.length_cons]
    have : B * (((xs.length + 1 : Nat)) : Int) = B * (xs.length : Int) + B := by rw [Int.natCast_add, Int.mul_add]; simp
    omega
theorem way_self {gl : List Int} : wayX gl gl = 0 := by
  unfold wayX
  induction gl with
  | nil => rfl
  | cons x xs ih =>
    rw [List.zip_cons_cons, List.map_cons, List.sum_cons, ih]
    show absX (x - x) + 0 = 0
    rw [Int.sub_self]; rfl
section
variable {gs : List Int} {ps : List (Int × Int)} {st gl : List Int} {n : Nat} {E : DEn} {a4 a5 a6 a7 a8 a9 a10 a11 a12 a13 : Option DV} {fr fc : List Fv} {pr pc k3 p8 : Addr} {fl : List Nat}
theorem way_small (B : L10 gs ps st gl) : (wayX st gl).natAbs ≤ 100000000000000000000 := by
  have l8 := B.s8
  have bd : ∀ x ∈ ((st.zip gl).map fun q => absX (q.1 - q.2)), 0 ≤ x ∧ x ≤ 2000000000 := fun x hx => by
    obtain ⟨q, hq, rfl⟩ := List.mem_map.mp hx
    have a1 := B.G.sub _ (List.of_mem_zip hq).1
    have b1 := B.L.sub _ (List.of_mem_zip hq).2
    have := B.P.asc.lo _ a1
    have := B.P.asc.hi _ a1
    have := B.P.asc.lo _ b1
    have := B.P.asc.hi _ b1
    unfold absX
    split <;> omega
  obtain ⟨h1, h2⟩ := sum_bd bd
  have hl : ((st.zip gl).map fun q => absX (q.1 - q.2)).length ≤ 8 := by rw [List.length_map, List.length_zip]; omega
  unfold wayX
  omega
theorem z14_10 (B : L10 gs ps st gl) (h : E.nx (s10 gs ps st gl a4 a5 a6 a7 a8 a9 a10 a11 (some (.d (.int (wayX st gl)))) a13 n)) : t_right_14 E (s10 gs ps st gl a4 a5 a6 a7 a8 a9 a10 a11 a12 a13 n) := by
  have l8 := B.s8
  refine lc_map (fun q : Int × Int => PyData.tuple [.int q.1, .int q.2]) (st.zip gl) (fun q => some (.int ((if q.2 > q.1 then q.2 else q.1) - (if q.2 < q.1 then q.2 else q.1)))) (ds1 := s10 gs ps st gl a4 a5 a6 a7 a8 a9 a10 a11 a12 a13 n) (fun K hK => ⟨by rw [List.length_map]; omega, by rw [zip_iX]; exact hK⟩) rfl (fun q _ acc P hP => hP) ?_
  rw [fm_some]
  show someD (intsD ((st.zip gl).map fun q => PyData.int ((if q.2 > q.1 then q.2 else q.1) - (if q.2 < q.1 then q.2 else q.1)))) _
  rw [sum_lc]
  have e : ((st.zip gl).map fun q => ((if q.2 > q.1 then q.2 else q.1) - (if q.2 < q.1 then q.2 else q.1))) = ((st.zip gl).map fun q => absX (q.1 - q.2)) := List.map_congr_left fun q _ => by
    unfold absX
    split <;> split <;> split <;> omega
  rw [e]
  exact h
theorem z15_10 (B : L10 gs ps st gl) (hr : TrL (riN st gl) fr) (hc : TrL (chN st gl) fc) (h : ∀ a8, E.nx (s10 gs ps st gl (ptD10 st gl) (duD st gl) (kpO gs ps st gl) (wdD gs ps st gl) a8 none none none (some (.d (.int (wayX st gl)))) none n)) :
    t_right_15 (sp_same 8) sp_way E (s10 gs ps st gl (ptD10 st gl) (duD st gl) (kpO gs ps st gl) (wdD gs ps st gl) (t3O st gl fr fc pr pc k3 p8) none none none (some (.d (.int (wayX st gl)))) none n) := by
  have l8 := B.s8
  have nd := nice_du B
  have nw := way_small B
  have nn : Nice 4 70000 (.list [.list (duL st gl), .int (wayX st gl), .int (wayX st gl)]) := (nice_list (k := 3) (m := 20000) (xs := [.list (duL st gl), .int (wayX st gl), .int (wayX st gl)]) (Nat.le_refl _) fun x hx => by
    simp only [List.mem_cons, List.not_mem_nil, or_false, or_self] at hx
    rcases hx with rfl | rfl
    · exact nd.mono (by omega) (by omega)
    · exact (nice_i nw).mono (by omega) (by omega)).mono (by omega) (by simp)
  have o8 : OkSl (s10 gs ps st gl (ptD10 st gl) (duD st gl) (kpO gs ps st gl) (wdD gs ps st gl) (t3O st gl fr fc pr pc k3 p8) none none none (some (.d (.int (wayX st gl)))) none n).sl := ⟨trivial, trivial, trivial, trivial, trivial, trivial, trivial, trivial, up3 hr hc, trivial, trivial, trivial, trivial, trivial, trivial, trivial, trivial, trivial⟩
  show (dIfS (dBorT [] 8 (dNot (dTr (dCall (sp_same 8) (fun as => as) (dCons (dLst (dCons (dVar 8) (dCons (dCall sp_way (fun as => as) (dCons (dVar 2) (dCons (dVar 3) dNil))) (dCons (dCall sp_way (pick 2 [1, 0]) (dCons (dOp2 gIx (dVar 7) (dC (.int 2))) (dCons (dOp2 gIx (dVar 7) (dC (.int 1))) dNil))) dNil)))) (dCons (dLst (dCons (dVar 5) (dCons (dVar 12) (dCons (dVar 12) dNil)))) dNil)))))) (dRet (dC (.bool false))) dNext) E (s10 gs ps st gl (ptD10 st gl) (duD st gl) (kpO gs ps st gl) (wdD gs ps st gl) (t3O st gl fr fc pr pc k3 p8) none none none (some (.d (.int (wayX st gl)))) none n)
  refine ⟨_, _, rfl, ⟨fz3 hr hc, fun q hq => by cases hq⟩, ?_⟩
  refine ⟨true, true, st, gl, rfl, by omega, ?_⟩
  refine ixl2 (t := false) ?_
  refine ixl1 (t := false) ?_
  refine ⟨false, false, st, gl, rfl, by omega, ?_⟩
  refine few_in (n := 3) (by omega) ?_
  refine few_in (n := 3) (by omega) ?_
  refine ⟨_, rfl, nn.mono (by omega) (by omega), by have := nn.dp; exact Nat.lt_of_le_of_lt this (by omega), ?_⟩
  refine ⟨safe_ok (i := 8) o8, ?_⟩
  exact h _
abbrev flO (fl : List Nat) : Option DV := some (.own (fl.map nD))
theorem z16_10 (h : E.nx (s10 gs ps st gl a4 (duD st gl) a6 a7 a8 a9 a10 a11 a12 (flO (stN st gl)) n)) : t_right_16 E (s10 gs ps st gl a4 (duD st gl) a6 a7 a8 a9 a10 a11 a12 a13 n) := by
  refine ixl2 (t := false) ?_
  exact h
theorem forF10 {tb : DTS} {d : D} {its : List D} (h : tb { E with nx := forR (gdName 11) tb E its, ct := forR (gdName 11) tb E its, bk := E.nx } (s10 gs ps st gl a4 a5 a6 a7 a8 a9 a10 (some (.d d)) a12 a13 n)) : forR (gdName 11) tb E (d :: its) (s10 gs ps st gl a4 a5 a6 a7 a8 a9 a10 a11 a12 a13 n) := h
theorem loopF10 : ∀ (ls : List (List Nat)) (fl : List Nat) (a11 : Option DV), fl.length + ls.flatten.length ≤ 1000 → (∀ a11, E.nx (s10 gs ps st gl a4 a5 a6 a7 a8 a9 a10 a11 a12 (flO (fl ++ ls.flatten)) n)) → forR (gdName 11) (dSet 13 (dOp2 fAdd (dVar 13) (dVar 11))) E (ls.map lD) (s10 gs ps st gl a4 a5 a6 a7 a8 a9 a10 a11 a12 (flO fl) n) := by
  intro ls
  induction ls with
  | nil => intro fl a11 _ h; have := h a11; rw [List.flatten_nil, List.append_nil] at this; exact this
  | cons l ls ih =>
    intro fl a11 hl h
    rw [List.flatten_cons, List.length_append] at hl
    refine forF10 ⟨by rw [List.length_map, List.length_map]; omega, ?_⟩
    have := ih (fl ++ l) (some (.d (lD l))) (by rw [List.length_append]; omega) fun a11 => by rw [List.append_assoc, ← List.flatten_cons]; exact h a11
    unfold flO at this
    rw [List.map_append] at this
    exact this
theorem flat_small (B : L10 gs ps st gl) : (stN st gl ++ (riN st gl ++ chN st gl).flatten).Perm (List.range st.length) := by
  have := all_once B.tw
  rw [List.append_assoc, ← List.flatten_append] at this
  exact this
theorem z17_10 (B : L10 gs ps st gl) (h : ∀ a11, E.nx (s10 gs ps st gl a4 (duD st gl) a6 a7 a8 a9 a10 a11 a12 (flO (stN st gl ++ (riN st gl ++ chN st gl).flatten)) n)) : t_right_17 E (s10 gs ps st gl a4 (duD st gl) a6 a7 a8 a9 a10 a11 a12 (flO (stN st gl)) n) := by
  have l8 := B.s8
  obtain ⟨r1, r2, _, _⟩ := lots_len B.tw
  have p := (flat_small B).length_eq
  rw [List.length_append, List.length_range] at p
  refine ixl0 (t := false) ?_
  refine ixl1 (t := false) ?_
  refine ⟨by rw [List.length_map, List.length_map]; omega, ?_⟩
  have := for_run (loopF10 (E := E) (gs := gs) (ps := ps) (st := st) (gl := gl) (a4 := a4) (a5 := duD st gl) (a6 := a6) (a7 := a7) (a8 := a8) (a9 := a9) (a10 := a10) (a12 := a12) (n := n) (riN st gl ++ chN st gl) (stN st gl) a11 (by omega) h)
  rw [List.map_append] at this
  exact this
theorem z18_10 (B : L10 gs ps st gl) (h : E.nx (s10 gs ps st gl a4 a5 (kpO gs ps st gl) a7 a8 a9 a10 a11 a12 (flO (stN st gl ++ (riN st gl ++ chN st gl).flatten)) n)) : t_right_18 E (s10 gs ps st gl a4 a5 (kpO gs ps st gl) a7 a8 a9 a10 a11 a12 (flO (stN st gl ++ (riN st gl ++ chN st gl).flatten)) n) := by
  have l8 := B.s8
  have nt := nice_tri10 (t := true) B
  have pf := flat_small B
  show someD (intsD ((stN st gl ++ (riN st gl ++ chN st gl).flatten).map nD)) _
  have ei : intsD ((stN st gl ++ (riN st gl ++ chN st gl).flatten).map nD) = some ((stN st gl ++ (riN st gl ++ chN st gl).flatten).map fun (i : Nat) => (i : Int)) := by
    rw [nd_ints]; exact intsD_map _
  rw [ei]
  intro ns' hp hs
  have e : ns' = (List.range st.length).map fun (i : Nat) => (i : Int) := by
    refine List.Perm.eq_of_pairwise (le := fun a b : Int => a ≤ b) (fun a b _ _ h1 h2 => by omega) hs ?_ (hp.trans (pf.map _))
    rw [List.pairwise_map]
    exact List.pairwise_lt_range.imp fun h => by omega
  subst e
  refine lenQ (t := true) ?_
  rw [List.length_map]
  refine ⟨⟨by omega, by omega, by omega, by omega, by omega⟩, ?_⟩
  have er : rgD 0 ((st.length : Nat) : Int) = ((List.range st.length).map fun (i : Nat) => (i : Int)).map .int := by
    unfold rgD
    rw [Int.sub_zero, Int.toNat_natCast, rangeD0, List.map_map]; rfl
  rw [er]
  have nr : Nice 1 1000 (.list (((List.range st.length).map fun (i : Nat) => (i : Int)).map .int)) := (nice_ints (t := false) fun x hx => by
    obtain ⟨i, hi, rfl⟩ := List.mem_map.mp hx
    have := List.mem_range.mp hi
    show Int.natAbs ((i : Nat) : Int) ≤ _
    omega).mono (by omega) (by rw [List.length_map, List.length_range]; omega)
  refine fne_in (nr.shaped (by omega)) (nr.shaped (by omega)) ?_
  rw [eqv_refl _ nr.ok]
  refine few_in (n := 3) (by omega) ?_
  refine ⟨nt.shows (by omega) (by omega), ?_⟩
  refine fne_str ?_
  rw [decide_eq_true rfl]
  exact h
theorem trl_nil {fs : List Fv} (h : TrL [] fs) : fs = [] := by cases h; rfl
theorem z19_10 (B : L10 gs ps st gl) (h : E.nx (s10 gs ps st gl a4 a5 a6 a7 a8 a9 a10 a11 a12 a13 n)) : t_right_19 (sp_same 8) sp_chainsT sp_ringsT E (s10 gs ps st gl a4 a5 a6 a7 a8 a9 a10 a11 a12 a13 n) := by
  have A : Arg2 ps gl gl := ⟨B.L.two B.L, by have := B.l8; omega⟩
  have nn : Nice 2 100 (.list [.list [], .list []]) := (nice_list (b := big) (k := 1) (m := 10) (xs := [.list [], .list []]) (Nat.le_refl _) fun x hx => by
    have h0 := nice_list (b := big) (k := 0) (m := 1) (xs := []) (Nat.le_refl _) fun x hx => by cases hx
    simp only [List.mem_cons, List.not_mem_nil, or_false, or_self] at hx
    rw [hx]
    exact h0.mono (by omega) (by simp)).mono (by omega) (by simp)
  refine ⟨true, true, true, gs, ps, gl, gl, rfl, A, fun fr pr hr => ⟨.list [], ?_, ?_⟩⟩
  · rw [ri_self] at hr
    rw [trl_nil hr]
    exact fz_mtl .nil
  refine ⟨true, true, true, gs, ps, gl, gl, rfl, A, fun fc pc hc => ⟨.list [], ?_, ?_⟩⟩
  · rw [ch_self] at hc
    rw [trl_nil hc]
    exact fz_mtl .nil
  refine few_in (n := 2) (by omega) ?_
  refine few_in (n := 0) (by omega) ?_
  refine few_in (n := 0) (by omega) ?_
  refine few_in (n := 2) (by omega) ?_
  exact ⟨_, rfl, nn.mono (by omega) (by omega), by have := nn.dp; exact Nat.lt_of_le_of_lt this (by omega), h⟩
theorem z20_10 (B : L10 gs ps st gl) (h : ∀ ds : DS, ds.n = n → E.rt (.d (.bool true)) ds) : t_right_20 sp_way E (s10 gs ps st gl a4 a5 a6 a7 a8 a9 a10 a11 a12 a13 n) := by
  have l8 := B.l8
  have gl8 := B.L.len
  refine ⟨true, true, gl, gl, rfl, by omega, ?_⟩
  refine feq_int ?_
  rw [way_self]
  exact h _ rfl
end
abbrev j10_20 : DTS := t_right_20 sp_way
abbrev j10_19 : DTS := dSeq (t_right_19 (sp_same 8) sp_chainsT sp_ringsT) j10_20
abbrev j10_18 : DTS := dSeq (t_right_18) j10_19
abbrev j10_17 : DTS := dSeq (t_right_17) j10_18
abbrev j10_16 : DTS := dSeq (t_right_16) j10_17
abbrev j10_15 : DTS := dSeq (t_right_15 (sp_same 8) sp_way) j10_16
abbrev j10_14 : DTS := dSeq (t_right_14) j10_15
abbrev j10_13 : DTS := dSeq (t_right_13 sp_settled sp_chainsT sp_ringsT) j10_14
abbrev j10_12 : DTS := dSeq (t_right_12) j10_13
abbrev j10_11 : DTS := dSeq (t_right_11) j10_12
abbrev j10_10 : DTS := dSeq (t_right_10 (sp_same 8)) j10_11
abbrev j10_9 : DTS := dSeq (t_right_9 sp_settled) j10_10
abbrev j10_8 : DTS := dSeq (t_right_8 sp_chainsT sp_ringsT) j10_9
abbrev j10_7 : DTS := dSeq (t_right_7 sp_settled sp_chainsT sp_ringsT) j10_8
abbrev j10_6 : DTS := dSeq (t_right_6 (sp_lists 8)) j10_7
abbrev j10_5 : DTS := dSeq (t_right_5) j10_6
abbrev j10_4 : DTS := dSeq (t_right_4) j10_5
abbrev j10_3 : DTS := dSeq (t_right_3) j10_4
abbrev j10_2 : DTS := dSeq (t_right_2 sp_l_rings) j10_3
abbrev j10_1 : DTS := dSeq (t_right_1 sp_goal) j10_2
theorem r_right : ∀ args n Qa Ea, sp_right args n Qa Ea → t_right sp_plant sp_goal sp_l_rings (sp_lists 8) sp_settled sp_chainsT sp_ringsT (sp_same 8) sp_way (fin Qa) (startD 17 args n) := by
  rintro args n Qa Ea ⟨rfl, hn, hQ⟩
  refine sqX (t := t_right_0 sp_plant) (E := fin Qa) (u := j10_1) (z0_10 (by omega) fun gs ps st n1 P G l12 l8 hl h1 => ?_)
  refine sqX (t := t_right_1 sp_goal) (E := fin Qa) (u := j10_2) (z1_10 P G l8 l12 hl (by omega) fun gl n2 B h2 => ?_)
  refine sqX (t := t_right_2 sp_l_rings) (E := fin Qa) (u := j10_3) (z2_10 B ?_)
  refine sqX (t := t_right_3) (E := fin Qa) (u := j10_4) (z3_10 B ?_)
  refine sqX (t := t_right_4) (E := fin Qa) (u := j10_5) (z4_10 B ?_)
  refine sqX (t := t_right_5) (E := fin Qa) (u := j10_6) (z5_10 B ?_)
  refine sqX (t := t_right_6 (sp_lists 8)) (E := fin Qa) (u := j10_7) (z6_10 B ?_)
  refine sqX (t := t_right_7 sp_settled sp_chainsT sp_ringsT) (E := fin Qa) (u := j10_8) (tol_in B fun fr fc pr pc k3 p8 hr hc => ?_)
  refine sqX (t := t_right_8 sp_chainsT sp_ringsT) (E := fin Qa) (u := j10_9) (z8_10 B fun fr2 fc2 pr2 pc2 p9 hr2 hc2 => ?_)
  refine sqX (t := t_right_9 sp_settled) (E := fin Qa) (u := j10_10) (z9_10 B fun k4 => ?_)
  refine sqX (t := t_right_10 (sp_same 8)) (E := fin Qa) (u := j10_11) (z10_10 B hr hc hr2 hc2 ?_)
  refine sqX (t := t_right_11) (E := fin Qa) (u := j10_12) (z11_10 B hr hc ?_)
  refine sqX (t := t_right_12) (E := fin Qa) (u := j10_13) (z12_10 B hr2 hc2 ?_)
  refine sqX (t := t_right_13 sp_settled sp_chainsT sp_ringsT) (E := fin Qa) (u := j10_14) (tol_in B fun fr3 fc3 pr3 pc3 k5 p10 hr3 hc3 => ?_)
  refine sqX (t := t_right_14) (E := fin Qa) (u := j10_15) (z14_10 B ?_)
  refine sqX (t := t_right_15 (sp_same 8) sp_way) (E := fin Qa) (u := j10_16) (z15_10 B hr3 hc3 fun b8 => ?_)
  refine sqX (t := t_right_16) (E := fin Qa) (u := j10_17) (z16_10 ?_)
  refine sqX (t := t_right_17) (E := fin Qa) (u := j10_18) (z17_10 B fun b11 => ?_)
  refine sqX (t := t_right_18) (E := fin Qa) (u := j10_19) (z18_10 B ?_)
  refine sqX (t := t_right_19 (sp_same 8) sp_chainsT sp_ringsT) (E := fin Qa) (u := j10_20) (z19_10 B ?_)
  refine z20_10 (E := fin Qa) B fun ds hd => ?_
  show Qa _ ds.n
  rw [hd]
  exact hQ n2 (by omega)
def top (i : Nat) : Stmt := PySem.Challenge.pw_spindlefit_k10_rings_and_chains.main.body.getD i (.Pass ⟨0, 0, 0, 0⟩)
section
variable {P : Program} {w : World} {K : Fg} {mg : Str → Option Value} {base : Heap} {k : Nat}
abbrev s_take : Stmt := top 10
def p_take : List Str := ["_law_box_here", "_law_span_here"]
abbrev s_pick : Stmt := top 11
def n_pick : List Str := ["_law_box_here", "_law_some"]
def p_pick : List Str := ["_law_box_here", "_law_some"]
theorem sc_pick : FnScope n_pick p_pick (defScope s_pick) := ⟨rfl, rfl, rfl, by decide +kernel, rfl, by decide +kernel, by decide +kernel⟩
theorem d_pick (B : Bi mg) {sp_take : DSp} (I_take : Pr P w K mg base k "_law_take" s_take p_take sp_take) {f : Addr} {cdv : Value} {A : Around} {outer : List Env} {s : Shared} {H : Hp} {E : XK} {F : Fx} (hr : RoomG (k) (A.deeper (envOfC "_law_pick" (defScope s_pick) s.heap.objs.size f cdv))) :
    DSs (cxOf (L2.CX P w) P w K mg base n_pick "_law_pick" (defScope s_pick) f cdv A outer s H E).nox F (defBody s_pick) (t_pick sp_take) :=
  have nd := sc_pick.nd
  (dss_one (ds_ret (de_ix (de_var (pv 1)) (de_callP I_take hr rfl (da_cons (de_var (pv 0)) (da_cons (de_bl' bd_len rfl B.b_len rfl (da_cons (de_var (pv 1)) da_nil)) da_nil))) (fun _ _ => rfl))))
abbrev s_same : Stmt := top 12
def n_same : List Str := ["_law_found", "_law_due", "_law_mine", "_law_its"]
def p_same : List Str := ["_law_found", "_law_due"]
theorem sc_same : FnScope n_same p_same (defScope s_same) := ⟨rfl, rfl, rfl, by decide +kernel, rfl, by decide +kernel, by decide +kernel⟩
theorem d_same (B : Bi mg) {sp_same : DSp} (I_same : Pr P w K mg base k "_law_same" s_same p_same sp_same) {f : Addr} {cdv : Value} {A : Around} {outer : List Env} {s : Shared} {H : Hp} {E : XK} {F : Fx} (hr : RoomG (k) (A.deeper (envOfC "_law_same" (defScope s_same) s.heap.objs.size f cdv))) :
    DSs (cxOf (L2.CX P w) P w K mg base n_same "_law_same" (defScope s_same) f cdv A outer s H E).nox F (defBody s_same) (t_same sp_same) :=
  have nd := sc_same.nd
  (dss_cons (ds_if (dt_tru (de_isi2 isT_list isT_tuple rfl B.b_isinstance rfl B.b_list rfl rfl B.b_tuple rfl (de_var (pv 1)))) (dss_cons (ds_if (PW.pt (dw_or (dt_cmp (cd_ne hr.rm.units) (de_isi isT_list rfl B.b_isinstance rfl B.b_list rfl (de_var (pv 0))) (de_isi isT_list rfl B.b_isinstance rfl B.b_list rfl (de_var (pv 1))) (nomark _)) (dw_or1 (dt_cmp (cd_ne hr.rm.units) (de_isi isT_tuple rfl B.b_isinstance rfl B.b_tuple rfl (de_var (pv 0))) (de_isi isT_tuple rfl B.b_isinstance rfl B.b_tuple rfl (de_var (pv 1))) (nomark _))))) (dss_one (ds_ret de_bl)) dss_nil)
    (dss_one (ds_ret (de_and (de_cmp (cd_eq hr.rm.units) (de_bl' bd_len rfl B.b_len rfl (da_cons (de_var (pv 0)) da_nil)) (de_bl' bd_len rfl B.b_len rfl (da_cons (de_var (pv 1)) da_nil)) (nomark _)) (de_one (de_bl' (bd_all rfl) rfl B.b_all rfl (da_cons (de_lc (T := [2, 3]) (own := [("_law_mine", 2), ("_law_its", 3)]) rfl nd (di_zip rfl B.b_zip (da_cons (de_var (pv 0)) (da_cons (de_var (pv 1)) da_nil))) (blk_of (by rfl)) (by decide) (fun _ _ _ _ _ => (dg_tup rfl (dgs_cons (dg_name nd rfl (by first | exact Or.inl rfl | exact Or.inr rfl)) (dgs_cons (dg_name nd rfl (by first | exact Or.inl rfl | exact Or.inr rfl)) dgs_nil)))) (fun _ _ _ _ _ => dts_nil) (fun _ _ _ _ _ => (de_callP I_same hr rfl (da_cons (de_var (pv 2)) (da_cons (de_var (pv 3)) da_nil))))) da_nil))))))) dss_nil)
    (dss_cons (ds_if (PW.pt (dw_or (dt_cmp cd_is (de_var (pv 1)) de_non (nomark _)) (dw_or1 (dt_tru (de_isi isT_str rfl B.b_isinstance rfl B.b_str rfl (de_var (pv 1))))))) (dss_one (ds_ret (de_and (de_cmp (cd_eq hr.rm.units) (de_var (pv 0)) (de_var (pv 1)) (nomark _)) (de_one (de_cmp (cd_eq hr.rm.units) (de_isi isT_str rfl B.b_isinstance rfl B.b_str rfl (de_var (pv 0))) (de_isi isT_str rfl B.b_isinstance rfl B.b_str rfl (de_var (pv 1))) (nomark _)))))) dss_nil)
    (dss_one (ds_ret (de_and (de_isi isT_int rfl B.b_isinstance rfl B.b_int rfl (de_var (pv 0))) (de_and (de_cmp (cd_eq hr.rm.units) (de_isi isT_bool rfl B.b_isinstance rfl B.b_bool rfl (de_var (pv 0))) (de_isi isT_bool rfl B.b_isinstance rfl B.b_bool rfl (de_var (pv 1))) (nomark _)) (de_one (de_cmp (cd_eq hr.rm.units) (de_var (pv 0)) (de_var (pv 1)) (nomark _)))))))))
abbrev s_lists : Stmt := top 13
def n_lists : List Str := ["_law_matter", "_law_part"]
def p_lists : List Str := ["_law_matter"]
theorem sc_lists : FnScope n_lists p_lists (defScope s_lists) := ⟨rfl, rfl, rfl, by decide +kernel, rfl, by decide +kernel, by decide +kernel⟩
theorem d_lists (B : Bi mg) {sp_lists : DSp} (I_lists : Pr P w K mg base k "_law_lists" s_lists p_lists sp_lists) {f : Addr} {cdv : Value} {A : Around} {outer : List Env} {s : Shared} {H : Hp} {E : XK} {F : Fx} (hr : RoomG (k) (A.deeper (envOfC "_law_lists" (defScope s_lists) s.heap.objs.size f cdv))) :
    DSs (cxOf (L2.CX P w) P w K mg base n_lists "_law_lists" (defScope s_lists) f cdv A outer s H E).nox F (defBody s_lists) (t_lists sp_lists) :=
  have nd := sc_lists.nd
  (dss_one (ds_ret (de_if (dt_tru (de_isi2 isT_list isT_tuple rfl B.b_isinstance rfl B.b_list rfl rfl B.b_tuple rfl (de_var (pv 0)))) (de_lc (T := [1]) (own := [("_law_part", 1)]) rfl nd (di_sq (de_var (pv 0))) (blk_of (by rfl)) (by decide) (fun _ _ _ _ _ => (dg_name nd rfl (by first | exact Or.inl rfl | exact Or.inr rfl))) (fun _ _ _ _ _ => dts_nil) (fun _ _ _ _ _ => (de_callP I_lists hr rfl (da_cons (de_var (pv 1)) da_nil)))) (de_var (pv 0)))))
abbrev s_shuffled : Stmt := top 14
def n_shuffled : List Str := ["_law_box_here", "_law_some", "_law_left", "_law_found"]
def p_shuffled : List Str := ["_law_box_here", "_law_some"]
theorem sc_shuffled : FnScope n_shuffled p_shuffled (defScope s_shuffled) := ⟨rfl, rfl, rfl, by decide +kernel, rfl, by decide +kernel, by decide +kernel⟩
theorem d_shuffled (B : Bi mg) {sp_take : DSp} (I_take : Pr P w K mg base k "_law_take" s_take p_take sp_take) {f : Addr} {cdv : Value} {A : Around} {outer : List Env} {s : Shared} {H : Hp} {E : XK} {F : Fx} (hr : RoomG (k) (A.deeper (envOfC "_law_shuffled" (defScope s_shuffled) s.heap.objs.size f cdv))) :
    DSs (cxOf (L2.CX P w) P w K mg base n_shuffled "_law_shuffled" (defScope s_shuffled) f cdv A outer s H E).nox F (defBody s_shuffled) (t_shuffled sp_take) :=
  have nd := sc_shuffled.nd
  (dss_cons (ds_par (ps_par (i := 2) (j := 3) rfl nd rfl rfl (by decide) rfl rfl (da_cons (de_ty bd_list rfl B.b_list rfl (da_cons (de_var (pv 1)) da_nil)) (da_cons (de_lst da_nil) da_nil)) rfl))
    (dss_cons (ds_while PassesOwn.never (dt_cmp (cd_ne hr.rm.units) (de_var (pv 2)) (de_lst da_nil) (nomark _)) (dss_one (ds_expr (de_append (pv 3) (da_cons (de_popAt (pv 2) (da_cons (de_callP I_take hr rfl (da_cons (de_var (pv 0)) (da_cons (de_bl' bd_len rfl B.b_len rfl (da_cons (de_var (pv 2)) da_nil)) da_nil))) da_nil)) da_nil)))))
    (dss_one (ds_ret (de_var (pv 3))))))
abbrev s_gauges : Stmt := top 15
def n_gauges : List Str := ["_law_box_here", "_law_total", "_law_gap", "_law_top", "_law_found", "_law_k"]
def p_gauges : List Str := ["_law_box_here", "_law_total"]
theorem sc_gauges : FnScope n_gauges p_gauges (defScope s_gauges) := ⟨rfl, rfl, rfl, by decide +kernel, rfl, by decide +kernel, by decide +kernel⟩
theorem d_gauges (B : Bi mg) {sp_take : DSp} {sp_pick : DSp} (I_take : Pr P w K mg base k "_law_take" s_take p_take sp_take) (I_pick : Pr P w K mg base k "_law_pick" s_pick p_pick sp_pick) {f : Addr} {cdv : Value} {A : Around} {outer : List Env} {s : Shared} {H : Hp} {E : XK} {F : Fx} (hr : RoomG (k) (A.deeper (envOfC "_law_gauges" (defScope s_gauges) s.heap.objs.size f cdv))) :
    DSs (cxOf (L2.CX P w) P w K mg base n_gauges "_law_gauges" (defScope s_gauges) f cdv A outer s H E).nox F (defBody s_gauges) (t_gauges sp_take sp_pick) :=
  have nd := sc_gauges.nd
  (dss_cons (ds_par3 (ps_par3 (i := 2) (j := 3) (l := 4) rfl nd rfl rfl rfl (by decide) (by decide) (by decide) rfl rfl rfl (da_cons (de_callP I_pick hr rfl (da_cons (de_var (pv 0)) (da_cons (de_lst (da_cons de_int (da_cons de_int (da_cons de_int (da_cons (de_pow de_int de_int) da_nil))))) da_nil))) (da_cons (de_callP I_take hr rfl (da_cons (de_var (pv 0)) (da_cons de_int da_nil))) (da_cons (de_lst da_nil) da_nil))) rfl))
    (dss_cons (ds_for PassesOwn.never rfl (di_range1 rfl B.b_range (da_cons (de_var (pv 1)) da_nil)) (dg_name nd rfl (by first | exact Or.inl rfl | exact Or.inr rfl)) (dss_cons (ds_set (i := 3) nd rfl (by first | exact Or.inl rfl | exact Or.inr rfl) (de_add (de_add (de_var (pv 3)) de_int) (de_callP I_take hr rfl (da_cons (de_var (pv 0)) (da_cons (de_var (pv 2)) da_nil)))))
    (dss_one (ds_expr (de_append (pv 4) (da_cons (de_var (pv 3)) da_nil))))))
    (dss_one (ds_ret (de_ty bd_tuple rfl B.b_tuple rfl (da_cons (de_var (pv 4)) da_nil))))))
abbrev s_span : Stmt := top 16
def n_span : List Str := ["_law_box_here", "_law_gauges_here", "_law_held", "_law_at", "_law_slack", "_law_first", "_law_last", "_law_bottom", "_law_top"]
def p_span : List Str := ["_law_box_here", "_law_gauges_here", "_law_held"]
theorem sc_span : FnScope n_span p_span (defScope s_span) := ⟨rfl, rfl, rfl, by decide +kernel, rfl, by decide +kernel, by decide +kernel⟩
theorem d_span (B : Bi mg) {sp_take : DSp} (I_take : Pr P w K mg base k "_law_take" s_take p_take sp_take) {f : Addr} {cdv : Value} {A : Around} {outer : List Env} {s : Shared} {H : Hp} {E : XK} {F : Fx} (hr : RoomG (k) (A.deeper (envOfC "_law_span" (defScope s_span) s.heap.objs.size f cdv))) :
    DSs (cxOf (L2.CX P w) P w K mg base n_span "_law_span" (defScope s_span) f cdv A outer s H E).nox F (defBody s_span) (t_span sp_take) :=
  have nd := sc_span.nd
  (dss_cons (ds_par (ps_par (i := 3) (j := 4) rfl nd rfl rfl (by decide) rfl rfl (da_cons (de_idx (de_var (pv 1)) (de_var (pv 2))) (da_cons (de_callP I_take hr rfl (da_cons (de_var (pv 0)) (da_cons de_int da_nil))) da_nil)) rfl))
    (dss_cons (ds_par (ps_par (i := 5) (j := 6) rfl nd rfl rfl (by decide) rfl rfl (da_cons (de_sub (de_var (pv 3)) (de_bl' (bd_min rfl) rfl B.b_min rfl (da_cons (de_var (pv 3)) (da_cons (de_var (pv 4)) da_nil)))) (da_cons (de_bl' (bd_min rfl) rfl B.b_min rfl (da_cons (de_sub (de_bl' bd_len rfl B.b_len rfl (da_cons (de_var (pv 1)) da_nil)) de_int) (da_cons (de_add (de_var (pv 3)) (de_callP I_take hr rfl (da_cons (de_var (pv 0)) (da_cons (de_add (de_var (pv 4)) de_int) da_nil)))) da_nil))) da_nil)) rfl))
    (dss_cons (ds_par (ps_par (i := 7) (j := 8) rfl nd rfl rfl (by decide) rfl rfl (da_cons (de_ix (de_var (pv 1)) (de_add (de_callP I_take hr rfl (da_cons (de_var (pv 0)) (da_cons (de_add (de_sub (de_var (pv 3)) (de_var (pv 5))) de_int) da_nil))) (de_var (pv 5))) (fun _ _ => rfl)) (da_cons (de_ix (de_var (pv 1)) (de_var (pv 6)) (fun _ _ => rfl)) da_nil)) rfl))
    (dss_one (ds_ret (de_tup (da_cons (de_sub (de_var (pv 7)) (de_bl' (bd_min rfl) rfl B.b_min rfl (da_cons (de_sub (de_var (pv 7)) de_int) (da_cons (de_callP I_take hr rfl (da_cons (de_var (pv 0)) (da_cons de_int da_nil))) da_nil)))) (da_cons (de_add (de_var (pv 8)) (de_callP I_take hr rfl (da_cons (de_var (pv 0)) (da_cons de_int da_nil)))) da_nil))))))))
abbrev s_plant : Stmt := top 17
def n_plant : List Str := ["_law_box_here", "_law_mills", "_law_most", "_law_count", "_law_gauges_here", "_law_stand", "_law_held"]
def p_plant : List Str := ["_law_box_here", "_law_mills", "_law_most"]
theorem sc_plant : FnScope n_plant p_plant (defScope s_plant) := ⟨rfl, rfl, rfl, by decide +kernel, rfl, by decide +kernel, by decide +kernel⟩
theorem d_plant (B : Bi mg) {sp_take : DSp} {sp_gauges : DSp} {sp_shuffled : DSp} {sp_span : DSp} (I_take : Pr P w K mg base k "_law_take" s_take p_take sp_take) (I_gauges : Pr P w K mg base k "_law_gauges" s_gauges p_gauges sp_gauges) (I_shuffled : Pr P w K mg base k "_law_shuffled" s_shuffled p_shuffled sp_shuffled) (I_span : Pr P w K mg base k "_law_span" s_span p_span sp_span) {f : Addr} {cdv : Value} {A : Around} {outer : List Env} {s : Shared} {H : Hp} {E : XK} {F : Fx} (hr : RoomG (k) (A.deeper (envOfC "_law_plant" (defScope s_plant) s.heap.objs.size f cdv))) :
    DSs (cxOf (L2.CX P w) P w K mg base n_plant "_law_plant" (defScope s_plant) f cdv A outer s H E).nox F (defBody s_plant) (t_plant sp_take sp_gauges sp_shuffled sp_span) :=
  have nd := sc_plant.nd
  (dss_cons (ds_set (i := 3) nd rfl (by first | exact Or.inl rfl | exact Or.inr rfl) (de_add de_int (de_callP I_take hr rfl (da_cons (de_var (pv 0)) (da_cons (de_var (pv 1)) da_nil)))))
    (dss_cons (ds_set (i := 4) nd rfl (by first | exact Or.inl rfl | exact Or.inr rfl) (de_callP I_gauges hr rfl (da_cons (de_var (pv 0)) (da_cons (de_bl' (bd_min rfl) rfl B.b_min rfl (da_cons (de_var (pv 2)) (da_cons (de_add (de_var (pv 3)) (de_callP I_take hr rfl (da_cons (de_var (pv 0)) (da_cons (de_add (de_sub (de_var (pv 2)) (de_var (pv 3))) de_int) da_nil)))) da_nil))) da_nil))))
    (dss_cons (ds_set (i := 5) nd rfl (by first | exact Or.inl rfl | exact Or.inr rfl) (de_ty bd_tuple rfl B.b_tuple rfl (da_cons (de_sl (de_callP I_shuffled hr rfl (da_cons (de_var (pv 0)) (da_cons (de_var (pv 4)) da_nil))) do_none (do_some (de_var (pv 3)))) da_nil)))
    (dss_one (ds_ret (de_tup (da_cons (de_tup (da_cons (de_var (pv 4)) (da_cons (de_ty bd_tuple rfl B.b_tuple rfl (da_cons (de_lc (T := [6]) (own := [("_law_held", 6)]) rfl nd (di_sq (de_var (pv 5))) (blk_of (by rfl)) (by decide) (fun _ _ _ _ _ => (dg_name nd rfl (by first | exact Or.inl rfl | exact Or.inr rfl))) (fun _ _ _ _ _ => dts_nil) (fun _ _ _ _ _ => (de_callP I_span hr rfl (da_cons (de_var (pv 0)) (da_cons (de_var (pv 4)) (da_cons (de_var (pv 6)) da_nil)))))) da_nil)) da_nil))) (da_cons (de_var (pv 5)) da_nil))))))))
abbrev s_holder : Stmt := top 1
def n_holder : List Str := ["setting", "size"]
def p_holder : List Str := ["setting", "size"]
theorem sc_holder : FnScope n_holder p_holder (defScope s_holder) := ⟨rfl, rfl, rfl, by decide +kernel, rfl, by decide +kernel, by decide +kernel⟩
theorem d_holder (B : Bi mg) {f : Addr} {cdv : Value} {A : Around} {outer : List Env} {s : Shared} {H : Hp} {E : XK} {F : Fx} (hr : RoomG (k) (A.deeper (envOfC "holder" (defScope s_holder) s.heap.objs.size f cdv))) :
    DSs (cxOf (L2.CX P w) P w K mg base n_holder "holder" (defScope s_holder) f cdv A outer s H E).nox F (defBody s_holder) (t_holder) :=
  have nd := sc_holder.nd
  (dss_one (ds_ret (de_if (dt_cmp cd_gin (de_var (pv 1)) (de_var (pv 0)) (by rfl)) (de_idx (de_ty bd_list rfl B.b_list rfl (da_cons (de_var (pv 0)) da_nil)) (de_var (pv 1))) de_non)))
abbrev s_settled : Stmt := top 3
def n_settled : List Str := ["shop", "one", "other", "machine"]
def p_settled : List Str := ["shop", "one", "other"]
theorem sc_settled : FnScope n_settled p_settled (defScope s_settled) := ⟨rfl, rfl, rfl, by decide +kernel, rfl, by decide +kernel, by decide +kernel⟩
theorem d_settled (B : Bi mg) {f : Addr} {cdv : Value} {A : Around} {outer : List Env} {s : Shared} {H : Hp} {E : XK} {F : Fx} (hr : RoomG (k) (A.deeper (envOfC "settled" (defScope s_settled) s.heap.objs.size f cdv))) :
    DSs (cxOf (L2.CX P w) P w K mg base n_settled "settled" (defScope s_settled) f cdv A outer s H E).nox F (defBody s_settled) (t_settled) :=
  have nd := sc_settled.nd
  (dss_one (ds_ret (de_lc (T := [3]) (own := [("machine", 3)]) rfl nd (di_range1 rfl B.b_range (da_cons (de_bl' bd_glen rfl B.b_len rfl (da_cons (de_gix (de_var (pv 0)) de_int (fun _ _ => rfl)) da_nil)) da_nil)) (blk_of (by rfl)) (by decide) (fun _ _ _ _ _ => (dg_name nd rfl (by first | exact Or.inl rfl | exact Or.inr rfl))) (fun _ _ _ _ _ => (dts_one (dt_cmp (cd_eq hr.rm.units) (de_gix (de_var (pv 1)) (de_var (pv 3)) (fun _ _ => rfl)) (de_gix (de_var (pv 2)) (de_var (pv 3)) (fun _ _ => rfl)) (nomark _)))) (fun _ _ _ _ _ => (de_var (pv 3))))))
abbrev s_follow : Stmt := top 4
def n_follow : List Str := ["one", "other", "machine", "found", "later"]
def p_follow : List Str := ["one", "other", "machine"]
theorem sc_follow : FnScope n_follow p_follow (defScope s_follow) := ⟨rfl, rfl, rfl, by decide +kernel, rfl, by decide +kernel, by decide +kernel⟩
theorem d_follow (B : Bi mg) {sp_holder : DSp} (I_holder : Pr P w K mg base k "holder" s_holder p_holder sp_holder) {f : Addr} {cdv : Value} {A : Around} {outer : List Env} {s : Shared} {H : Hp} {E : XK} {F : Fx} (hr : RoomG (k) (A.deeper (envOfC "follow" (defScope s_follow) s.heap.objs.size f cdv))) :
    DSs (cxOf (L2.CX P w) P w K mg base n_follow "follow" (defScope s_follow) f cdv A outer s H E).nox F (defBody s_follow) (t_follow sp_holder) :=
  have nd := sc_follow.nd
  (dss_cons (ds_par (ps_par (i := 3) (j := 4) rfl nd rfl rfl (by decide) rfl rfl (da_cons (de_lst (da_cons (de_var (pv 2)) da_nil)) (da_cons (de_callP I_holder hr rfl (da_cons (de_var (pv 0)) (da_cons (de_gix (de_var (pv 1)) (de_var (pv 2)) (fun _ _ => rfl)) da_nil))) da_nil)) rfl))
    (dss_cons (ds_while PassesOwn.never (PW.pt (dw_and (dt_cmp cd_isnot (de_var (pv 4)) de_non (nomark _)) (dw_and1 (dt_cmp (cd_ne hr.rm.units) (de_var (pv 4)) (de_var (pv 2)) (nomark _))))) (dss_cons (ds_expr (de_append (pv 3) (da_cons (de_var (pv 4)) da_nil)))
    (dss_one (ds_set (i := 4) nd rfl (by first | exact Or.inl rfl | exact Or.inr rfl) (de_callP I_holder hr rfl (da_cons (de_var (pv 0)) (da_cons (de_gix (de_var (pv 1)) (de_var (pv 4)) (fun _ _ => rfl)) da_nil)))))))
    (dss_one (ds_ret (de_var (pv 3))))))
abbrev s_chainsT : Stmt := top 5
def n_chainsT : List Str := ["shop", "one", "other", "unsettled", "machine"]
def p_chainsT : List Str := ["shop", "one", "other"]
theorem sc_chainsT : FnScope n_chainsT p_chainsT (defScope s_chainsT) := ⟨rfl, rfl, rfl, by decide +kernel, rfl, by decide +kernel, by decide +kernel⟩
theorem d_chainsT (B : Bi mg) {sp_follow : DSp} (I_follow : Pr P w K mg base k "follow" s_follow p_follow sp_follow) {f : Addr} {cdv : Value} {A : Around} {outer : List Env} {s : Shared} {H : Hp} {E : XK} {F : Fx} (hr : RoomG (k) (A.deeper (envOfC "chains" (defScope s_chainsT) s.heap.objs.size f cdv))) :
    DSs (cxOf (L2.CX P w) P w K mg base n_chainsT "chains" (defScope s_chainsT) f cdv A outer s H E).nox F (defBody s_chainsT) (t_chainsT sp_follow) :=
  have nd := sc_chainsT.nd
  (dss_cons (ds_setLc (i := 3) (T := [4]) (own := [("machine", 4)]) rfl nd rfl rfl rfl (di_range1 rfl B.b_range (da_cons (de_bl' bd_glen rfl B.b_len rfl (da_cons (de_gix (de_var (pv 0)) de_int (fun _ _ => rfl)) da_nil)) da_nil)) (blk_of (by rfl)) (by decide) (fun _ _ _ _ _ => (dg_name nd rfl (by first | exact Or.inl rfl | exact Or.inr rfl))) (fun _ _ _ _ _ => (dts_one (dt_cmp (cd_ne hr.rm.units) (de_gix (de_var (pv 1)) (de_var (pv 4)) (fun _ _ => rfl)) (de_gix (de_var (pv 2)) (de_var (pv 4)) (fun _ _ => rfl)) (nomark _)))) (fun _ _ _ _ _ => (de_var (pv 4))))
    (dss_one (ds_retT (de_lcV (T := [4]) (own := [("machine", 4)]) rfl nd (di_sq (de_var (pv 3))) (blk_of (by rfl)) (by decide) (fun _ _ _ _ _ => (dg_name nd rfl (by first | exact Or.inl rfl | exact Or.inr rfl))) (fun _ _ _ _ _ => (dts_one (dt_cmp cd_gnotIn (de_gix (de_var (pv 1)) (de_var (pv 4)) (fun _ _ => rfl)) (de_var (pv 2)) (by rfl)))) (fun _ _ _ _ _ => (de_callP I_follow hr rfl (da_cons (de_var (pv 1)) (da_cons (de_var (pv 2)) (da_cons (de_var (pv 4)) da_nil)))))))))
abbrev s_ringsT : Stmt := top 6
def n_ringsT : List Str := ["shop", "one", "other", "done", "chain", "found", "machine"]
def p_ringsT : List Str := ["shop", "one", "other"]
theorem sc_ringsT : FnScope n_ringsT p_ringsT (defScope s_ringsT) := ⟨rfl, rfl, rfl, by decide +kernel, rfl, by decide +kernel, by decide +kernel⟩
theorem d_ringsT (B : Bi mg) {sp_settled : DSp} {sp_chainsT : DSp} {sp_follow : DSp} (I_settled : Pr P w K mg base k "settled" s_settled p_settled sp_settled) (I_chainsT : Pr P w K mg base k "chains" s_chainsT p_chainsT sp_chainsT) (I_follow : Pr P w K mg base k "follow" s_follow p_follow sp_follow) {f : Addr} {cdv : Value} {A : Around} {outer : List Env} {s : Shared} {H : Hp} {E : XK} {F : Fx} (hM : NoM F) (hr : RoomG (k) (A.deeper (envOfC "rings" (defScope s_ringsT) s.heap.objs.size f cdv))) :
    DSs (cxOf (L2.CX P w) P w K mg base n_ringsT "rings" (defScope s_ringsT) f cdv A outer s H E).nox F (defBody s_ringsT) (t_ringsT sp_settled sp_chainsT sp_follow) :=
  have nd := sc_ringsT.nd
  (dss_cons (ds_set (i := 3) nd rfl (by first | exact Or.inl rfl | exact Or.inr rfl) (de_callP I_settled hr rfl (da_cons (de_var (pv 0)) (da_cons (de_var (pv 1)) (da_cons (de_var (pv 2)) da_nil)))))
    (dss_cons (ds_for PassesOwn.never rfl (di_sq (de_frzE (de_callP I_chainsT hr rfl (da_cons (de_var (pv 0)) (da_cons (de_var (pv 1)) (da_cons (de_var (pv 2)) da_nil)))))) (dg_name nd rfl (by first | exact Or.inl rfl | exact Or.inr rfl)) (dss_one (ds_set (i := 3) nd rfl (by first | exact Or.inl rfl | exact Or.inr rfl) (de_add (de_var (pv 3)) (de_var (pv 4))))))
    (dss_cons (ds_set (i := 5) nd rfl (by first | exact Or.inl rfl | exact Or.inr rfl) (de_treeE (de_lst da_nil)))
    (dss_cons (ds_for PassesOwn.never rfl (di_range1 rfl B.b_range (da_cons (de_bl' bd_glen rfl B.b_len rfl (da_cons (de_gix (de_var (pv 0)) de_int (fun _ _ => rfl)) da_nil)) da_nil)) (dg_name nd rfl (by first | exact Or.inl rfl | exact Or.inr rfl)) (dss_one (ds_if (dt_cmp cd_gnotIn (de_var (pv 6)) (de_var (pv 3)) (by rfl)) (dss_cons (ds_appV (i := 5) (pv 5) (da_cons (de_callP I_follow hr rfl (da_cons (de_var (pv 1)) (da_cons (de_var (pv 2)) (da_cons (de_var (pv 6)) da_nil)))) da_nil))
    (dss_one (ds_set (i := 3) nd rfl (by first | exact Or.inl rfl | exact Or.inr rfl) (de_bor (nom_ms hM) (de_add (de_var (pv 3)) (de_gix (de_var (pv 5)) (de_neg de_int) (fun _ _ => rfl))))))) dss_nil)))
    (dss_one (ds_retM (nom_ms hM) (pv 5)))))))
abbrev s_way : Stmt := top 7
def n_way : List Str := ["one", "other", "mine", "its"]
def p_way : List Str := ["one", "other"]
theorem sc_way : FnScope n_way p_way (defScope s_way) := ⟨rfl, rfl, rfl, by decide +kernel, rfl, by decide +kernel, by decide +kernel⟩
theorem d_way (B : Bi mg) {f : Addr} {cdv : Value} {A : Around} {outer : List Env} {s : Shared} {H : Hp} {E : XK} {F : Fx} (hr : RoomG (k) (A.deeper (envOfC "way" (defScope s_way) s.heap.objs.size f cdv))) :
    DSs (cxOf (L2.CX P w) P w K mg base n_way "way" (defScope s_way) f cdv A outer s H E).nox F (defBody s_way) (t_way) :=
  have nd := sc_way.nd
  (dss_one (ds_ret (de_bl' (bd_sum rfl) rfl B.b_sum rfl (da_cons (de_lc (T := [2, 3]) (own := [("mine", 2), ("its", 3)]) rfl nd (di_zip2 rfl B.b_zip (da_cons (de_var (pv 0)) (da_cons (de_var (pv 1)) da_nil))) (blk_of (by rfl)) (by decide) (fun _ _ _ _ _ => (dg_tup rfl (dgs_cons (dg_name nd rfl (by first | exact Or.inl rfl | exact Or.inr rfl)) (dgs_cons (dg_name nd rfl (by first | exact Or.inl rfl | exact Or.inr rfl)) dgs_nil)))) (fun _ _ _ _ _ => dts_nil) (fun _ _ _ _ _ => (de_bl' bd_abs rfl B.b_abs rfl (da_cons (de_sub (de_var (pv 2)) (de_var (pv 3))) da_nil)))) da_nil))))
abbrev s_l_fits : Stmt := top 18
def n_l_fits : List Str := ["_law_plant_here", "_law_mill", "_law_gauge"]
def p_l_fits : List Str := ["_law_plant_here", "_law_mill", "_law_gauge"]
theorem sc_l_fits : FnScope n_l_fits p_l_fits (defScope s_l_fits) := ⟨rfl, rfl, rfl, by decide +kernel, rfl, by decide +kernel, by decide +kernel⟩
theorem d_l_fits (B : Bi mg) {f : Addr} {cdv : Value} {A : Around} {outer : List Env} {s : Shared} {H : Hp} {E : XK} {F : Fx} (hr : RoomG (k) (A.deeper (envOfC "_law_fits" (defScope s_l_fits) s.heap.objs.size f cdv))) :
    DSs (cxOf (L2.CX P w) P w K mg base n_l_fits "_law_fits" (defScope s_l_fits) f cdv A outer s H E).nox F (defBody s_l_fits) (t_l_fits) :=
  have nd := sc_l_fits.nd
  (dss_one (ds_ret (de_chain cd_le cd_le (de_gix (de_gix (de_gix (de_var (pv 0)) de_int (fun _ _ => rfl)) (de_var (pv 1)) (fun _ _ => rfl)) de_int (fun _ _ => rfl)) (de_var (pv 2)) (de_gix (de_gix (de_gix (de_var (pv 0)) de_int (fun _ _ => rfl)) (de_var (pv 1)) (fun _ _ => rfl)) de_int (fun _ _ => rfl)))))
abbrev s_store : Stmt := top 19
def n_store : List Str := ["_law_plant_here", "_law_stand", "_law_gauge"]
def p_store : List Str := ["_law_plant_here", "_law_stand"]
theorem sc_store : FnScope n_store p_store (defScope s_store) := ⟨rfl, rfl, rfl, by decide +kernel, rfl, by decide +kernel, by decide +kernel⟩
theorem d_store (B : Bi mg) {f : Addr} {cdv : Value} {A : Around} {outer : List Env} {s : Shared} {H : Hp} {E : XK} {F : Fx} (hr : RoomG (k) (A.deeper (envOfC "_law_store" (defScope s_store) s.heap.objs.size f cdv))) :
    DSs (cxOf (L2.CX P w) P w K mg base n_store "_law_store" (defScope s_store) f cdv A outer s H E).nox F (defBody s_store) (t_store) :=
  have nd := sc_store.nd
  (dss_one (ds_ret (de_lc (T := [2]) (own := [("_law_gauge", 2)]) rfl nd (di_sq (de_gix (de_var (pv 0)) de_int (fun _ _ => rfl))) (blk_of (by rfl)) (by decide) (fun _ _ _ _ _ => (dg_name nd rfl (by first | exact Or.inl rfl | exact Or.inr rfl))) (fun _ _ _ _ _ => (dts_one (dt_cmp cd_gnotIn (de_var (pv 2)) (de_var (pv 1)) (by rfl)))) (fun _ _ _ _ _ => (de_var (pv 2))))))
abbrev s_l_after : Stmt := top 20
def n_l_after : List Str := ["_law_stand", "_law_deal", "_law_found"]
def p_l_after : List Str := ["_law_stand", "_law_deal"]
theorem sc_l_after : FnScope n_l_after p_l_after (defScope s_l_after) := ⟨rfl, rfl, rfl, by decide +kernel, rfl, by decide +kernel, by decide +kernel⟩
theorem d_l_after (B : Bi mg) {f : Addr} {cdv : Value} {A : Around} {outer : List Env} {s : Shared} {H : Hp} {E : XK} {F : Fx} (hr : RoomG (k) (A.deeper (envOfC "_law_after" (defScope s_l_after) s.heap.objs.size f cdv))) :
    DSs (cxOf (L2.CX P w) P w K mg base n_l_after "_law_after" (defScope s_l_after) f cdv A outer s H E).nox F (defBody s_l_after) (t_l_after) :=
  have nd := sc_l_after.nd
  (dss_cons (ds_set (i := 2) nd rfl (by first | exact Or.inl rfl | exact Or.inr rfl) (de_ty bd_list rfl B.b_list rfl (da_cons (de_var (pv 0)) da_nil)))
    (dss_cons (ds_if (dt_cmp (cd_eq hr.rm.units) (de_gix (de_var (pv 1)) de_int (fun _ _ => rfl)) de_str (nomark _)) (dss_one (ds_setIx (ps_asg (de_gix (de_var (pv 1)) de_int (fun _ _ => rfl)) (pg_sub (pv 2) (de_gix (de_var (pv 1)) de_int (fun _ _ => rfl)) set_list)))) (dss_one (ds_swap (ps_swap rfl (da_cons (de_gix (de_var (pv 0)) (de_gix (de_var (pv 1)) de_int (fun _ _ => rfl)) (fun _ _ => rfl)) (da_cons (de_gix (de_var (pv 0)) (de_gix (de_var (pv 1)) de_int (fun _ _ => rfl)) (fun _ _ => rfl)) da_nil)) (pg_sub (pv 2) (de_gix (de_var (pv 1)) de_int (fun _ _ => rfl)) set_list) (pg_sub (pv 2) (de_gix (de_var (pv 1)) de_int (fun _ _ => rfl)) set_list)))))
    (dss_one (ds_ret (de_ty bd_tuple rfl B.b_tuple rfl (da_cons (de_var (pv 2)) da_nil))))))
abbrev s_deals : Stmt := top 21
def n_deals : List Str := ["_law_plant_here", "_law_stand", "_law_found", "_law_count", "_law_mill", "_law_mate", "_law_gauge"]
def p_deals : List Str := ["_law_plant_here", "_law_stand"]
theorem sc_deals : FnScope n_deals p_deals (defScope s_deals) := ⟨rfl, rfl, rfl, by decide +kernel, rfl, by decide +kernel, by decide +kernel⟩
theorem d_deals (B : Bi mg) {sp_l_fits : DSp} {sp_store : DSp} (I_l_fits : Pr P w K mg base k "_law_fits" s_l_fits p_l_fits sp_l_fits) (I_store : Pr P w K mg base k "_law_store" s_store p_store sp_store) {f : Addr} {cdv : Value} {A : Around} {outer : List Env} {s : Shared} {H : Hp} {E : XK} {F : Fx} (hr : RoomG (k) (A.deeper (envOfC "_law_deals" (defScope s_deals) s.heap.objs.size f cdv))) :
    DSs (cxOf (L2.CX P w) P w K mg base n_deals "_law_deals" (defScope s_deals) f cdv A outer s H E).nox F (defBody s_deals) (t_deals sp_l_fits sp_store) :=
  have nd := sc_deals.nd
  (dss_cons (ds_par (ps_par (i := 2) (j := 3) rfl nd rfl rfl (by decide) rfl rfl (da_cons (de_lst da_nil) (da_cons (de_bl' bd_glen rfl B.b_len rfl (da_cons (de_var (pv 1)) da_nil)) da_nil)) rfl))
    (dss_cons (ds_for PassesOwn.never rfl (di_range1 rfl B.b_range (da_cons (de_var (pv 3)) da_nil)) (dg_name nd rfl (by first | exact Or.inl rfl | exact Or.inr rfl)) (dss_one (ds_for PassesOwn.never rfl (di_range2 rfl B.b_range (da_cons (de_add (de_var (pv 4)) de_int) (da_cons (de_var (pv 3)) da_nil))) (dg_name nd rfl (by first | exact Or.inl rfl | exact Or.inr rfl)) (dss_one (ds_if (PW.pt (dw_and (dt_tru (de_callP I_l_fits hr rfl (da_cons (de_var (pv 0)) (da_cons (de_var (pv 4)) (da_cons (de_gix (de_var (pv 1)) (de_var (pv 5)) (fun _ _ => rfl)) da_nil))))) (dw_and1 (dt_tru (de_callP I_l_fits hr rfl (da_cons (de_var (pv 0)) (da_cons (de_var (pv 5)) (da_cons (de_gix (de_var (pv 1)) (de_var (pv 4)) (fun _ _ => rfl)) da_nil)))))))) (dss_one (ds_expr (de_append (pv 2) (da_cons (de_tup (da_cons de_str (da_cons (de_var (pv 4)) (da_cons (de_var (pv 5)) da_nil)))) da_nil)))) dss_nil)))))
    (dss_cons (ds_for PassesOwn.never rfl (di_range1 rfl B.b_range (da_cons (de_var (pv 3)) da_nil)) (dg_name nd rfl (by first | exact Or.inl rfl | exact Or.inr rfl)) (dss_one (ds_expr (de_extend (pv 2) (da_cons (de_lc (T := [6]) (own := [("_law_gauge", 6)]) rfl nd (di_sq (de_callP I_store hr rfl (da_cons (de_var (pv 0)) (da_cons (de_var (pv 1)) da_nil)))) (blk_of (by rfl)) (by decide) (fun _ _ _ _ _ => (dg_name nd rfl (by first | exact Or.inl rfl | exact Or.inr rfl))) (fun _ _ _ _ _ => (dts_one (dt_tru (de_callP I_l_fits hr rfl (da_cons (de_var (pv 0)) (da_cons (de_var (pv 4)) (da_cons (de_var (pv 6)) da_nil))))))) (fun _ _ _ _ _ => (de_tup (da_cons de_str (da_cons (de_var (pv 4)) (da_cons (de_var (pv 6)) da_nil)))))) da_nil)))))
    (dss_one (ds_ret (de_var (pv 2)))))))
abbrev s_wandered : Stmt := top 22
def n_wandered : List Str := ["_law_box_here", "_law_plant_here", "_law_stand", "_law_turns", "_law_tour", "_law_turn", "_law_some"]
def p_wandered : List Str := ["_law_box_here", "_law_plant_here", "_law_stand", "_law_turns"]
theorem sc_wandered : FnScope n_wandered p_wandered (defScope s_wandered) := ⟨rfl, rfl, rfl, by decide +kernel, rfl, by decide +kernel, by decide +kernel⟩
theorem d_wandered (B : Bi mg) {sp_deals : DSp} {sp_l_after : DSp} (I_deals : Pr P w K mg base k "_law_deals" s_deals p_deals sp_deals) (I_l_after : Pr P w K mg base k "_law_after" s_l_after p_l_after sp_l_after) (I_pickH : PrH P w K mg base k "_law_pick" s_pick p_pick (spPick K)) {f : Addr} {cdv : Value} {A : Around} {outer : List Env} {s : Shared} {H : Hp} {E : XK} {F : Fx} (hr : RoomG (k) (A.deeper (envOfC "_law_wandered" (defScope s_wandered) s.heap.objs.size f cdv))) :
    DSs (cxOf (L2.CX P w) P w K mg base n_wandered "_law_wandered" (defScope s_wandered) f cdv A outer s H E).nox F (defBody s_wandered) (t_wandered sp_deals sp_l_after) :=
  have nd := sc_wandered.nd
  (dss_cons (ds_set (i := 4) nd rfl (by first | exact Or.inl rfl | exact Or.inr rfl) (de_lst da_nil))
    (dss_cons (ds_for PassesOwn.never rfl (di_range1 rfl B.b_range (da_cons (de_var (pv 3)) da_nil)) (dg_name nd rfl (by first | exact Or.inl rfl | exact Or.inr rfl)) (dss_cons (ds_set (i := 6) nd rfl (by first | exact Or.inl rfl | exact Or.inr rfl) (de_callP I_deals hr rfl (da_cons (de_var (pv 1)) (da_cons (de_var (pv 2)) da_nil))))
    (dss_one (ds_if (dt_cmp (cd_ne hr.rm.units) (de_var (pv 6)) (de_lst da_nil) (nomark _)) (dss_cons (ds_expr (de_append (pv 4) (da_cons (de_pick I_pickH hr rfl (pv 0) (de_var (pv 6))) da_nil)))
    (dss_one (ds_set (i := 2) nd rfl (by first | exact Or.inl rfl | exact Or.inr rfl) (de_callP I_l_after hr rfl (da_cons (de_var (pv 2)) (da_cons (de_gix (de_var (pv 4)) (de_neg de_int) (fun _ _ => rfl)) da_nil)))))) dss_nil))))
    (dss_one (ds_ret (de_tup (da_cons (de_var (pv 4)) (da_cons (de_var (pv 2)) da_nil)))))))
abbrev s_goal : Stmt := top 23
def n_goal : List Str := ["_law_box_here", "_law_plant_here", "_law_stand", "_law_goal_here", "_law_turn", "_law_some", "_law_mill", "_law_gauge"]
def p_goal : List Str := ["_law_box_here", "_law_plant_here", "_law_stand"]
theorem sc_goal : FnScope n_goal p_goal (defScope s_goal) := ⟨rfl, rfl, rfl, by decide +kernel, rfl, by decide +kernel, by decide +kernel⟩
theorem d_goal (B : Bi mg) {sp_wandered : DSp} {sp_take : DSp} {sp_shuffled : DSp} {sp_l_fits : DSp} (I_wandered : Pr P w K mg base k "_law_wandered" s_wandered p_wandered sp_wandered) (I_take : Pr P w K mg base k "_law_take" s_take p_take sp_take) (I_shuffled : Pr P w K mg base k "_law_shuffled" s_shuffled p_shuffled sp_shuffled) (I_l_fits : Pr P w K mg base k "_law_fits" s_l_fits p_l_fits sp_l_fits) {f : Addr} {cdv : Value} {A : Around} {outer : List Env} {s : Shared} {H : Hp} {E : XK} {F : Fx} (hr : RoomG (k) (A.deeper (envOfC "_law_goal" (defScope s_goal) s.heap.objs.size f cdv))) :
    DSs (cxOf (L2.CX P w) P w K mg base n_goal "_law_goal" (defScope s_goal) f cdv A outer s H E).nox F (defBody s_goal) (t_goal sp_wandered sp_take sp_shuffled sp_l_fits) :=
  have nd := sc_goal.nd
  (dss_cons (ds_set (i := 3) nd rfl (by first | exact Or.inl rfl | exact Or.inr rfl) (de_gix (de_callP I_wandered hr rfl (da_cons (de_var (pv 0)) (da_cons (de_var (pv 1)) (da_cons (de_var (pv 2)) (da_cons (de_callP I_take hr rfl (da_cons (de_var (pv 0)) (da_cons de_int da_nil))) da_nil))))) de_int (fun _ _ => rfl)))
    (dss_cons (ds_for PassesOwn.never rfl (di_range1 rfl B.b_range (da_cons (de_callP I_take hr rfl (da_cons (de_var (pv 0)) (da_cons de_int da_nil))) da_nil)) (dg_name nd rfl (by first | exact Or.inl rfl | exact Or.inr rfl)) (dss_cons (ds_set (i := 5) nd rfl (by first | exact Or.inl rfl | exact Or.inr rfl) (de_ty bd_tuple rfl B.b_tuple rfl (da_cons (de_sl (de_callP I_shuffled hr rfl (da_cons (de_var (pv 0)) (da_cons (de_gix (de_var (pv 1)) de_int (fun _ _ => rfl)) da_nil))) do_none (do_some (de_bl' bd_glen rfl B.b_len rfl (da_cons (de_var (pv 2)) da_nil)))) da_nil)))
    (dss_one (ds_if (dt_tru (de_bl' (bd_all rfl) rfl B.b_all rfl (da_cons (de_lc (T := [6, 7]) (own := [("_law_mill", 6), ("_law_gauge", 7)]) rfl nd (di_enum rfl B.b_enumerate (da_cons (de_var (pv 5)) da_nil)) (blk_of (by rfl)) (by decide) (fun _ _ _ _ _ => (dg_tup rfl (dgs_cons (dg_name nd rfl (by first | exact Or.inl rfl | exact Or.inr rfl)) (dgs_cons (dg_name nd rfl (by first | exact Or.inl rfl | exact Or.inr rfl)) dgs_nil)))) (fun _ _ _ _ _ => dts_nil) (fun _ _ _ _ _ => (de_callP I_l_fits hr rfl (da_cons (de_var (pv 1)) (da_cons (de_var (pv 6)) (da_cons (de_var (pv 7)) da_nil)))))) da_nil))) (dss_one (ds_set (i := 3) nd rfl (by first | exact Or.inl rfl | exact Or.inr rfl) (de_var (pv 5)))) dss_nil))))
    (dss_one (ds_ret (de_var (pv 3))))))
abbrev s_l_rings : Stmt := top 24
def n_l_rings : List Str := ["_law_stand", "_law_goal_here", "_law_found", "_law_done", "_law_heads", "_law_mill", "_law_lot"]
def p_l_rings : List Str := ["_law_stand", "_law_goal_here"]
theorem sc_l_rings : FnScope n_l_rings p_l_rings (defScope s_l_rings) := ⟨rfl, rfl, rfl, by decide +kernel, rfl, by decide +kernel, by decide +kernel⟩
theorem d_l_rings (B : Bi mg) {f : Addr} {cdv : Value} {A : Around} {outer : List Env} {s : Shared} {H : Hp} {E : XK} {F : Fx} (hr : RoomG (k) (A.deeper (envOfC "_law_rings" (defScope s_l_rings) s.heap.objs.size f cdv))) :
    DSs (cxOf (L2.CX P w) P w K mg base n_l_rings "_law_rings" (defScope s_l_rings) f cdv A outer s H E).nox F (defBody s_l_rings) (t_l_rings) :=
  have nd := sc_l_rings.nd
  (dss_cons (ds_par (ps_par (i := 2) (j := 3) rfl nd rfl rfl (by decide) rfl rfl (da_cons (de_lst da_nil) (da_cons (de_lc (T := [5]) (own := [("_law_mill", 5)]) rfl nd (di_range1 rfl B.b_range (da_cons (de_bl' bd_glen rfl B.b_len rfl (da_cons (de_var (pv 0)) da_nil)) da_nil)) (blk_of (by rfl)) (by decide) (fun _ _ _ _ _ => (dg_name nd rfl (by first | exact Or.inl rfl | exact Or.inr rfl))) (fun _ _ _ _ _ => (dts_one (dt_cmp (cd_eq hr.rm.units) (de_gix (de_var (pv 0)) (de_var (pv 5)) (fun _ _ => rfl)) (de_gix (de_var (pv 1)) (de_var (pv 5)) (fun _ _ => rfl)) (nomark _)))) (fun _ _ _ _ _ => (de_var (pv 5)))) da_nil)) rfl))
    (dss_cons (ds_set (i := 4) nd rfl (by first | exact Or.inl rfl | exact Or.inr rfl) (de_add (de_lc (T := [5]) (own := [("_law_mill", 5)]) rfl nd (di_range1 rfl B.b_range (da_cons (de_bl' bd_glen rfl B.b_len rfl (da_cons (de_var (pv 0)) da_nil)) da_nil)) (blk_of (by rfl)) (by decide) (fun _ _ _ _ _ => (dg_name nd rfl (by first | exact Or.inl rfl | exact Or.inr rfl))) (fun _ _ _ _ _ => (dts_one (dt_cmp cd_gnotIn (de_gix (de_var (pv 0)) (de_var (pv 5)) (fun _ _ => rfl)) (de_var (pv 1)) (by rfl)))) (fun _ _ _ _ _ => (de_var (pv 5)))) (de_lrg1 rfl B.b_list rfl B.b_range (de_bl' bd_glen rfl B.b_len rfl (da_cons (de_var (pv 0)) da_nil)))))
    (dss_cons (ds_for PassesOwn.never rfl (di_sq (de_var (pv 4))) (dg_name nd rfl (by first | exact Or.inl rfl | exact Or.inr rfl)) (dss_one (ds_if (dt_cmp cd_gnotIn (de_var (pv 5)) (de_var (pv 3)) (by rfl)) (dss_cons (ds_set (i := 6) nd rfl (by first | exact Or.inl rfl | exact Or.inr rfl) (de_lst (da_cons (de_var (pv 5)) da_nil)))
    (dss_cons (ds_while PassesOwn.never (PW.pt (dw_and (dt_cmp cd_gin (de_gix (de_var (pv 1)) (de_gix (de_var (pv 6)) (de_neg de_int) (fun _ _ => rfl)) (fun _ _ => rfl)) (de_var (pv 0)) (by rfl)) (dw_and1 (dt_cmp (cd_ne hr.rm.units) (de_idx (de_var (pv 0)) (de_gix (de_var (pv 1)) (de_gix (de_var (pv 6)) (de_neg de_int) (fun _ _ => rfl)) (fun _ _ => rfl))) (de_var (pv 5)) (nomark _))))) (dss_one (ds_expr (de_append (pv 6) (da_cons (de_idx (de_var (pv 0)) (de_gix (de_var (pv 1)) (de_gix (de_var (pv 6)) (de_neg de_int) (fun _ _ => rfl)) (fun _ _ => rfl))) da_nil)))))
    (dss_cons (ds_set (i := 3) nd rfl (by first | exact Or.inl rfl | exact Or.inr rfl) (de_add (de_var (pv 3)) (de_var (pv 6))))
    (dss_one (ds_expr (de_append (pv 2) (da_cons (de_add (de_var (pv 6)) (de_mul (de_lst (da_cons de_non da_nil)) (de_ty bd_int rfl B.b_int rfl (da_cons (de_cmp cd_gnotIn (de_gix (de_var (pv 1)) (de_gix (de_var (pv 6)) (de_neg de_int) (fun _ _ => rfl)) (fun _ _ => rfl)) (de_var (pv 0)) (by rfl)) da_nil)))) da_nil))))))) dss_nil)))
    (dss_one (ds_ret (de_var (pv 2)))))))
abbrev s_right : Stmt := top 25
def n_right : List Str := ["_law_box_here", "_law_plant_here", "_law_stand", "_law_goal_here", "_law_parts", "_law_due", "_law_kept", "_law_wide", "_law_told", "_law_named", "_law_lots", "_law_lot", "_law_far", "_law_flat", "_law_mill", "_law_mine", "_law_its"]
def p_right : List Str := ["_law_box_here"]
theorem sc_right : FnScope n_right p_right (defScope s_right) := ⟨rfl, rfl, rfl, by decide +kernel, rfl, by decide +kernel, by decide +kernel⟩
theorem d_right (B : Bi mg) {sp_plant : DSp} {sp_goal : DSp} {sp_l_rings : DSp} {sp_lists : DSp} {sp_settled : DSp} {sp_chainsT : DSp} {sp_ringsT : DSp} {sp_same : DSp} {sp_way : DSp} (I_plant : Pr P w K mg base k "_law_plant" s_plant p_plant sp_plant) (I_goal : Pr P w K mg base k "_law_goal" s_goal p_goal sp_goal) (I_l_rings : Pr P w K mg base k "_law_rings" s_l_rings p_l_rings sp_l_rings) (I_lists : Pr P w K mg base k "_law_lists" s_lists p_lists sp_lists) (I_settled : Pr P w K mg base k "settled" s_settled p_settled sp_settled) (I_chainsT : Pr P w K mg base k "chains" s_chainsT p_chainsT sp_chainsT) (I_ringsT : Pr P w K mg base k "rings" s_ringsT p_ringsT sp_ringsT) (I_same : Pr P w K mg base k "_law_same" s_same p_same sp_same) (I_way : Pr P w K mg base k "way" s_way p_way sp_way) {f : Addr} {cdv : Value} {A : Around} {outer : List Env} {s : Shared} {H : Hp} {E : XK} {F : Fx} (hM : NoM F) (hr : RoomG (k) (A.deeper (envOfC "_law_right" (defScope s_right) s.heap.objs.size f cdv))) :
    DSs (cxOf (L2.CX P w) P w K mg base n_right "_law_right" (defScope s_right) f cdv A outer s H E).nox F (defBody s_right) (t_right sp_plant sp_goal sp_l_rings sp_lists sp_settled sp_chainsT sp_ringsT sp_same sp_way) :=
  have nd := sc_right.nd
  (dss_cons (ds_tgt (de_callP I_plant hr rfl (da_cons (de_var (pv 0)) (da_cons de_int (da_cons de_int da_nil)))) (dg_tup rfl (dgs_cons (dg_name nd rfl (by first | exact Or.inl rfl | exact Or.inr rfl)) (dgs_cons (dg_name nd rfl (by first | exact Or.inl rfl | exact Or.inr rfl)) dgs_nil))))
    (dss_cons (ds_set (i := 3) nd rfl (by first | exact Or.inl rfl | exact Or.inr rfl) (de_callP I_goal hr rfl (da_cons (de_var (pv 0)) (da_cons (de_var (pv 1)) (da_cons (de_var (pv 2)) da_nil)))))
    (dss_cons (ds_set (i := 4) nd rfl (by first | exact Or.inl rfl | exact Or.inr rfl) (de_callP I_l_rings hr rfl (da_cons (de_var (pv 2)) (da_cons (de_var (pv 3)) da_nil))))
    (dss_cons (ds_set (i := 5) nd rfl (by first | exact Or.inl rfl | exact Or.inr rfl) (de_lst (da_cons (de_bl' (bd_sortedR hr.units65) rfl B.b_sorted rfl (da_cons (de_lc (T := [11]) (own := [("_law_lot", 11)]) rfl nd (di_sq (de_var (pv 4))) (blk_of (by rfl)) (by decide) (fun _ _ _ _ _ => (dg_name nd rfl (by first | exact Or.inl rfl | exact Or.inr rfl))) (fun _ _ _ _ _ => (dts_one (dt_cmp cd_isnot (de_gix (de_var (pv 11)) (de_neg de_int) (fun _ _ => rfl)) de_non (nomark _)))) (fun _ _ _ _ _ => (de_var (pv 11)))) da_nil)) da_nil)))
    (dss_cons (ds_expr (de_append (pv 5) (da_cons (de_bl' (bd_sortedR hr.units65) rfl B.b_sorted rfl (da_cons (de_lc (T := [11]) (own := [("_law_lot", 11)]) rfl nd (di_sq (de_var (pv 4))) (blk_of (by rfl)) (by decide) (fun _ _ _ _ _ => (dg_name nd rfl (by first | exact Or.inl rfl | exact Or.inr rfl))) (fun _ _ _ _ _ => (dts_one (dt_cmp cd_is (de_gix (de_var (pv 11)) (de_neg de_int) (fun _ _ => rfl)) de_non (nomark _)))) (fun _ _ _ _ _ => (de_sl (de_var (pv 11)) do_none (do_some (de_neg de_int))))) da_nil)) da_nil)))
    (dss_cons (ds_expr (de_append (pv 5) (da_cons (de_lc (T := [14]) (own := [("_law_mill", 14)]) rfl nd (di_range1 rfl B.b_range (da_cons (de_bl' bd_glen rfl B.b_len rfl (da_cons (de_var (pv 2)) da_nil)) da_nil)) (blk_of (by rfl)) (by decide) (fun _ _ _ _ _ => (dg_name nd rfl (by first | exact Or.inl rfl | exact Or.inr rfl))) (fun _ _ _ _ _ => (dts_one (dt_cmp (cd_eq hr.rm.units) (de_gix (de_var (pv 2)) (de_var (pv 14)) (fun _ _ => rfl)) (de_gix (de_var (pv 3)) (de_var (pv 14)) (fun _ _ => rfl)) (nomark _)))) (fun _ _ _ _ _ => (de_var (pv 14)))) da_nil)))
    (dss_cons (ds_par (ps_par (i := 6) (j := 7) rfl nd rfl rfl (by decide) rfl rfl (da_cons (de_bl' (bd_repr ⟨_, hr⟩) rfl B.b_repr rfl (da_cons (de_lst (da_cons (de_var (pv 1)) (da_cons (de_var (pv 2)) (da_cons (de_var (pv 3)) da_nil)))) da_nil)) (da_cons (de_callP I_lists hr rfl (da_cons (de_lst (da_cons (de_var (pv 1)) (da_cons (de_var (pv 2)) (da_cons (de_var (pv 3)) da_nil)))) da_nil)) da_nil)) rfl))
    (dss_cons (ds_set (i := 8) nd rfl (by first | exact Or.inl rfl | exact Or.inr rfl) (de_lstT (da_cons (de_callP I_ringsT hr rfl (da_cons (de_var (pv 1)) (da_cons (de_var (pv 2)) (da_cons (de_var (pv 3)) da_nil)))) (da_cons (de_callP I_chainsT hr rfl (da_cons (de_var (pv 1)) (da_cons (de_var (pv 2)) (da_cons (de_var (pv 3)) da_nil)))) (da_cons (de_callP I_settled hr rfl (da_cons (de_var (pv 1)) (da_cons (de_var (pv 2)) (da_cons (de_var (pv 3)) da_nil)))) da_nil)))))
    (dss_cons (ds_set (i := 9) nd rfl (by first | exact Or.inl rfl | exact Or.inr rfl) (de_lstT (da_cons (de_callKP (n := 3) (ix := [2, 1, 0]) (ks := ["other", "one", "shop"]) I_ringsT hr rfl (dk_cons (de_gix (de_var (pv 7)) de_int (fun _ _ => rfl)) (dk_cons (de_gix (de_var (pv 7)) de_int (fun _ _ => rfl)) (dk_cons (de_gix (de_var (pv 7)) de_int (fun _ _ => rfl)) dk_nil))) (by intro _ _ _ _ _ _ ws hl; obtain ⟨u0, u1, u2, rfl⟩ := pick3 hl; rfl)) (da_cons (de_callKP (n := 3) (ix := [2, 1, 0]) (ks := ["other", "one", "shop"]) I_chainsT hr rfl (dk_cons (de_gix (de_var (pv 7)) de_int (fun _ _ => rfl)) (dk_cons (de_gix (de_var (pv 7)) de_int (fun _ _ => rfl)) (dk_cons (de_gix (de_var (pv 7)) de_int (fun _ _ => rfl)) dk_nil))) (by intro _ _ _ _ _ _ ws hl; obtain ⟨u0, u1, u2, rfl⟩ := pick3 hl; rfl)) da_nil))))
    (dss_cons (ds_appV (i := 9) (pv 9) (da_cons (de_callKP (n := 3) (ix := [2, 1, 0]) (ks := ["other", "one", "shop"]) I_settled hr rfl (dk_cons (de_gix (de_var (pv 7)) de_int (fun _ _ => rfl)) (dk_cons (de_gix (de_var (pv 7)) de_int (fun _ _ => rfl)) (dk_cons (de_gix (de_var (pv 7)) de_int (fun _ _ => rfl)) dk_nil))) (by intro _ _ _ _ _ _ ws hl; obtain ⟨u0, u1, u2, rfl⟩ := pick3 hl; rfl)) da_nil))
    (dss_cons (ds_frzS (i := 7) (ds_frzS (i := 5) (ds_if (dt_bor (nom_ms hM) (dt_bor (nom_ms hM) (dt_not (dt_tru (de_callP I_same hr rfl (da_cons (de_lst (da_cons (de_var (pv 8)) (da_cons (de_var (pv 9)) da_nil))) (da_cons (de_lst (da_cons (de_var (pv 5)) (da_cons (de_var (pv 5)) da_nil))) da_nil))))))) (dss_one (ds_ret de_bl)) dss_nil)))
    (dss_cons (ds_spoil1 (i := 8) (x := 10) hM PassesOwn.never rfl (pv 8) (pg_name (i := 10) nd rfl (by first | exact Or.inl rfl | exact Or.inr rfl)) (pss_one (ps_appU (pv 10) pe_str)))
    (dss_cons (ds_spoil2 (i := 9) (x := 10) (y := 11) hM PassesOwn.never rfl (pv 9) pe_int (pg_name (i := 10) nd rfl (by first | exact Or.inl rfl | exact Or.inr rfl)) (pv 10) (pg_name (i := 11) nd rfl (by first | exact Or.inl rfl | exact Or.inr rfl)) (pss_one (ps_appU (pv 11) pe_str)))
    (dss_cons (ds_set (i := 8) nd rfl (by first | exact Or.inl rfl | exact Or.inr rfl) (de_lstT (da_cons (de_callP I_ringsT hr rfl (da_cons (de_var (pv 1)) (da_cons (de_var (pv 2)) (da_cons (de_var (pv 3)) da_nil)))) (da_cons (de_callP I_chainsT hr rfl (da_cons (de_var (pv 1)) (da_cons (de_var (pv 2)) (da_cons (de_var (pv 3)) da_nil)))) (da_cons (de_callP I_settled hr rfl (da_cons (de_var (pv 1)) (da_cons (de_var (pv 2)) (da_cons (de_var (pv 3)) da_nil)))) da_nil)))))
    (dss_cons (ds_set (i := 12) nd rfl (by first | exact Or.inl rfl | exact Or.inr rfl) (de_bl' (bd_sum rfl) rfl B.b_sum rfl (da_cons (de_lc (T := [15, 16]) (own := [("_law_mine", 15), ("_law_its", 16)]) rfl nd (di_zip2 rfl B.b_zip (da_cons (de_var (pv 2)) (da_cons (de_var (pv 3)) da_nil))) (blk_of (by rfl)) (by decide) (fun _ _ _ _ _ => (dg_tup rfl (dgs_cons (dg_name nd rfl (by first | exact Or.inl rfl | exact Or.inr rfl)) (dgs_cons (dg_name nd rfl (by first | exact Or.inl rfl | exact Or.inr rfl)) dgs_nil)))) (fun _ _ _ _ _ => dts_nil) (fun _ _ _ _ _ => (de_sub (de_bl' (bd_max rfl) rfl B.b_max rfl (da_cons (de_var (pv 15)) (da_cons (de_var (pv 16)) da_nil))) (de_bl' (bd_min rfl) rfl B.b_min rfl (da_cons (de_var (pv 15)) (da_cons (de_var (pv 16)) da_nil)))))) da_nil)))
    (dss_cons (ds_frzS (i := 7) (ds_frzS (i := 5) (ds_if (dt_bor (nom_ms hM) (dt_not (dt_tru (de_callP I_same hr rfl (da_cons (de_lst (da_cons (de_var (pv 8)) (da_cons (de_callP I_way hr rfl (da_cons (de_var (pv 2)) (da_cons (de_var (pv 3)) da_nil))) (da_cons (de_callKP (n := 2) (ix := [1, 0]) (ks := ["other", "one"]) I_way hr rfl (dk_cons (de_gix (de_var (pv 7)) de_int (fun _ _ => rfl)) (dk_cons (de_gix (de_var (pv 7)) de_int (fun _ _ => rfl)) dk_nil)) (by intro _ _ _ _ _ _ ws hl; obtain ⟨u0, u1, rfl⟩ := pick2 hl; rfl)) da_nil)))) (da_cons (de_lst (da_cons (de_var (pv 5)) (da_cons (de_var (pv 12)) (da_cons (de_var (pv 12)) da_nil)))) da_nil)))))) (dss_one (ds_ret de_bl)) dss_nil)))
    (dss_cons (ds_set (i := 13) nd rfl (by first | exact Or.inl rfl | exact Or.inr rfl) (de_ty bd_list rfl B.b_list rfl (da_cons (de_gix (de_var (pv 5)) de_int (fun _ _ => rfl)) da_nil)))
    (dss_cons (ds_for PassesOwn.never rfl (di_sq (de_add (de_gix (de_var (pv 5)) de_int (fun _ _ => rfl)) (de_gix (de_var (pv 5)) de_int (fun _ _ => rfl)))) (dg_name nd rfl (by first | exact Or.inl rfl | exact Or.inr rfl)) (dss_one (ds_set (i := 13) nd rfl (by first | exact Or.inl rfl | exact Or.inr rfl) (de_add (de_var (pv 13)) (de_var (pv 11))))))
    (dss_cons (ds_if (PW.pt (dw_or (dt_cmp (cd_ne hr.rm.units) (de_bl' bd_sorted rfl B.b_sorted rfl (da_cons (de_var (pv 13)) da_nil)) (de_lrg1 rfl B.b_list rfl B.b_range (de_bl' bd_glen rfl B.b_len rfl (da_cons (de_var (pv 2)) da_nil))) (nomark _)) (dw_or1 (dt_cmp (cd_ne hr.rm.units) (de_bl' (bd_repr ⟨_, hr⟩) rfl B.b_repr rfl (da_cons (de_lst (da_cons (de_var (pv 1)) (da_cons (de_var (pv 2)) (da_cons (de_var (pv 3)) da_nil)))) da_nil)) (de_var (pv 6)) (nomark _))))) (dss_one (ds_ret de_bl)) dss_nil)
    (dss_cons (ds_if (dt_not (dt_tru (de_callP I_same hr rfl (da_cons (de_lst (da_cons (de_frzE (de_callP I_ringsT hr rfl (da_cons (de_var (pv 1)) (da_cons (de_var (pv 3)) (da_cons (de_var (pv 3)) da_nil))))) (da_cons (de_frzE (de_callP I_chainsT hr rfl (da_cons (de_var (pv 1)) (da_cons (de_var (pv 3)) (da_cons (de_var (pv 3)) da_nil))))) da_nil))) (da_cons (de_lst (da_cons (de_lst da_nil) (da_cons (de_lst da_nil) da_nil))) da_nil))))) (dss_one (ds_ret de_bl)) dss_nil)
    (dss_one (ds_ret (de_cmp (cd_eq hr.rm.units) (de_callP I_way hr rfl (da_cons (de_var (pv 3)) (da_cons (de_var (pv 3)) da_nil))) de_int (nomark _))))))))))))))))))))))))
end
section
variable {P : Program} {w : World} {K : Fg} {mg : Str → Option Value} {base : Heap}
theorem len_pick {args : List DV} {n : Nat} {Q : DV → Nat → Prop} {E : DXK} (h : sp_pick args n Q E) : args.length = p_pick.length := by
  obtain ⟨_, _, rfl, _⟩ := h
  rfl
theorem len_shuffled {args : List DV} {n : Nat} {Q : DV → Nat → Prop} {E : DXK} (h : sp_shuffled args n Q E) : args.length = p_shuffled.length := by
  obtain ⟨_, _, rfl, _⟩ := h
  rfl
theorem len_gauges {args : List DV} {n : Nat} {Q : DV → Nat → Prop} {E : DXK} (h : sp_gauges args n Q E) : args.length = p_gauges.length := by
  obtain ⟨_, rfl, _⟩ := h
  rfl
theorem len_span {args : List DV} {n : Nat} {Q : DV → Nat → Prop} {E : DXK} (h : sp_span args n Q E) : args.length = p_span.length := by
  obtain ⟨_, _, rfl, _⟩ := h
  rfl
theorem len_plant {args : List DV} {n : Nat} {Q : DV → Nat → Prop} {E : DXK} (h : sp_plant args n Q E) : args.length = p_plant.length := by
  obtain ⟨_, _, rfl, _⟩ := h
  rfl
theorem len_holder {args : List DV} {n : Nat} {Q : DV → Nat → Prop} {E : DXK} (h : sp_holder args n Q E) : args.length = p_holder.length := by
  obtain ⟨_, _, _, rfl, _⟩ := h
  rfl
theorem len_settled {args : List DV} {n : Nat} {Q : DV → Nat → Prop} {E : DXK} (h : sp_settled args n Q E) : args.length = p_settled.length := by
  obtain ⟨_, _, _, _, _, _, _, rfl, _⟩ := h
  rfl
theorem len_follow {args : List DV} {n : Nat} {Q : DV → Nat → Prop} {E : DXK} (h : sp_follow args n Q E) : args.length = p_follow.length := by
  obtain ⟨_, _, _, _, _, rfl, _⟩ := h
  rfl
theorem len_chainsT {args : List DV} {n : Nat} {Q : DV → Nat → Prop} {E : DXK} (h : sp_chainsT args n Q E) : args.length = p_chainsT.length := by
  obtain ⟨_, _, _, _, _, _, _, rfl, _⟩ := h
  rfl
theorem len_ringsT {args : List DV} {n : Nat} {Q : DV → Nat → Prop} {E : DXK} (h : sp_ringsT args n Q E) : args.length = p_ringsT.length := by
  obtain ⟨_, _, _, _, _, _, _, rfl, _⟩ := h
  rfl
theorem len_way {args : List DV} {n : Nat} {Q : DV → Nat → Prop} {E : DXK} (h : sp_way args n Q E) : args.length = p_way.length := by
  obtain ⟨_, _, _, _, rfl, _⟩ := h
  rfl
theorem len_l_fits {args : List DV} {n : Nat} {Q : DV → Nat → Prop} {E : DXK} (h : sp_l_fits args n Q E) : args.length = p_l_fits.length := by
  obtain ⟨_, _, _, _, _, rfl, _⟩ := h
  rfl
theorem len_store {args : List DV} {n : Nat} {Q : DV → Nat → Prop} {E : DXK} (h : sp_store args n Q E) : args.length = p_store.length := by
  obtain ⟨_, _, _, _, _, rfl, _⟩ := h
  rfl
theorem len_l_after {args : List DV} {n : Nat} {Q : DV → Nat → Prop} {E : DXK} (h : sp_after args n Q E) : args.length = p_l_after.length := by
  obtain ⟨_, _, _, _, rfl, _⟩ := h
  rfl
theorem len_deals {args : List DV} {n : Nat} {Q : DV → Nat → Prop} {E : DXK} (h : sp_deals args n Q E) : args.length = p_deals.length := by
  obtain ⟨_, _, _, _, rfl, _⟩ := h
  rfl
theorem len_wandered {args : List DV} {n : Nat} {Q : DV → Nat → Prop} {E : DXK} (h : sp_wandered args n Q E) : args.length = p_wandered.length := by
  obtain ⟨_, _, _, _, _, rfl, _⟩ := h
  rfl
theorem len_goal {args : List DV} {n : Nat} {Q : DV → Nat → Prop} {E : DXK} (h : sp_goal args n Q E) : args.length = p_goal.length := by
  obtain ⟨_, _, _, rfl, _⟩ := h
  rfl
theorem len_l_rings {args : List DV} {n : Nat} {Q : DV → Nat → Prop} {E : DXK} (h : sp_l_rings args n Q E) : args.length = p_l_rings.length := by
  obtain ⟨_, _, _, _, rfl, _⟩ := h
  rfl
theorem len_right {args : List DV} {n : Nat} {Q : DV → Nat → Prop} {E : DXK} (h : sp_right args n Q E) : args.length = p_right.length := by
  obtain ⟨rfl, _⟩ := h
  rfl
theorem len_same {j : Nat} {args : List DV} {n : Nat} {Q : DV → Nat → Prop} {E : DXK} (h : sp_same j args n Q E) : args.length = p_same.length := by
  obtain ⟨_, rfl, _⟩ := h
  rfl
theorem no_same {args : List DV} {n : Nat} {Q : DV → Nat → Prop} {E : DXK} (h : sp_same 0 args n Q E) : False := by
  obtain ⟨_, _, _, h, _⟩ := h
  omega
theorem len_lists {j : Nat} {args : List DV} {n : Nat} {Q : DV → Nat → Prop} {E : DXK} (h : sp_lists j args n Q E) : args.length = p_lists.length := by
  obtain ⟨_, rfl, _⟩ := h
  rfl
theorem no_lists {args : List DV} {n : Nat} {Q : DV → Nat → Prop} {E : DXK} (h : sp_lists 0 args n Q E) : False := by
  obtain ⟨_, _, _, h, _⟩ := h
  omega
def n_take : List Str := ["_law_box_here", "_law_span_here", "_law_found", "_law_once"]
theorem sc_take : FnScope n_take p_take (defScope s_take) := ⟨rfl, rfl, rfl, by decide +kernel, rfl, by decide +kernel, by decide +kernel⟩
theorem d_take {f : Addr} {cdv : Value} {A : Around} {outer : List Env} {s : Shared} {H : Hp} {E : XK} {tR : TS} (hB : PSs (cxOf (L2.CX P w) P w K mg base n_take "_law_take" (defScope s_take) f cdv A outer s H E) (ifBd ((defBody s_take).getD 1 (.Pass ⟨0, 0, 0, 0⟩))) tR) :
    PSs (cxOf (L2.CX P w) P w K mg base n_take "_law_take" (defScope s_take) f cdv A outer s H E) (defBody s_take) (tTake K tR) :=
  pss_cons (ps_if (pt_cmpR op_gt (pe_ix ix_list (pv 0) pe_int (fun _ _ => rfl)) pe_int (nomark _))
      (pss_cons (ps_set (i := 2) sc_take.nd rfl (Or.inl rfl) (pe_op op_mod (pe_ix ix_list (pv 0) pe_int (fun _ _ => rfl)) (pv 1)))
        (pss_cons (ps_asg (pe_op op_fdiv (pe_ix ix_list (pv 0) pe_int (fun _ _ => rfl)) (pv 1)) (pg_sub (pv 0) pe_int set_list))
          (pss_one (ps_ret (pv 2))))) pss_nil)
    (pss_cons (ps_if (pt_cmpR op_gt (pv 1) (pe_op op_pow pe_int pe_int) (nomark _)) hB pss_nil)
    (pss_cons (ps_asg (pe_op op_add (pe_ix ix_list (pv 0) pe_int (fun _ _ => rfl)) pe_int) (pg_sub (pv 0) pe_int set_list))
    (pss_cons (ps_set (i := 3) sc_take.nd rfl (Or.inl rfl) (pe_op op_mod (pe_op op_pow (pe_op op_add (pe_ix ix_list (pv 0) pe_int (fun _ _ => rfl)) (pe_op op_mul pe_int (pe_ix ix_list (pv 0) pe_int (fun _ _ => rfl)))) pe_int) pe_int))
    (pss_one (ps_ret (pe_op op_mod (pe_op op_fdiv (pe_op op_mod (pe_op op_add (pe_op op_mul (pv 3) (pe_op op_add (pe_op op_mod (pv 3) pe_int) pe_int)) (pe_op op_mul (pe_ix ix_list (pv 0) pe_int (fun _ _ => rfl)) pe_int)) pe_int) pe_int) (pv 1)))))))
theorem ok_take0 (D : Df K mg "_law_take" s_take p_take) : Pr P w K mg base 1 "_law_take" s_take p_take sp_take0 := by
  obtain ⟨f, fd, Fu, g, bn⟩ := D.ex
  refine ⟨f, fd, fnG_of Fu sc_take (len_take fun args n Q E ⟨k, e, _⟩ => ⟨k, e⟩) fun cdv A outer s H vs Q E hr h => ?_, Fu, g, bn⟩
  obtain ⟨b, n, k, Qa, Ea, rfl, hb, ⟨k', ek, k0, k1, n1, qa⟩, hq⟩ := take_in h fun args n Q E ⟨k, e, _⟩ => ⟨k, e⟩
  cases ek
  exact ⟨_, d_take (pss_one ps_never), take_read rfl hb k0 (by omega) n1 (fun r H' r0 r1 kp bx => hq r _ H' kp bx (qa r r0 r1)) fun c => absurd c (by omega)⟩
theorem ok_take (D : Df K mg "_law_take" s_take p_take) : Pr P w K mg base 2 "_law_take" s_take p_take sp_take := by
  obtain ⟨f, fd, G0, Fu, g, bn⟩ := (ok_take0 (P := P) (w := w) (base := base) D).ex
  refine ⟨f, fd, fnG_of Fu sc_take (len_take fun args n Q E ⟨k, e, _⟩ => ⟨k, e⟩) fun cdv A outer s H vs Q E hr h => ?_, Fu, g, bn⟩
  obtain ⟨b, n, k, Qa, Ea, rfl, hb, ⟨k', ek, k0, k1, n1, qa⟩, hq⟩ := take_in h fun args n Q E ⟨k, e, _⟩ => ⟨k, e⟩
  cases ek
  refine ⟨_, d_take (pss_one (ps_ret (pe_op op_mod (pe_op op_add (pe_callG G0 hr rfl g Fu.kp bn .nil passX (pa_cons (pv 0) (pa_cons (pe_op op_pow pe_int pe_int) pa_nil)))
    (pe_op op_mul (pe_op op_pow pe_int pe_int) (pe_callG G0 hr rfl g Fu.kp bn .nil passX (pa_cons (pv 0) (pa_cons (pe_op op_add (pe_op op_fdiv (pv 1) (pe_op op_pow pe_int pe_int)) pe_int) pa_nil))))) (pv 1)))), take_read rfl hb k0 (by omega) (by omega) (fun r H' r0 r1 kp bx => hq r (n - 3) H' kp (bx.less (by omega)) (qa r r0 r1)) fun c D' hD => ?_⟩
  refine ⟨_, rfl, 10, 7, rfl, rfl, ⟨by decide, by decide, by decide⟩, ?_⟩
  refine take_out (Qa := fun r n' => ∃ i : Int, r = .d (.int i) ∧ 0 ≤ i ∧ i < 10000000 ∧ n' = n - 1) hb ⟨10000000, rfl, by decide, by decide, by omega, fun r r0 r1 => ⟨r, rfl, r0, r1, rfl⟩⟩ (fun r n' ⟨i, e, _⟩ => ⟨i, e⟩) fun r1 n1 H1 kp1 bx1 ⟨i1, e1, i10, i11, en1⟩ => ?_
  cases e1
  subst en1
  refine ⟨10, 7, rfl, rfl, ⟨by decide, by decide, by decide⟩, _, rfl, _, rfl, 10, 7, rfl, rfl, ⟨by decide, by decide, by decide⟩, k, _, rfl, rfl, ⟨by decide, by decide⟩, _, 1, rfl, rfl, ?_⟩
  refine take_out (Qa := fun r n' => ∃ i : Int, r = .d (.int i) ∧ n' = n - 2) bx1 ⟨k / (10 : Int) ^ (7 : Int).toNat + 1, rfl, ?_, ?_, by omega, fun r r0 r1 => ⟨r, rfl, by omega⟩⟩ (fun r n' ⟨i, e, _⟩ => ⟨i, e⟩) fun r2 n2 H2 kp2 bx2 ⟨i2, e2, en2⟩ => ?_
  · show 0 < k / 10000000 + 1; omega
  · show k / 10000000 + 1 ≤ 10000000; omega
  cases e2
  subst en2
  refine ⟨_, _, rfl, rfl, .inl ⟨by decide, by decide⟩, _, _, rfl, rfl, _, rfl, _, k, rfl, rfl, k0, ?_⟩
  show D'.rt _ _
  rw [hD]
  exact hq _ (n - 3) H2 (kp1.trans kp2) (bx2.less (by omega)) (qa _ (Int.emod_nonneg _ (by omega)) (Int.emod_lt_of_pos _ k0))
abbrev s_box : Stmt := top 9
def n_box : List Str := ["_law_script", "_law_k", "_law_cell"]
theorem sc_box : FnScope n_box ["_law_script", "_law_k"] (defScope s_box) := ⟨rfl, rfl, rfl, by decide +kernel, rfl, by decide +kernel, by decide +kernel⟩
theorem ok_box {f : Addr} {fd : FuncData} (Fu : Fun K "_law_box" "_law_box" s_box f fd) (m1 : mg "len" = none) (m2 : mg "abs" = none) (m3 : mg "int" = none) : FnG P w K mg base (L2.CX P w) 1 f fd ["_law_script", "_law_k"] (spBox K) := by
  refine fnG_of Fu sc_box (fun vs H Q E ⟨a, ns, k, e, _⟩ => by subst e; rfl) fun cdv A outer s H vs Q E hr h => ?_
  obtain ⟨a, ns, k, rfl, sq, k0, k1, q⟩ := h
  refine ⟨_, pss_cons (ps_set (i := 2) sc_box.nd rfl (Or.inl rfl) pe_int)
    (pss_cons (ps_if (pt_cmpR op_lt (pv 1) (pe_callB call_len_seq rfl m1 PySem.boot_len (pa_cons (pv 0) pa_nil)) (nomark _)) (pss_one (ps_set (i := 2) sc_box.nd rfl (Or.inl rfl) (pe_ix ix_list (pv 0) (pv 1) (fun _ _ => rfl)))) pss_nil)
    (pss_one (ps_ret (pe_lst (pa_cons (pe_op op_mul (pe_callB call_abs rfl m2 rfl (pa_cons (pv 2) pa_nil)) (pe_callTy call_int1 rfl m3 rfl (pa_cons (pe_cmpR op_ge (pe_callB call_abs rfl m2 rfl (pa_cons (pv 2) pa_nil)) (pe_op op_pow pe_int pe_int) (nomark _)) pa_nil)))
      (pa_cons (pe_op op_mod (pe_op op_mul (pe_op op_add (pe_op op_add (pe_op op_mod (pv 2) pe_int) (pe_op op_mul pe_int (pv 1))) pe_int) pe_int) pe_int) (pa_cons pe_int pa_nil))))))), ?_⟩
  refine ⟨_, rfl, _, rfl, a, _, rfl, .inl sq, _, _, rfl, rfl, _, rfl, ?_⟩
  refine ite2 (fun e => ?_) (fun e => ?_)
  · have e' : k < ((ns.map V.int).length : Int) := of_decide_eq_true e
    rw [List.length_map] at e'
    obtain ⟨c, hc⟩ := at_int k0 e'
    refine ⟨_, rfl, _, rfl, a, _, k, _, rfl, rfl, sq, hc, ?_⟩
    refine ⟨_, rfl, c, rfl, _, rfl, c, rfl, 10, 18, rfl, rfl, ⟨by decide, by decide, by decide⟩, _, _, rfl, rfl, .inr ⟨_, rfl, _, _, rfl, rfl, .inr (bit64 _), ?_⟩⟩
    refine ⟨_, rfl, c, 2147483629, rfl, rfl, (by decide : (0 : Int) < 2147483629), _, rfl, 15511, k, rfl, rfl, .inl (by decide), _, _, rfl, rfl, _, 23, rfl, rfl, _, 40361, rfl, rfl, .inr (by decide), _, 2147483563, rfl, rfl, (by decide : (0 : Int) < 2147483563), (by decide : (3 : Nat) ≤ sizeLine), fun p hp => ?_⟩
    exact q p _ hp (same_new hp) ⟨_, _, 0, upd_same, Int.mul_nonneg (abs_ge _) (bit0 _), Int.emod_nonneg _ (by decide), Int.lt_trans (Int.emod_lt_of_pos _ (by decide : (0 : Int) < 2147483563)) (by decide), Int.le_refl 0, by decide⟩
  · refine ⟨_, rfl, 0, rfl, _, rfl, 0, rfl, 10, 18, rfl, rfl, ⟨by decide, by decide, by decide⟩, _, _, rfl, rfl, .inr ⟨_, rfl, _, _, rfl, rfl, .inr (bit64 _), ?_⟩⟩
    refine ⟨_, rfl, 0, 2147483629, rfl, rfl, (by decide : (0 : Int) < 2147483629), _, rfl, 15511, k, rfl, rfl, .inl (by decide), _, _, rfl, rfl, _, 23, rfl, rfl, _, 40361, rfl, rfl, .inr (by decide), _, 2147483563, rfl, rfl, (by decide : (0 : Int) < 2147483563), (by decide : (3 : Nat) ≤ sizeLine), fun p hp => ?_⟩
    exact q p _ hp (same_new hp) ⟨_, _, 0, upd_same, Int.mul_nonneg (abs_ge _) (bit0 _), Int.emod_nonneg _ (by decide), Int.lt_trans (Int.emod_lt_of_pos _ (by decide : (0 : Int) < 2147483563)) (by decide), Int.le_refl 0, by decide⟩
abbrev s_law : Stmt := top 26
def n_law : List Str := ["_law_script", "_law_k", "_law_box_here", "_law_turn"]
theorem sc_law : FnScope n_law ["_law_script"] (defScope s_law) := ⟨rfl, rfl, rfl, by decide +kernel, rfl, by decide +kernel, by decide +kernel⟩
theorem ok_law {kk : Nat} {f g : Addr} {fd gd : FuncData} (Fu : Fun K "law" "law" s_law f fd) (Gb : FnG P w K mg base (L2.CX P w) kk g gd ["_law_script", "_law_k"] (spBox K)) (kb : PySem.W.keepIn K (.ref g) = true) (bb : Binds K gd ["_law_script", "_law_k"] []) (mb : mg "_law_box" = some (.ref g))
    (R : Pr P w K mg base kk "_law_right" s_right ["_law_box_here"] sp_right) (m1 : mg "range" = none) (m2 : mg "min" = none) (m3 : mg "len" = none) (m4 : mg "all" = none) : FnG P w K mg base (L2.CX P w) (kk + 1) f fd ["_law_script"] (spLaw K) := by
  refine fnG_of Fu sc_law (fun vs H Q E ⟨a, ns, e, _⟩ => by subst e; rfl) fun cdv A outer s H vs Q E hr h => ?_
  obtain ⟨a, ns, rfl, sq, n63, q⟩ := h
  refine ⟨_, PSs.nox (pss_cons (ps_for PassesOwn.never rfl (pi_range1 rfl m1 (pa_cons (pe_op op_add pe_int (pe_callB (call_min2 rfl) rfl m2 rfl (pa_cons pe_int (pa_cons (pe_callB call_len_seq rfl m3 PySem.boot_len (pa_cons (pv 0) pa_nil)) pa_nil)))) pa_nil)) (pg_name (i := 1) sc_law.nd rfl (Or.inl rfl))
      (pss_cons (ps_set (i := 2) sc_law.nd rfl (by first | exact Or.inl rfl | exact Or.inr rfl) (pe_callG Gb hr rfl mb kb bb .nil passX (pa_cons (pv 0) (pa_cons (pv 1) pa_nil))))
      (pss_one (ps_if (pt_ex fun F => dt_not (dt_tru (de_bl' (bd_all rfl) rfl m4 rfl (da_cons (de_lc (T := [3]) (own := [("_law_turn", 3)]) rfl sc_law.nd (di_range1 rfl m1 (da_cons de_int da_nil)) (blk_of (by rfl)) (by decide) (fun _ _ _ _ _ => dg_name sc_law.nd rfl (Or.inl rfl)) (fun _ _ _ _ _ => dts_nil) (fun _ _ _ _ _ => de_callP R hr rfl (da_cons (de_var (pv 2)) da_nil))) da_nil)))) (pss_one (ps_ret pe_bl)) pss_nil))))
    (pss_one (ps_ret pe_bl))), ?_⟩
  exact law_read (by decide) (by decide) sq q fun k => all_right (by decide) (by decide)
theorem spD_no {dsp : DSp} (h : ∀ args n Q E, ¬ dsp args n Q E) {vs : List V} {H : Hp} {Q : VK} {E : XK} : ¬ spD K mg dsp vs H Q E := fun ⟨_, _, _, _, _, _, _, _, _, _, hd, _⟩ => h _ _ _ _ hd
theorem pr_never {x : Str} {st : Stmt} {ps : List Str} {dsp : DSp} {k : Nat} (D : Df K mg x st ps) (h : ∀ args n Q E, ¬ dsp args n Q E) : Pr P w K mg base k x st ps dsp := by
  obtain ⟨f, fd, Fu, g, b⟩ := D.ex
  exact ⟨f, fd, ⟨fun vs H Q E z => absurd z (spD_no h), fun A outer s H args us vs Q E _ _ _ _ z => absurd z (spD_no h)⟩, Fu, g, b⟩
theorem ok_pickH {k : Nat} (B : Bi mg) (D : Df K mg "_law_pick" s_pick p_pick) (I : Pr P w K mg base k "_law_take" s_take p_take sp_take) : PrH P w K mg base (k + 1) "_law_pick" s_pick p_pick (spPick K) := by
  obtain ⟨f, fd, Fu, g, b⟩ := D.ex
  obtain ⟨f2, fd2, G, Fu2, g2, b2⟩ := I.ex
  refine ⟨f, fd, fnG_of Fu sc_pick (fun vs H Q E ⟨_, _, _, _, e, _⟩ => by subst e; rfl) fun cdv A outer s H vs Q E hr h => ?_, Fu, g, b⟩
  obtain ⟨bx, l, xs, n, rfl, hb, sq, ne, x0, x1, n3, q⟩ := h
  refine ⟨_, pss_one (ps_ret (pe_ix ix_seq (pv 1) (pe_callG G hr rfl g2 Fu2.kp b2 .nil passX (pa_cons (pv 0) (pa_cons (pe_callB call_len_seq rfl B.b_len PySem.boot_len (pa_cons (pv 1) pa_nil)) pa_nil))) (fun _ _ => rfl))), ?_⟩
  refine ⟨_, rfl, _, rfl, _, rfl, l, xs, rfl, sq, ?_⟩
  refine take_out (Qa := fun r n' => ∃ i : Int, r = .d (.int i) ∧ 0 ≤ i ∧ i < (xs.length : Int) ∧ n' = n - 3) hb ⟨_, rfl, by omega, by omega, n3, fun r r0 r1 => ⟨r, rfl, r0, r1, rfl⟩⟩ (fun r n' ⟨i, e, _⟩ => ⟨i, e⟩) fun r n' H' kp bx' ⟨i, e, i0, i1, en⟩ => ?_
  cases e
  subst en
  obtain ⟨v, e1, e2⟩ := atI_in i0 i1
  have nb : l ∉ [bx] := by simpa using ne
  rcases sq with sq | sq
  · have sq' : SqL K H' l xs := by
      rcases sq with h | h
      · exact .inl (Rd.keep kp nb h)
      · exact .inr h
    exact .inl ⟨l, xs, _, v, rfl, rfl, sq', e1, q v (List.mem_of_getElem? e2) H' kp bx'⟩
  · have sq' : SqT K H' l xs := by
      rcases sq with h | h
      · exact .inl (Rd.keep kp nb h)
      · exact .inr h
    exact .inr (.inl ⟨l, xs, _, v, rfl, rfl, sq', e1, q v (List.mem_of_getElem? e2) H' kp bx'⟩)
theorem ok_pick {k : Nat} (B : Bi mg) (D : Df K mg "_law_pick" s_pick p_pick) (I_take : Pr P w K mg base k "_law_take" s_take p_take sp_take) : Pr P w K mg base (k + 1) "_law_pick" s_pick p_pick sp_pick :=
  D.pr sc_pick (fun args n Q E h => len_pick h) (fun f cdv A outer s H E F hr => d_pick B I_take hr) r_pick
theorem ok_same {k : Nat} (B : Bi mg) (D : Df K mg "_law_same" s_same p_same) : ∀ j : Nat, Pr P w K mg base (k + j) "_law_same" s_same p_same (sp_same j)
  | 0 => pr_never D (fun args n Q E h => no_same h)
  | j + 1 => D.pr sc_same (fun args n Q E h => len_same h) (fun f cdv A outer s H E F hr => d_same B (ok_same B D  j) hr) (r_same j)
theorem ok_lists {k : Nat} (B : Bi mg) (D : Df K mg "_law_lists" s_lists p_lists) : ∀ j : Nat, Pr P w K mg base (k + j) "_law_lists" s_lists p_lists (sp_lists j)
  | 0 => pr_never D (fun args n Q E h => no_lists h)
  | j + 1 => D.pr sc_lists (fun args n Q E h => len_lists h) (fun f cdv A outer s H E F hr => d_lists B (ok_lists B D  j) hr) (r_lists j)
theorem ok_shuffled {k : Nat} (B : Bi mg) (D : Df K mg "_law_shuffled" s_shuffled p_shuffled) (I_take : Pr P w K mg base k "_law_take" s_take p_take sp_take) : Pr P w K mg base (k + 1) "_law_shuffled" s_shuffled p_shuffled sp_shuffled :=
  D.pr sc_shuffled (fun args n Q E h => len_shuffled h) (fun f cdv A outer s H E F hr => d_shuffled B I_take hr) r_shuffled
theorem ok_gauges {k : Nat} (B : Bi mg) (D : Df K mg "_law_gauges" s_gauges p_gauges) (I_take : Pr P w K mg base k "_law_take" s_take p_take sp_take) (I_pick : Pr P w K mg base k "_law_pick" s_pick p_pick sp_pick) : Pr P w K mg base (k + 1) "_law_gauges" s_gauges p_gauges sp_gauges :=
  D.pr sc_gauges (fun args n Q E h => len_gauges h) (fun f cdv A outer s H E F hr => d_gauges B I_take I_pick hr) r_gauges
theorem ok_span {k : Nat} (B : Bi mg) (D : Df K mg "_law_span" s_span p_span) (I_take : Pr P w K mg base k "_law_take" s_take p_take sp_take) : Pr P w K mg base (k + 1) "_law_span" s_span p_span sp_span :=
  D.pr sc_span (fun args n Q E h => len_span h) (fun f cdv A outer s H E F hr => d_span B I_take hr) r_span
theorem ok_plant {k : Nat} (B : Bi mg) (D : Df K mg "_law_plant" s_plant p_plant) (I_take : Pr P w K mg base k "_law_take" s_take p_take sp_take) (I_gauges : Pr P w K mg base k "_law_gauges" s_gauges p_gauges sp_gauges) (I_shuffled : Pr P w K mg base k "_law_shuffled" s_shuffled p_shuffled sp_shuffled) (I_span : Pr P w K mg base k "_law_span" s_span p_span sp_span) : Pr P w K mg base (k + 1) "_law_plant" s_plant p_plant sp_plant :=
  D.pr sc_plant (fun args n Q E h => len_plant h) (fun f cdv A outer s H E F hr => d_plant B I_take I_gauges I_shuffled I_span hr) r_plant
theorem ok_holder {k : Nat} (B : Bi mg) (D : Df K mg "holder" s_holder p_holder) : Pr P w K mg base (k + 1) "holder" s_holder p_holder sp_holder :=
  D.pr sc_holder (fun args n Q E h => len_holder h) (fun f cdv A outer s H E F hr => d_holder B  hr) r_holder
theorem ok_settled {k : Nat} (B : Bi mg) (D : Df K mg "settled" s_settled p_settled) : Pr P w K mg base (k + 1) "settled" s_settled p_settled sp_settled :=
  D.pr sc_settled (fun args n Q E h => len_settled h) (fun f cdv A outer s H E F hr => d_settled B  hr) r_settled
theorem ok_follow {k : Nat} (B : Bi mg) (D : Df K mg "follow" s_follow p_follow) (I_holder : Pr P w K mg base k "holder" s_holder p_holder sp_holder) : Pr P w K mg base (k + 1) "follow" s_follow p_follow sp_follow :=
  D.pr sc_follow (fun args n Q E h => len_follow h) (fun f cdv A outer s H E F hr => d_follow B I_holder hr) r_follow
theorem ok_chainsT {k : Nat} (B : Bi mg) (D : Df K mg "chains" s_chainsT p_chainsT) (I_follow : Pr P w K mg base k "follow" s_follow p_follow sp_follow) : Pr P w K mg base (k + 1) "chains" s_chainsT p_chainsT sp_chainsT :=
  D.pr sc_chainsT (fun args n Q E h => len_chainsT h) (fun f cdv A outer s H E F hr => d_chainsT B I_follow hr) r_chainsT
theorem ok_ringsT {k : Nat} (B : Bi mg) (D : Df K mg "rings" s_ringsT p_ringsT) (I_settled : Pr P w K mg base k "settled" s_settled p_settled sp_settled) (I_chainsT : Pr P w K mg base k "chains" s_chainsT p_chainsT sp_chainsT) (I_follow : Pr P w K mg base k "follow" s_follow p_follow sp_follow) : Pr P w K mg base (k + 1) "rings" s_ringsT p_ringsT sp_ringsT :=
  D.prN sc_ringsT (fun args n Q E h => len_ringsT h) (fun f cdv A outer s H E F hM hr => d_ringsT B I_settled I_chainsT I_follow hM hr) r_ringsT
theorem ok_way {k : Nat} (B : Bi mg) (D : Df K mg "way" s_way p_way) : Pr P w K mg base (k + 1) "way" s_way p_way sp_way :=
  D.pr sc_way (fun args n Q E h => len_way h) (fun f cdv A outer s H E F hr => d_way B  hr) r_way
theorem ok_l_fits {k : Nat} (B : Bi mg) (D : Df K mg "_law_fits" s_l_fits p_l_fits) : Pr P w K mg base (k + 1) "_law_fits" s_l_fits p_l_fits sp_l_fits :=
  D.pr sc_l_fits (fun args n Q E h => len_l_fits h) (fun f cdv A outer s H E F hr => d_l_fits B  hr) r_l_fits
theorem ok_store {k : Nat} (B : Bi mg) (D : Df K mg "_law_store" s_store p_store) : Pr P w K mg base (k + 1) "_law_store" s_store p_store sp_store :=
  D.pr sc_store (fun args n Q E h => len_store h) (fun f cdv A outer s H E F hr => d_store B  hr) r_store
theorem ok_l_after {k : Nat} (B : Bi mg) (D : Df K mg "_law_after" s_l_after p_l_after) : Pr P w K mg base (k + 1) "_law_after" s_l_after p_l_after sp_after :=
  D.pr sc_l_after (fun args n Q E h => len_l_after h) (fun f cdv A outer s H E F hr => d_l_after B  hr) r_l_after
theorem ok_deals {k : Nat} (B : Bi mg) (D : Df K mg "_law_deals" s_deals p_deals) (I_l_fits : Pr P w K mg base k "_law_fits" s_l_fits p_l_fits sp_l_fits) (I_store : Pr P w K mg base k "_law_store" s_store p_store sp_store) : Pr P w K mg base (k + 1) "_law_deals" s_deals p_deals sp_deals :=
  D.pr sc_deals (fun args n Q E h => len_deals h) (fun f cdv A outer s H E F hr => d_deals B I_l_fits I_store hr) r_deals
theorem ok_wandered {k : Nat} (B : Bi mg) (D : Df K mg "_law_wandered" s_wandered p_wandered) (I_deals : Pr P w K mg base k "_law_deals" s_deals p_deals sp_deals) (I_l_after : Pr P w K mg base k "_law_after" s_l_after p_l_after sp_after) (I_pickH : PrH P w K mg base k "_law_pick" s_pick p_pick (spPick K)) : Pr P w K mg base (k + 1) "_law_wandered" s_wandered p_wandered sp_wandered :=
  D.pr sc_wandered (fun args n Q E h => len_wandered h) (fun f cdv A outer s H E F hr => d_wandered B I_deals I_l_after I_pickH hr) r_wandered
theorem ok_goal {k : Nat} (B : Bi mg) (D : Df K mg "_law_goal" s_goal p_goal) (I_wandered : Pr P w K mg base k "_law_wandered" s_wandered p_wandered sp_wandered) (I_take : Pr P w K mg base k "_law_take" s_take p_take sp_take) (I_shuffled : Pr P w K mg base k "_law_shuffled" s_shuffled p_shuffled sp_shuffled) (I_l_fits : Pr P w K mg base k "_law_fits" s_l_fits p_l_fits sp_l_fits) : Pr P w K mg base (k + 1) "_law_goal" s_goal p_goal sp_goal :=
  D.pr sc_goal (fun args n Q E h => len_goal h) (fun f cdv A outer s H E F hr => d_goal B I_wandered I_take I_shuffled I_l_fits hr) r_goal
theorem ok_l_rings {k : Nat} (B : Bi mg) (D : Df K mg "_law_rings" s_l_rings p_l_rings) : Pr P w K mg base (k + 1) "_law_rings" s_l_rings p_l_rings sp_l_rings :=
  D.pr sc_l_rings (fun args n Q E h => len_l_rings h) (fun f cdv A outer s H E F hr => d_l_rings B  hr) r_l_rings
theorem ok_right {k : Nat} (B : Bi mg) (D : Df K mg "_law_right" s_right p_right) (I_plant : Pr P w K mg base k "_law_plant" s_plant p_plant sp_plant) (I_goal : Pr P w K mg base k "_law_goal" s_goal p_goal sp_goal) (I_l_rings : Pr P w K mg base k "_law_rings" s_l_rings p_l_rings sp_l_rings) (I_lists : Pr P w K mg base k "_law_lists" s_lists p_lists (sp_lists 8)) (I_settled : Pr P w K mg base k "settled" s_settled p_settled sp_settled) (I_chainsT : Pr P w K mg base k "chains" s_chainsT p_chainsT sp_chainsT) (I_ringsT : Pr P w K mg base k "rings" s_ringsT p_ringsT sp_ringsT) (I_same : Pr P w K mg base k "_law_same" s_same p_same (sp_same 8)) (I_way : Pr P w K mg base k "way" s_way p_way sp_way) : Pr P w K mg base (k + 1) "_law_right" s_right p_right sp_right :=
  D.prN sc_right (fun args n Q E h => len_right h) (fun f cdv A outer s H E F hM hr => d_right B I_plant I_goal I_l_rings I_lists I_settled I_chainsT I_ringsT I_same I_way hM hr) r_right
theorem all_ok (B : Bi mg) (D_pick : Df K mg "_law_pick" s_pick p_pick) (D_same : Df K mg "_law_same" s_same p_same) (D_lists : Df K mg "_law_lists" s_lists p_lists) (D_shuffled : Df K mg "_law_shuffled" s_shuffled p_shuffled) (D_gauges : Df K mg "_law_gauges" s_gauges p_gauges) (D_span : Df K mg "_law_span" s_span p_span) (D_plant : Df K mg "_law_plant" s_plant p_plant) (D_holder : Df K mg "holder" s_holder p_holder) (D_settled : Df K mg "settled" s_settled p_settled) (D_follow : Df K mg "follow" s_follow p_follow) (D_chainsT : Df K mg "chains" s_chainsT p_chainsT) (D_ringsT : Df K mg "rings" s_ringsT p_ringsT) (D_way : Df K mg "way" s_way p_way) (D_l_fits : Df K mg "_law_fits" s_l_fits p_l_fits) (D_store : Df K mg "_law_store" s_store p_store) (D_l_after : Df K mg "_law_after" s_l_after p_l_after) (D_deals : Df K mg "_law_deals" s_deals p_deals) (D_wandered : Df K mg "_law_wandered" s_wandered p_wandered) (D_goal : Df K mg "_law_goal" s_goal p_goal) (D_l_rings : Df K mg "_law_rings" s_l_rings p_l_rings) (D_right : Df K mg "_law_right" s_right p_right) (D_take : Df K mg "_law_take" s_take p_take) {f1 f2 : Addr} {fd1 fd2 : FuncData} (Fb : Fun K "_law_box" "_law_box" s_box f1 fd1) (gb : mg "_law_box" = some (.ref f1)) (bb : Binds K fd1 ["_law_script", "_law_k"] []) (Fl : Fun K "law" "law" s_law f2 fd2) : FnG P w K mg base (L2.CX P w) 62 f2 fd2 ["_law_script"] (spLaw K) := by
  have i_take : Pr P w K mg base 10 "_law_take" s_take p_take sp_take := (ok_take D_take).mono (by decide)
  have i_pick : Pr P w K mg base 11 "_law_pick" s_pick p_pick  sp_pick := ok_pick (k := 10) B D_pick (i_take.mono (by decide : 10 ≤ 10))
  have i_pickH := ok_pickH (k := 10) B D_pick (i_take.mono (by decide : 10 ≤ 10))
  have i_same : Pr P w K mg base 9 "_law_same" s_same p_same  (sp_same 8) := ok_same (k := 1) B D_same  8
  have i_lists : Pr P w K mg base 9 "_law_lists" s_lists p_lists  (sp_lists 8) := ok_lists (k := 1) B D_lists  8
  have i_shuffled : Pr P w K mg base 11 "_law_shuffled" s_shuffled p_shuffled  sp_shuffled := ok_shuffled (k := 10) B D_shuffled (i_take.mono (by decide : 10 ≤ 10))
  have i_gauges : Pr P w K mg base 12 "_law_gauges" s_gauges p_gauges  sp_gauges := ok_gauges (k := 11) B D_gauges (i_take.mono (by decide : 10 ≤ 11)) (i_pick.mono (by decide : 11 ≤ 11))
  have i_span : Pr P w K mg base 11 "_law_span" s_span p_span  sp_span := ok_span (k := 10) B D_span (i_take.mono (by decide : 10 ≤ 10))
  have i_plant : Pr P w K mg base 13 "_law_plant" s_plant p_plant  sp_plant := ok_plant (k := 12) B D_plant (i_take.mono (by decide : 10 ≤ 12)) (i_gauges.mono (by decide : 12 ≤ 12)) (i_shuffled.mono (by decide : 11 ≤ 12)) (i_span.mono (by decide : 11 ≤ 12))
  have i_holder : Pr P w K mg base 2 "holder" s_holder p_holder  sp_holder := ok_holder (k := 1) B D_holder
  have i_settled : Pr P w K mg base 2 "settled" s_settled p_settled  sp_settled := ok_settled (k := 1) B D_settled
  have i_follow : Pr P w K mg base 3 "follow" s_follow p_follow  sp_follow := ok_follow (k := 2) B D_follow (i_holder.mono (by decide : 2 ≤ 2))
  have i_chainsT : Pr P w K mg base 4 "chains" s_chainsT p_chainsT  sp_chainsT := ok_chainsT (k := 3) B D_chainsT (i_follow.mono (by decide : 3 ≤ 3))
  have i_ringsT : Pr P w K mg base 5 "rings" s_ringsT p_ringsT  sp_ringsT := ok_ringsT (k := 4) B D_ringsT (i_settled.mono (by decide : 2 ≤ 4)) (i_chainsT.mono (by decide : 4 ≤ 4)) (i_follow.mono (by decide : 3 ≤ 4))
  have i_way : Pr P w K mg base 2 "way" s_way p_way  sp_way := ok_way (k := 1) B D_way
  have i_l_fits : Pr P w K mg base 2 "_law_fits" s_l_fits p_l_fits  sp_l_fits := ok_l_fits (k := 1) B D_l_fits
  have i_store : Pr P w K mg base 2 "_law_store" s_store p_store  sp_store := ok_store (k := 1) B D_store
  have i_l_after : Pr P w K mg base 2 "_law_after" s_l_after p_l_after  sp_after := ok_l_after (k := 1) B D_l_after
  have i_deals : Pr P w K mg base 3 "_law_deals" s_deals p_deals  sp_deals := ok_deals (k := 2) B D_deals (i_l_fits.mono (by decide : 2 ≤ 2)) (i_store.mono (by decide : 2 ≤ 2))
  have i_wandered : Pr P w K mg base 12 "_law_wandered" s_wandered p_wandered  sp_wandered := ok_wandered (k := 11) B D_wandered (i_deals.mono (by decide : 3 ≤ 11)) (i_l_after.mono (by decide : 2 ≤ 11)) (i_pickH.mono (by decide : 11 ≤ 11))
  have i_goal : Pr P w K mg base 13 "_law_goal" s_goal p_goal  sp_goal := ok_goal (k := 12) B D_goal (i_wandered.mono (by decide : 12 ≤ 12)) (i_take.mono (by decide : 10 ≤ 12)) (i_shuffled.mono (by decide : 11 ≤ 12)) (i_l_fits.mono (by decide : 2 ≤ 12))
  have i_l_rings : Pr P w K mg base 2 "_law_rings" s_l_rings p_l_rings  sp_l_rings := ok_l_rings (k := 1) B D_l_rings
  have i_right : Pr P w K mg base 61 "_law_right" s_right p_right  sp_right := ok_right (k := 60) B D_right (i_plant.mono (by decide : 13 ≤ 60)) (i_goal.mono (by decide : 13 ≤ 60)) (i_l_rings.mono (by decide : 2 ≤ 60)) (i_lists.mono (by decide : 9 ≤ 60)) (i_settled.mono (by decide : 2 ≤ 60)) (i_chainsT.mono (by decide : 4 ≤ 60)) (i_ringsT.mono (by decide : 5 ≤ 60)) (i_same.mono (by decide : 9 ≤ 60)) (i_way.mono (by decide : 2 ≤ 60))
  exact ok_law Fl ((ok_box Fb B.b_len B.b_abs B.b_int).mono (by decide)) Fb.kp bb gb i_right B.b_range B.b_min B.b_len B.b_all
end
theorem df_mk {K : Fg} {mg : Str → Option Value} {h : Heap} {x : Str} {st : Stmt} {ps : List Str} {f : Addr} {od an : Option Addr} {sl : Array (Option Value)} {oc kV dc pm cd ct : Value} (X : K.In h) (G : h.Ns mainGlobals mg)
    (hb : ∀ (kV dc pm : Value) (an : Option Addr) (cd ct : Value) (us : List Value), us.length = ps.length → bindArgs (PySem.W.fnOf x x (defArgs st) (defBody st) (defScope st) .none kV dc pm an cd ct) ⟨us, []⟩ = pure (ps.zip us))
    (a : PySem.W.nsIn K mainGlobals x = some (some (.ref f))) (l : K.lookup f = some ⟨oc, od, .func (PySem.W.fnOf x x (defArgs st) (defBody st) (defScope st) .none kV dc pm an cd ct), sl⟩) (c : PySem.W.codeIn K cd x = true) (k : PySem.W.keepIn K (.ref f) = true) : Df K mg x st ps := by
  have Fu := fun_mk (st := st) l c k
  exact ⟨f, _, Fu, PySem.W.mg_of X G a, Fu.binds hb⟩
theorem all_mk {l : PySem.W.OpenLaw} {w : World} {K : Fg} {h : Heap} {mg : Str → Option Value} {fa : Addr} (X : K.In h) (G : h.Ns mainGlobals mg) (hfa : mg "law" = some (.ref fa)) {f0 : Addr} {od0 an0 : Option Addr} {sl0 : Array (Option Value)} {oc0 kV0 dc0 pm0 cd0 ct0 : Value} {f1 : Addr} {od1 an1 : Option Addr} {sl1 : Array (Option Value)} {oc1 kV1 dc1 pm1 cd1 ct1 : Value} {f2 : Addr} {od2 an2 : Option Addr} {sl2 : Array (Option Value)} {oc2 kV2 dc2 pm2 cd2 ct2 : Value} {f3 : Addr} {od3 an3 : Option Addr} {sl3 : Array (Option Value)} {oc3 kV3 dc3 pm3 cd3 ct3 : Value} {f4 : Addr} {od4 an4 : Option Addr} {sl4 : Array (Option Value)} {oc4 kV4 dc4 pm4 cd4 ct4 : Value} {f5 : Addr} {od5 an5 : Option Addr} {sl5 : Array (Option Value)} {oc5 kV5 dc5 pm5 cd5 ct5 : Value} {f6 : Addr} {od6 an6 : Option Addr} {sl6 : Array (Option Value)} {oc6 kV6 dc6 pm6 cd6 ct6 : Value} {f7 : Addr} {od7 an7 : Option Addr} {sl7 : Array (Option Value)} {oc7 kV7 dc7 pm7 cd7 ct7 : Value} {f8 : Addr} {od8 an8 : Option Addr} {sl8 : Array (Option Value)} {oc8 kV8 dc8 pm8 cd8 ct8 : Value} {f9 : Addr} {od9 an9 : Option Addr} {sl9 : Array (Option Value)} {oc9 kV9 dc9 pm9 cd9 ct9 : Value} {f10 : Addr} {od10 an10 : Option Addr} {sl10 : Array (Option Value)} {oc10 kV10 dc10 pm10 cd10 ct10 : Value} {f11 : Addr} {od11 an11 : Option Addr} {sl11 : Array (Option Value)} {oc11 kV11 dc11 pm11 cd11 ct11 : Value} {f12 : Addr} {od12 an12 : Option Addr} {sl12 : Array (Option Value)} {oc12 kV12 dc12 pm12 cd12 ct12 : Value} {f13 : Addr} {od13 an13 : Option Addr} {sl13 : Array (Option Value)} {oc13 kV13 dc13 pm13 cd13 ct13 : Value} {f14 : Addr} {od14 an14 : Option Addr} {sl14 : Array (Option Value)} {oc14 kV14 dc14 pm14 cd14 ct14 : Value} {f15 : Addr} {od15 an15 : Option Addr} {sl15 : Array (Option Value)} {oc15 kV15 dc15 pm15 cd15 ct15 : Value} {f16 : Addr} {od16 an16 : Option Addr} {sl16 : Array (Option Value)} {oc16 kV16 dc16 pm16 cd16 ct16 : Value} {f17 : Addr} {od17 an17 : Option Addr} {sl17 : Array (Option Value)} {oc17 kV17 dc17 pm17 cd17 ct17 : Value} {f18 : Addr} {od18 an18 : Option Addr} {sl18 : Array (Option Value)} {oc18 kV18 dc18 pm18 cd18 ct18 : Value} {f19 : Addr} {od19 an19 : Option Addr} {sl19 : Array (Option Value)} {oc19 kV19 dc19 pm19 cd19 ct19 : Value} {f20 : Addr} {od20 an20 : Option Addr} {sl20 : Array (Option Value)} {oc20 kV20 dc20 pm20 cd20 ct20 : Value} {f21 : Addr} {od21 an21 : Option Addr} {sl21 : Array (Option Value)} {oc21 kV21 dc21 pm21 cd21 ct21 : Value} {f22 : Addr} {od22 an22 : Option Addr} {sl22 : Array (Option Value)} {oc22 kV22 dc22 pm22 cd22 ct22 : Value} {f23 : Addr} {od23 an23 : Option Addr} {sl23 : Array (Option Value)} {oc23 kV23 dc23 pm23 cd23 ct23 : Value}
    (a0 : PySem.W.nsIn K mainGlobals "_law_box" = some (some (.ref f0))) (l0 : K.lookup f0 = some ⟨oc0, od0, .func (PySem.W.fnOf "_law_box" "_law_box" (defArgs s_box) (defBody s_box) (defScope s_box) .none kV0 dc0 pm0 an0 cd0 ct0), sl0⟩) (c0 : PySem.W.codeIn K cd0 "_law_box" = true) (k0 : PySem.W.keepIn K (.ref f0) = true)
    (a1 : PySem.W.nsIn K mainGlobals "_law_take" = some (some (.ref f1))) (l1 : K.lookup f1 = some ⟨oc1, od1, .func (PySem.W.fnOf "_law_take" "_law_take" (defArgs s_take) (defBody s_take) (defScope s_take) .none kV1 dc1 pm1 an1 cd1 ct1), sl1⟩) (c1 : PySem.W.codeIn K cd1 "_law_take" = true) (k1 : PySem.W.keepIn K (.ref f1) = true)
    (a2 : PySem.W.nsIn K mainGlobals "_law_pick" = some (some (.ref f2))) (l2 : K.lookup f2 = some ⟨oc2, od2, .func (PySem.W.fnOf "_law_pick" "_law_pick" (defArgs s_pick) (defBody s_pick) (defScope s_pick) .none kV2 dc2 pm2 an2 cd2 ct2), sl2⟩) (c2 : PySem.W.codeIn K cd2 "_law_pick" = true) (k2 : PySem.W.keepIn K (.ref f2) = true)
    (a3 : PySem.W.nsIn K mainGlobals "_law_same" = some (some (.ref f3))) (l3 : K.lookup f3 = some ⟨oc3, od3, .func (PySem.W.fnOf "_law_same" "_law_same" (defArgs s_same) (defBody s_same) (defScope s_same) .none kV3 dc3 pm3 an3 cd3 ct3), sl3⟩) (c3 : PySem.W.codeIn K cd3 "_law_same" = true) (k3 : PySem.W.keepIn K (.ref f3) = true)
    (a4 : PySem.W.nsIn K mainGlobals "_law_lists" = some (some (.ref f4))) (l4 : K.lookup f4 = some ⟨oc4, od4, .func (PySem.W.fnOf "_law_lists" "_law_lists" (defArgs s_lists) (defBody s_lists) (defScope s_lists) .none kV4 dc4 pm4 an4 cd4 ct4), sl4⟩) (c4 : PySem.W.codeIn K cd4 "_law_lists" = true) (k4 : PySem.W.keepIn K (.ref f4) = true)
    (a5 : PySem.W.nsIn K mainGlobals "_law_shuffled" = some (some (.ref f5))) (l5 : K.lookup f5 = some ⟨oc5, od5, .func (PySem.W.fnOf "_law_shuffled" "_law_shuffled" (defArgs s_shuffled) (defBody s_shuffled) (defScope s_shuffled) .none kV5 dc5 pm5 an5 cd5 ct5), sl5⟩) (c5 : PySem.W.codeIn K cd5 "_law_shuffled" = true) (k5 : PySem.W.keepIn K (.ref f5) = true)
    (a6 : PySem.W.nsIn K mainGlobals "_law_gauges" = some (some (.ref f6))) (l6 : K.lookup f6 = some ⟨oc6, od6, .func (PySem.W.fnOf "_law_gauges" "_law_gauges" (defArgs s_gauges) (defBody s_gauges) (defScope s_gauges) .none kV6 dc6 pm6 an6 cd6 ct6), sl6⟩) (c6 : PySem.W.codeIn K cd6 "_law_gauges" = true) (k6 : PySem.W.keepIn K (.ref f6) = true)
    (a7 : PySem.W.nsIn K mainGlobals "_law_span" = some (some (.ref f7))) (l7 : K.lookup f7 = some ⟨oc7, od7, .func (PySem.W.fnOf "_law_span" "_law_span" (defArgs s_span) (defBody s_span) (defScope s_span) .none kV7 dc7 pm7 an7 cd7 ct7), sl7⟩) (c7 : PySem.W.codeIn K cd7 "_law_span" = true) (k7 : PySem.W.keepIn K (.ref f7) = true)
    (a8 : PySem.W.nsIn K mainGlobals "_law_plant" = some (some (.ref f8))) (l8 : K.lookup f8 = some ⟨oc8, od8, .func (PySem.W.fnOf "_law_plant" "_law_plant" (defArgs s_plant) (defBody s_plant) (defScope s_plant) .none kV8 dc8 pm8 an8 cd8 ct8), sl8⟩) (c8 : PySem.W.codeIn K cd8 "_law_plant" = true) (k8 : PySem.W.keepIn K (.ref f8) = true)
    (a9 : PySem.W.nsIn K mainGlobals "holder" = some (some (.ref f9))) (l9 : K.lookup f9 = some ⟨oc9, od9, .func (PySem.W.fnOf "holder" "holder" (defArgs s_holder) (defBody s_holder) (defScope s_holder) .none kV9 dc9 pm9 an9 cd9 ct9), sl9⟩) (c9 : PySem.W.codeIn K cd9 "holder" = true) (k9 : PySem.W.keepIn K (.ref f9) = true)
    (a10 : PySem.W.nsIn K mainGlobals "settled" = some (some (.ref f10))) (l10 : K.lookup f10 = some ⟨oc10, od10, .func (PySem.W.fnOf "settled" "settled" (defArgs s_settled) (defBody s_settled) (defScope s_settled) .none kV10 dc10 pm10 an10 cd10 ct10), sl10⟩) (c10 : PySem.W.codeIn K cd10 "settled" = true) (k10 : PySem.W.keepIn K (.ref f10) = true)
    (a11 : PySem.W.nsIn K mainGlobals "follow" = some (some (.ref f11))) (l11 : K.lookup f11 = some ⟨oc11, od11, .func (PySem.W.fnOf "follow" "follow" (defArgs s_follow) (defBody s_follow) (defScope s_follow) .none kV11 dc11 pm11 an11 cd11 ct11), sl11⟩) (c11 : PySem.W.codeIn K cd11 "follow" = true) (k11 : PySem.W.keepIn K (.ref f11) = true)
    (a12 : PySem.W.nsIn K mainGlobals "chains" = some (some (.ref f12))) (l12 : K.lookup f12 = some ⟨oc12, od12, .func (PySem.W.fnOf "chains" "chains" (defArgs s_chainsT) (defBody s_chainsT) (defScope s_chainsT) .none kV12 dc12 pm12 an12 cd12 ct12), sl12⟩) (c12 : PySem.W.codeIn K cd12 "chains" = true) (k12 : PySem.W.keepIn K (.ref f12) = true)
    (a13 : PySem.W.nsIn K mainGlobals "rings" = some (some (.ref f13))) (l13 : K.lookup f13 = some ⟨oc13, od13, .func (PySem.W.fnOf "rings" "rings" (defArgs s_ringsT) (defBody s_ringsT) (defScope s_ringsT) .none kV13 dc13 pm13 an13 cd13 ct13), sl13⟩) (c13 : PySem.W.codeIn K cd13 "rings" = true) (k13 : PySem.W.keepIn K (.ref f13) = true)
    (a14 : PySem.W.nsIn K mainGlobals "way" = some (some (.ref f14))) (l14 : K.lookup f14 = some ⟨oc14, od14, .func (PySem.W.fnOf "way" "way" (defArgs s_way) (defBody s_way) (defScope s_way) .none kV14 dc14 pm14 an14 cd14 ct14), sl14⟩) (c14 : PySem.W.codeIn K cd14 "way" = true) (k14 : PySem.W.keepIn K (.ref f14) = true)
    (a15 : PySem.W.nsIn K mainGlobals "_law_fits" = some (some (.ref f15))) (l15 : K.lookup f15 = some ⟨oc15, od15, .func (PySem.W.fnOf "_law_fits" "_law_fits" (defArgs s_l_fits) (defBody s_l_fits) (defScope s_l_fits) .none kV15 dc15 pm15 an15 cd15 ct15), sl15⟩) (c15 : PySem.W.codeIn K cd15 "_law_fits" = true) (k15 : PySem.W.keepIn K (.ref f15) = true)
    (a16 : PySem.W.nsIn K mainGlobals "_law_store" = some (some (.ref f16))) (l16 : K.lookup f16 = some ⟨oc16, od16, .func (PySem.W.fnOf "_law_store" "_law_store" (defArgs s_store) (defBody s_store) (defScope s_store) .none kV16 dc16 pm16 an16 cd16 ct16), sl16⟩) (c16 : PySem.W.codeIn K cd16 "_law_store" = true) (k16 : PySem.W.keepIn K (.ref f16) = true)
    (a17 : PySem.W.nsIn K mainGlobals "_law_after" = some (some (.ref f17))) (l17 : K.lookup f17 = some ⟨oc17, od17, .func (PySem.W.fnOf "_law_after" "_law_after" (defArgs s_l_after) (defBody s_l_after) (defScope s_l_after) .none kV17 dc17 pm17 an17 cd17 ct17), sl17⟩) (c17 : PySem.W.codeIn K cd17 "_law_after" = true) (k17 : PySem.W.keepIn K (.ref f17) = true)
    (a18 : PySem.W.nsIn K mainGlobals "_law_deals" = some (some (.ref f18))) (l18 : K.lookup f18 = some ⟨oc18, od18, .func (PySem.W.fnOf "_law_deals" "_law_deals" (defArgs s_deals) (defBody s_deals) (defScope s_deals) .none kV18 dc18 pm18 an18 cd18 ct18), sl18⟩) (c18 : PySem.W.codeIn K cd18 "_law_deals" = true) (k18 : PySem.W.keepIn K (.ref f18) = true)
    (a19 : PySem.W.nsIn K mainGlobals "_law_wandered" = some (some (.ref f19))) (l19 : K.lookup f19 = some ⟨oc19, od19, .func (PySem.W.fnOf "_law_wandered" "_law_wandered" (defArgs s_wandered) (defBody s_wandered) (defScope s_wandered) .none kV19 dc19 pm19 an19 cd19 ct19), sl19⟩) (c19 : PySem.W.codeIn K cd19 "_law_wandered" = true) (k19 : PySem.W.keepIn K (.ref f19) = true)
    (a20 : PySem.W.nsIn K mainGlobals "_law_goal" = some (some (.ref f20))) (l20 : K.lookup f20 = some ⟨oc20, od20, .func (PySem.W.fnOf "_law_goal" "_law_goal" (defArgs s_goal) (defBody s_goal) (defScope s_goal) .none kV20 dc20 pm20 an20 cd20 ct20), sl20⟩) (c20 : PySem.W.codeIn K cd20 "_law_goal" = true) (k20 : PySem.W.keepIn K (.ref f20) = true)
    (a21 : PySem.W.nsIn K mainGlobals "_law_rings" = some (some (.ref f21))) (l21 : K.lookup f21 = some ⟨oc21, od21, .func (PySem.W.fnOf "_law_rings" "_law_rings" (defArgs s_l_rings) (defBody s_l_rings) (defScope s_l_rings) .none kV21 dc21 pm21 an21 cd21 ct21), sl21⟩) (c21 : PySem.W.codeIn K cd21 "_law_rings" = true) (k21 : PySem.W.keepIn K (.ref f21) = true)
    (a22 : PySem.W.nsIn K mainGlobals "_law_right" = some (some (.ref f22))) (l22 : K.lookup f22 = some ⟨oc22, od22, .func (PySem.W.fnOf "_law_right" "_law_right" (defArgs s_right) (defBody s_right) (defScope s_right) .none kV22 dc22 pm22 an22 cd22 ct22), sl22⟩) (c22 : PySem.W.codeIn K cd22 "_law_right" = true) (k22 : PySem.W.keepIn K (.ref f22) = true)
    (a23 : PySem.W.nsIn K mainGlobals "law" = some (some (.ref f23))) (l23 : K.lookup f23 = some ⟨oc23, od23, .func (PySem.W.fnOf "law" "law" (defArgs s_law) (defBody s_law) (defScope s_law) .none kV23 dc23 pm23 an23 cd23 ct23), sl23⟩) (c23 : PySem.W.codeIn K cd23 "law" = true) (k23 : PySem.W.keepIn K (.ref f23) = true)
    (z_abs : PySem.W.nsIn K mainGlobals "abs" = some none)
    (z_all : PySem.W.nsIn K mainGlobals "all" = some none)
    (z_any : PySem.W.nsIn K mainGlobals "any" = some none)
    (z_bool : PySem.W.nsIn K mainGlobals "bool" = some none)
    (z_dict : PySem.W.nsIn K mainGlobals "dict" = some none)
    (z_enumerate : PySem.W.nsIn K mainGlobals "enumerate" = some none)
    (z_int : PySem.W.nsIn K mainGlobals "int" = some none)
    (z_isinstance : PySem.W.nsIn K mainGlobals "isinstance" = some none)
    (z_len : PySem.W.nsIn K mainGlobals "len" = some none)
    (z_list : PySem.W.nsIn K mainGlobals "list" = some none)
    (z_max : PySem.W.nsIn K mainGlobals "max" = some none)
    (z_min : PySem.W.nsIn K mainGlobals "min" = some none)
    (z_range : PySem.W.nsIn K mainGlobals "range" = some none)
    (z_repr : PySem.W.nsIn K mainGlobals "repr" = some none)
    (z_set : PySem.W.nsIn K mainGlobals "set" = some none)
    (z_sorted : PySem.W.nsIn K mainGlobals "sorted" = some none)
    (z_str : PySem.W.nsIn K mainGlobals "str" = some none)
    (z_sum : PySem.W.nsIn K mainGlobals "sum" = some none)
    (z_tuple : PySem.W.nsIn K mainGlobals "tuple" = some none)
    (z_zip : PySem.W.nsIn K mainGlobals "zip" = some none) :
    ∃ fd : FuncData, (∀ (s : Shared) (u : Value), BindsTo s fd ⟨[u], []⟩ [("_law_script", u)]) ∧ ∀ bs : Heap, K.In bs → bs.Ns mainGlobals mg → FnG l.prog w K mg bs (L2.CX l.prog w) 62 fa fd ["_law_script"] (spLaw K) := by
  have e := hfa.symm.trans (PySem.W.mg_of X G a23)
  cases e
  have Fb := fun_mk (st := s_box) l0 c0 k0
  have Fl := fun_mk (st := s_law) l23 c23 k23
  refine ⟨PySem.W.fnOf "law" "law" (defArgs s_law) (defBody s_law) (defScope s_law) .none kV23 dc23 pm23 an23 cd23 ct23, fun s v => .of_eq rfl, fun bs _ _ => ?_⟩
  have B : Bi mg := ⟨PySem.W.mg_none_of X G z_abs, PySem.W.mg_none_of X G z_all, PySem.W.mg_none_of X G z_any, PySem.W.mg_none_of X G z_bool, PySem.W.mg_none_of X G z_dict, PySem.W.mg_none_of X G z_enumerate, PySem.W.mg_none_of X G z_int, PySem.W.mg_none_of X G z_isinstance, PySem.W.mg_none_of X G z_len, PySem.W.mg_none_of X G z_list, PySem.W.mg_none_of X G z_max, PySem.W.mg_none_of X G z_min, PySem.W.mg_none_of X G z_range, PySem.W.mg_none_of X G z_repr, PySem.W.mg_none_of X G z_set, PySem.W.mg_none_of X G z_sorted, PySem.W.mg_none_of X G z_str, PySem.W.mg_none_of X G z_sum, PySem.W.mg_none_of X G z_tuple, PySem.W.mg_none_of X G z_zip⟩
  exact all_ok B (df_mk X G (fun _ _ _ _ _ _ us hl => match us, hl with | [_, _], _ => rfl) a2 l2 c2 k2) (df_mk X G (fun _ _ _ _ _ _ us hl => match us, hl with | [_, _], _ => rfl) a3 l3 c3 k3) (df_mk X G (fun _ _ _ _ _ _ us hl => match us, hl with | [_], _ => rfl) a4 l4 c4 k4) (df_mk X G (fun _ _ _ _ _ _ us hl => match us, hl with | [_, _], _ => rfl) a5 l5 c5 k5) (df_mk X G (fun _ _ _ _ _ _ us hl => match us, hl with | [_, _], _ => rfl) a6 l6 c6 k6) (df_mk X G (fun _ _ _ _ _ _ us hl => match us, hl with | [_, _, _], _ => rfl) a7 l7 c7 k7) (df_mk X G (fun _ _ _ _ _ _ us hl => match us, hl with | [_, _, _], _ => rfl) a8 l8 c8 k8) (df_mk X G (fun _ _ _ _ _ _ us hl => match us, hl with | [_, _], _ => rfl) a9 l9 c9 k9) (df_mk X G (fun _ _ _ _ _ _ us hl => match us, hl with | [_, _, _], _ => rfl) a10 l10 c10 k10) (df_mk X G (fun _ _ _ _ _ _ us hl => match us, hl with | [_, _, _], _ => rfl) a11 l11 c11 k11) (df_mk X G (fun _ _ _ _ _ _ us hl => match us, hl with | [_, _, _], _ => rfl) a12 l12 c12 k12) (df_mk X G (fun _ _ _ _ _ _ us hl => match us, hl with | [_, _, _], _ => rfl) a13 l13 c13 k13) (df_mk X G (fun _ _ _ _ _ _ us hl => match us, hl with | [_, _], _ => rfl) a14 l14 c14 k14) (df_mk X G (fun _ _ _ _ _ _ us hl => match us, hl with | [_, _, _], _ => rfl) a15 l15 c15 k15) (df_mk X G (fun _ _ _ _ _ _ us hl => match us, hl with | [_, _], _ => rfl) a16 l16 c16 k16) (df_mk X G (fun _ _ _ _ _ _ us hl => match us, hl with | [_, _], _ => rfl) a17 l17 c17 k17) (df_mk X G (fun _ _ _ _ _ _ us hl => match us, hl with | [_, _], _ => rfl) a18 l18 c18 k18) (df_mk X G (fun _ _ _ _ _ _ us hl => match us, hl with | [_, _, _, _], _ => rfl) a19 l19 c19 k19) (df_mk X G (fun _ _ _ _ _ _ us hl => match us, hl with | [_, _, _], _ => rfl) a20 l20 c20 k20) (df_mk X G (fun _ _ _ _ _ _ us hl => match us, hl with | [_, _], _ => rfl) a21 l21 c21 k21) (df_mk X G (fun _ _ _ _ _ _ us hl => match us, hl with | [_], _ => rfl) a22 l22 c22 k22) (df_mk X G (fun _ _ _ _ _ _ us hl => match us, hl with | [_, _], _ => rfl) a1 l1 c1 k1)   Fb (PySem.W.mg_of X G a0) (Fb.binds (ps := ["_law_script", "_law_k"]) fun _ _ _ _ _ _ us hl => match us, hl with | [_, _], _ => rfl) Fl
end SF
open PySem PySem.W PySem.Calls PyProof.Rows
open PySem PySem.W PyProof.Rows
set_option maxRecDepth 100000 in
set_option maxHeartbeats 0 in
theorem PySem.Challenge.cw_spindlefit_k10_rings_and_chains_holds : PySem.Challenge.rw_spindlefit_k10_rings_and_chains.Holds := by
  w_on; o_law
  refine HandSHeadRun.head_any (r := SFH.R) (q := SFH.qv) (H := kHook SFH.hd.K SFH.hd.as SFH.hd.e) (ob := (fun s => List.map (HandSHeadRun.getT s) SFH.hd.as)) (M := 12000) (loose := SFH.names) (kwd := []) (fun s => (List.map_congr_left fun a _ => HandSHeadRun.getT_eq s a)) (by kernel_rfl) (fun s => by kernel_rfl) SFH.hrun (by rfl) (by rfl) (by rfl) (by rfl) (by first | assumption | decide +kernel) (by decide +kernel) ⟨rfl, rfl, rfl, rfl, rfl, by decide +kernel⟩ ?hw ?hc
  case hw => w_witness2
  dsimp only [SFH.hd]
  k_fill
  refine SF.walk_G (l := PySem.Challenge.rw_spindlefit_k10_rings_and_chains) (k := 62) (x := "_law_script") (sp := SF.spLaw) rfl rfl ⟨⟨rfl, by decide, by decide⟩, rfl⟩ (fun w h Y => PySem.W.kIn_of Y) ?F (fun K' H a ns hl hS => ⟨a, ns, rfl, hS, hl, fun _ => rfl⟩)
  case F =>
    intro w mg fa h KX G hmg
    refine' SF.all_mk KX G hmg ?a0 ?l0 ?c0 ?k0 ?a1 ?l1 ?c1 ?k1 ?a2 ?l2 ?c2 ?k2 ?a3 ?l3 ?c3 ?k3 ?a4 ?l4 ?c4 ?k4 ?a5 ?l5 ?c5 ?k5 ?a6 ?l6 ?c6 ?k6 ?a7 ?l7 ?c7 ?k7 ?a8 ?l8 ?c8 ?k8 ?a9 ?l9 ?c9 ?k9 ?a10 ?l10 ?c10 ?k10 ?a11 ?l11 ?c11 ?k11 ?a12 ?l12 ?c12 ?k12 ?a13 ?l13 ?c13 ?k13 ?a14 ?l14 ?c14 ?k14 ?a15 ?l15 ?c15 ?k15 ?a16 ?l16 ?c16 ?k16 ?a17 ?l17 ?c17 ?k17 ?a18 ?l18 ?c18 ?k18 ?a19 ?l19 ?c19 ?k19 ?a20 ?l20 ?c20 ?k20 ?a21 ?l21 ?c21 ?k21 ?a22 ?l22 ?c22 ?k22 ?a23 ?l23 ?c23 ?k23 ?z_abs ?z_all ?z_any ?z_bool ?z_dict ?z_enumerate ?z_int ?z_isinstance ?z_len ?z_list ?z_max ?z_min ?z_range ?z_repr ?z_set ?z_sorted ?z_str ?z_sum ?z_tuple ?z_zip
    (case a0 => k_is)
    (case l0 => k_is)
    (case c0 => k_is)
    (case k0 => k_is)
    (case a1 => k_is)
    (case l1 => k_is)
    (case c1 => k_is)
    (case k1 => k_is)
    (case a2 => k_is)
    (case l2 => k_is)
    (case c2 => k_is)
    (case k2 => k_is)
    (case a3 => k_is)
    (case l3 => k_is)
    (case c3 => k_is)
    (case k3 => k_is)
    (case a4 => k_is)
    (case l4 => k_is)
    (case c4 => k_is)
    (case k4 => k_is)
    (case a5 => k_is)
    (case l5 => k_is)
    (case c5 => k_is)
    (case k5 => k_is)
    (case a6 => k_is)
    (case l6 => k_is)
    (case c6 => k_is)
    (case k6 => k_is)
    (case a7 => k_is)
    (case l7 => k_is)
    (case c7 => k_is)
    (case k7 => k_is)
    (case a8 => k_is)
    (case l8 => k_is)
    (case c8 => k_is)
    (case k8 => k_is)
    (case a9 => k_is)
    (case l9 => k_is)
    (case c9 => k_is)
    (case k9 => k_is)
    (case a10 => k_is)
    (case l10 => k_is)
    (case c10 => k_is)
    (case k10 => k_is)
    (case a11 => k_is)
    (case l11 => k_is)
    (case c11 => k_is)
    (case k11 => k_is)
    (case a12 => k_is)
    (case l12 => k_is)
    (case c12 => k_is)
    (case k12 => k_is)
    (case a13 => k_is)
    (case l13 => k_is)
    (case c13 => k_is)
    (case k13 => k_is)
    (case a14 => k_is)
    (case l14 => k_is)
    (case c14 => k_is)
    (case k14 => k_is)
    (case a15 => k_is)
    (case l15 => k_is)
    (case c15 => k_is)
    (case k15 => k_is)
    (case a16 => k_is)
    (case l16 => k_is)
    (case c16 => k_is)
    (case k16 => k_is)
    (case a17 => k_is)
    (case l17 => k_is)
    (case c17 => k_is)
    (case k17 => k_is)
    (case a18 => k_is)
    (case l18 => k_is)
    (case c18 => k_is)
    (case k18 => k_is)
    (case a19 => k_is)
    (case l19 => k_is)
    (case c19 => k_is)
    (case k19 => k_is)
    (case a20 => k_is)
    (case l20 => k_is)
    (case c20 => k_is)
    (case k20 => k_is)
    (case a21 => k_is)
    (case l21 => k_is)
    (case c21 => k_is)
    (case k21 => k_is)
    (case a22 => k_is)
    (case l22 => k_is)
    (case c22 => k_is)
    (case k22 => k_is)
    (case a23 => k_is)
    (case l23 => k_is)
    (case c23 => k_is)
    (case k23 => k_is)
    (case z_abs => k_is)
    (case z_all => k_is)
    (case z_any => k_is)
    (case z_bool => k_is)
    (case z_dict => k_is)
    (case z_enumerate => k_is)
    (case z_int => k_is)
    (case z_isinstance => k_is)
    (case z_len => k_is)
    (case z_list => k_is)
    (case z_max => k_is)
    (case z_min => k_is)
    (case z_range => k_is)
    (case z_repr => k_is)
    (case z_set => k_is)
    (case z_sorted => k_is)
    (case z_str => k_is)
    (case z_sum => k_is)
    (case z_tuple => k_is)
    (case z_zip => k_is)
