import PyProof.Rows.All
import Wide.All
import OpenK.AllK
import Wide.FinOn
import HandS.ForMost
import HandS.ForExc
import HandS.TryMany
import HandS.DictComp
import HandS.Defaults
import HandS.Deep
import HandS.TupAny
import HandS.Wide
import HandS.Style
import HandS.IsInst
import HandS.WordsDict
import HandS.TupLen
import HandS.Conv
import HandS.Iter
import HandS.Zip
import HandS.Sort
import KE.SortData
import HandS.Set
import HandS.RaiseMore
import HandS.SetBool
import KE.GoesMore
import KE.DataMinMax
import HandS.TupSets
import HandS.SortKw
import HandS.ExcInit
import HandS.ExcField
import HandS.HeadHook4
import HandS.CallSlots
import HandS.Strs
import KE.KDictPairs
import HandS.More
import HandS.Flow
import HandS.Small
import PyProof.DictUpdate
import KE.GoesEnumKw
import PyProof.EqKinds
import PyProof.NeKinds
import PyProof.P3Eq
import PyProof.FactsAll.dict_1
import PyProof.FactsAll.dict_2
import KE.KItemsList
import HandS.ListItems
import PyProof.DictValues
import HandS.Head0
import HandS.Head1
import HandS.Head2
import HandS.HeadEnd
import HandS.HeadHook1
import HandS.HeadHook2
import PySem.Challenge.RW_shutnames_k11_counts_names_and_holes
set_option Elab.async false
set_option linter.all false
set_option maxRecDepth 100000
set_option maxHeartbeats 0
set_option exponentiation.threshold 3000
section
namespace DL
open PySem PySem.Spec PyProof.Rows L2
def NewT (H : Hp) (Q : VK) (ys : List V) : Prop := ∀ (p : Addr) (ob : Obj), H p = none → ob.dict = none → Q (.ref p) (upd H p (.frz ob (.tup ys)))
section
variable {X : Cx}
theorem newT_at {pins : List (Addr × Obj)} {σ : L2.St} {H : Hp} {s : Shared} {Q : VK} {ys : List V} {its : List Value} (I : Inv X pins σ H s) (r : Vals ys its) (hz : ys.length ≤ sizeLine) (q : NewT H Q ys) :
  L2.EP X pins σ Q (.ref s.heap.objs.size) { s with heap := s.heap.push { cls := .type "tuple", data := .seq its.toArray } } := by
 have hn : H s.heap.objs.size = none := I.hok.fresh (Nat.le_refl _)
 have hp := Heap.get?_push_size s.heap (o := { cls := .type "tuple", data := .seq its.toArray }) rfl
 exact ⟨.ref s.heap.objs.size, _, I.laid (t' := s.toks) (o := .frz _ (.tup ys)) (fun b ob z => Heap.get?_push_of_some _ z) (Nat.le_refl _) ⟨hp, hz, its, r, _, hp, rfl, _, rfl⟩, rfl, q _ _ hn rfl⟩
def tTupF (t : TA) : TE := fun σ H Q => t σ H fun ys H1 => ys.length ≤ sizeLine ∧ NewT H1 Q ys
theorem pe_tupF {es : List Expr} {t : TA} {k : Nat} {pos : Pos} (h : PA X es t) : PE X (.Tuple es k pos) (tTupF t) :=
 ⟨fun pins s σ H Q I hq => wpAny_Tuple_spliced (thn (h.run pos pins s σ H _ I hq) fun us s1 ⟨ys, H1, I1, r, z, q⟩ => ⟨by rw [← r.length]; exact z, newT_at I1 r z q⟩)⟩
def rCatF (K : PySem.W.Frag) : R2 := fun x y H Q => ∃ a b us ws, x = .ref a ∧ y = .ref b ∧ SqT K H a us ∧ SqT K H b ws ∧ us.length + ws.length ≤ sizeLine ∧ (us = [] → Q (.ref b) H) ∧ (us ≠ [] → ws = [] → Q (.ref a) H) ∧ (us ≠ [] → ws ≠ [] → NewT H Q (us ++ ws))
theorem op_catF : OpR X (binaryOp .Add) (rCatF X.K) := fun pins s σ H x y v u Q I rx ry ⟨a, b, us, ws, ex, ey, ha, hb, hz, q0, q1, q2⟩ => by
 subst ex ey
 cases rx
 cases ry
 obtain ⟨its, r1, p1, _⟩ := I.tuple ha
 obtain ⟨jts, r2, p2, _⟩ := I.tuple hb
 by_cases hu : us = []
 ·have e : its = [] := r1.nil_iff.mpr hu
  subst e
  exact cat_tup0 p1 p2 ⟨.ref b, H, I, rfl, q0 hu⟩
 ·refine HT.cat_tup p1 p2 (fun z => hu (r1.nil_iff.mp z)) (fun z => ⟨.ref a, H, I, rfl, q1 hu (r2.nil_iff.mp z)⟩) (fun z => newT_at I (r1.append r2) (by rw [List.length_append]; exact hz) (q2 hu fun w => z (r2.nil_iff.mpr w))) ?_
  rw [← r1.length, ← r2.length]
  exact hz
theorem call_tupF : CallR X (.type "tuple") (fun xs H Q => ∃ p ys, xs = [.ref p] ∧ ((SqL X.K H p ys ∧ NewT H Q ys) ∨ (SqT X.K H p ys ∧ Q (.ref p) H))) := fun pins s σ H xs us Q I r ⟨p, ys, ex, h⟩ => by
 subst ex
 rcases h with ⟨hq, q⟩ | h
 ·obtain ⟨u, eu, rx⟩ := vals1 r
  subst eu
  cases rx
  obtain ⟨its, rv, pl, hz⟩ := I.list hq
  exact call_tuple_list pl.isList (fun h' kp => newT_at (s := { s with heap := h' }) (I.kept (t' := s.toks) kp) rv hz q) (by simp only [List.size_toArray]; rw [← rv.length]; exact hz)
 ·exact call_tuple_of pins s σ H _ us Q I r ⟨p, ys, rfl, .inr h⟩
end
end DL
end
section
namespace DL
open PySem PySem.Spec PyProof.Rows L2
abbrev D := PyData
abbrev Frag := PySem.W.Frag
def kD : Key → D
 | .inl i => .int i
 | .inr x => .str x
def TupN (K : Frag) (F : Hp) (a : Addr) (xs : List V) : Prop := (∃ ob : Obj, F a = some (.frz ob (.tup xs)) ∧ ob.dict = none) ∨ (SqT K F a xs ∧ ∃ o, K.lookup a = some o ∧ o.cls = .type "tuple" ∧ o.dict = none)
theorem TupN.mono {K : Frag} {F F' : Hp} {a : Addr} {xs : List V} (e : Same F F') (h : TupN K F a xs) : TupN K F' a xs := h.elim (fun ⟨ob, h, q⟩ => .inl ⟨ob, e _ _ h, q⟩) fun ⟨h, q⟩ => .inr ⟨h.elim (fun h => .inl (h.elim (fun h => .inl (e _ _ h)) fun ⟨o, h⟩ => .inr ⟨o, e _ _ h⟩)) .inr, q⟩
theorem TupN.seq {K : Frag} {F : Hp} {a : Addr} {xs : List V} (h : TupN K F a xs) : SqT K F a xs := h.elim (fun ⟨ob, h, _⟩ => .inl (.inr ⟨ob, h⟩)) fun ⟨h, _⟩ => h
mutual
inductive Rp (K : Frag) (F : Hp) : V → D → Prop
 | non : Rp K F .non .none
 | bl (b : Bool) : Rp K F (.bl b) (.bool b)
 | int (i : Int) : Rp K F (.int i) (.int i)
 | str (x : Str) : Rp K F (.str x) (.str x)
 | lst {a : Addr} {xs : List V} {ds : List D} : F a = some (.lst xs) → RpAll K F xs ds → Rp K F (.ref a) (.list ds)
 | scr {a : Addr} {xs : List V} {ds : List D} : SqL K F a xs → RpAll K F xs ds → Rp K F (.ref a) (.dict [(.none, .list ds)])
 | tup {a : Addr} {xs : List V} {ds : List D} : TupN K F a xs → RpAll K F xs ds → Rp K F (.ref a) (.tuple ds)
 | dcK {a : Addr} {ob : Obj} {kvs : List (Key × V)} {ds : List D} : F a = some (.frz ob (.dK kvs)) → RpAll K F (kvs.map (·.2)) ds → Rp K F (.ref a) (.dict ((kvs.map fun p => kD p.1).zip ds))
inductive RpAll (K : Frag) (F : Hp) : List V → List D → Prop
 | nil : RpAll K F [] []
 | cons {v : V} {vs : List V} {d : D} {ds : List D} : Rp K F v d → RpAll K F vs ds → RpAll K F (v :: vs) (d :: ds)
end
theorem sq_l {K : Frag} {F F' : Hp} {a : Addr} {xs : List V} (e : Same F F') (h : SqL K F a xs) : SqL K F' a xs := e.seq h
theorem sq_t {K : Frag} {F F' : Hp} {a : Addr} {xs : List V} (e : Same F F') (h : SqT K F a xs) : SqT K F' a xs := by
 rcases h with (h | ⟨o, h⟩) | h
 ·exact .inl (.inl (e _ _ h))
 ·exact .inl (.inr ⟨o, e _ _ h⟩)
 ·exact .inr h
mutual
theorem Rp.mono {K : Frag} {F F' : Hp} (e : Same F F') : ∀ {v : V} {d : D}, Rp K F v d → Rp K F' v d
 | _, _, .non => .non
 | _, _, .bl b => .bl b
 | _, _, .int i => .int i
 | _, _, .str x => .str x
 | _, _, .lst h r => .lst (e _ _ h) (RpAll.mono e r)
 | _, _, .scr h r => .scr (sq_l e h) (RpAll.mono e r)
 | _, _, .tup h r => .tup (h.mono e) (RpAll.mono e r)
 | _, _, .dcK h r => .dcK (e _ _ h) (RpAll.mono e r)
theorem RpAll.mono {K : Frag} {F F' : Hp} (e : Same F F') : ∀ {vs : List V} {ds : List D}, RpAll K F vs ds → RpAll K F' vs ds
 | _, _, .nil => .nil
 | _, _, .cons h r => .cons (Rp.mono e h) (RpAll.mono e r)
end
section
variable {K : Frag} {F : Hp}
theorem RpAll.length : ∀ {vs : List V} {ds : List D}, RpAll K F vs ds → vs.length = ds.length
 | _, _, .nil => rfl
 | _, _, .cons _ r => by rw [List.length_cons, List.length_cons, RpAll.length r]
theorem RpAll.getD : ∀ {vs : List V} {ds : List D} {i : Nat} {d : D}, RpAll K F vs ds → ds[i]? = some d → ∃ v, vs[i]? = some v ∧ Rp K F v d
 | _, _, _, _, .nil, e => by simp at e
 | _, _, 0, _, .cons h _, e => by simp at e; subst e; exact ⟨_, rfl, h⟩
 | _, _, i + 1, _, .cons _ r, e => by
  obtain ⟨d, h1, h2⟩ := RpAll.getD (i := i) r (by simpa using e)
  exact ⟨d, by simpa using h1, h2⟩
theorem RpAll.append : ∀ {vs ws : List V} {ds es : List D}, RpAll K F vs ds → RpAll K F ws es → RpAll K F (vs ++ ws) (ds ++ es)
 | _, _, _, _, .nil, s => s
 | _, _, _, _, .cons h r, s => .cons h (RpAll.append r s)
theorem RpAll.take : ∀ {vs : List V} {ds : List D} (n : Nat), RpAll K F vs ds → RpAll K F (vs.take n) (ds.take n)
 | _, _, 0, _ => by simpa using RpAll.nil
 | _, _, _ + 1, .nil => .nil
 | _, _, n + 1, .cons h r => .cons h (RpAll.take n r)
theorem RpAll.set {v : V} {d : D} (h : Rp K F v d) : ∀ {vs : List V} {ds : List D} (i : Nat), RpAll K F vs ds → RpAll K F (vs.set i v) (ds.set i d)
 | _, _, _, .nil => .nil
 | _, _, 0, .cons _ r => .cons h r
 | _, _, i + 1, .cons q r => .cons q (RpAll.set h i r)
theorem RpAll.erase : ∀ {vs : List V} {ds : List D} (i : Nat), RpAll K F vs ds → RpAll K F (vs.eraseIdx i) (ds.eraseIdx i)
 | _, _, _, .nil => .nil
 | _, _, 0, .cons _ r => r
 | _, _, i + 1, .cons q r => .cons q (RpAll.erase i r)
theorem RpAll.one {v : V} {d : D} (h : Rp K F v d) : RpAll K F [v] [d] := .cons h .nil
end
inductive OV where
 | d (x : D)
 | lst (xs : List D)
 | dct (kvs : List (D × D))
 | dctT (kvs : List (D × D))
 | obj (c : Str) (fs : List (Str × OV))
 | tup (fs : List (Str × OV))
mutual
/-- v stands for o: what is owned stands at O, not in the frozen part F -/
inductive OwR (K : Frag) (ca : Str → Addr) (F H : Hp) : V → OV → List Addr → Prop
 | d {v : V} {x : D} : Rp K F v x → OwR K ca F H v (.d x) []
 | lst {p : Addr} {vs : List V} {xs : List D} : H p = some (.lst vs) → RpAll K F vs xs → OwR K ca F H (.ref p) (.lst xs) [p]
 | dcK {p : Addr} {kvs : List (Key × V)} {ds : List D} : H p = some (.dK kvs) → RpAll K F (kvs.map (·.2)) ds → OwR K ca F H (.ref p) (.dct ((kvs.map fun q => kD q.1).zip ds)) [p]
 | dcT {p : Addr} {kvs : List (List Key × V)} {ds : List D} : H p = some (.dT kvs) → RpAll K F (kvs.map (·.2)) ds → OwR K ca F H (.ref p) (.dctT ((kvs.map fun q => PyData.tuple (q.1.map kD)).zip ds)) [p]
 | obj {p dx : Addr} {c : Str} {fvs : List (Str × V)} {fs : List (Str × OV)} {O : List Addr} : H p = some (.ins (ca c) dx fvs) → H dx = some (.own p) → OwF K ca F H fvs fs O → OwR K ca F H (.ref p) (.obj c fs) (p :: dx :: O)
 | tup {a : Addr} {fvs : List (Str × V)} {fs : List (Str × OV)} {O : List Addr} : TupN K F a (fvs.map (·.2)) → OwF K ca F H fvs fs O → OwR K ca F H (.ref a) (.tup fs) O
inductive OwF (K : Frag) (ca : Str → Addr) (F H : Hp) : List (Str × V) → List (Str × OV) → List Addr → Prop
 | nil : OwF K ca F H [] [] []
 | cons {x : Str} {v : V} {o : OV} {r : List (Str × V)} {s : List (Str × OV)} {A B : List Addr} : OwR K ca F H v o A → OwF K ca F H r s B → OwF K ca F H ((x, v) :: r) ((x, o) :: s) (A ++ B)
end
mutual
theorem OwR.mono {K : Frag} {ca : Str → Addr} {F F' H H' : Hp} (e : Same F F') : ∀ {v : V} {o : OV} {O : List Addr}, OwR K ca F H v o O → (∀ b ∈ O, H' b = H b) → OwR K ca F' H' v o O
 | _, _, _, .d r, _ => .d (r.mono e)
 | _, _, _, .lst h r, k => .lst ((k _ (List.mem_singleton_self _)).trans h) (r.mono e)
 | _, _, _, .dcK h r, k => .dcK ((k _ (List.mem_singleton_self _)).trans h) (r.mono e)
 | _, _, _, .dcT h r, k => .dcT ((k _ (List.mem_singleton_self _)).trans h) (r.mono e)
 | _, _, _, .obj h1 h2 r, k => .obj ((k _ (by simp)).trans h1) ((k _ (by simp)).trans h2) (OwF.mono e r fun b hb => k b (by simp [hb]))
 | _, _, _, .tup h r, k => .tup (h.mono e) (OwF.mono e r k)
theorem OwF.mono {K : Frag} {ca : Str → Addr} {F F' H H' : Hp} (e : Same F F') : ∀ {fvs : List (Str × V)} {fs : List (Str × OV)} {O : List Addr}, OwF K ca F H fvs fs O → (∀ b ∈ O, H' b = H b) → OwF K ca F' H' fvs fs O
 | _, _, _, .nil, _ => .nil
 | _, _, _, .cons h r, k => .cons (OwR.mono e h fun b hb => k b (by simp [hb])) (OwF.mono e r fun b hb => k b (by simp [hb]))
end
mutual
theorem OwR.there {K : Frag} {ca : Str → Addr} {F H : Hp} : ∀ {v : V} {o : OV} {O : List Addr}, OwR K ca F H v o O → ∀ b ∈ O, H b ≠ none
 | _, _, _, .d _, b, hb => by simp at hb
 | _, _, _, .lst h _, b, hb => by rw [List.mem_singleton] at hb; rw [hb, h]; simp
 | _, _, _, .dcK h _, b, hb => by rw [List.mem_singleton] at hb; rw [hb, h]; simp
 | _, _, _, .dcT h _, b, hb => by rw [List.mem_singleton] at hb; rw [hb, h]; simp
 | _, _, _, .obj h1 h2 r, b, hb => by
  rcases List.mem_cons.mp hb with e | hb
  ·rw [e, h1]; simp
  ·rcases List.mem_cons.mp hb with e | hb
   ·rw [e, h2]; simp
   ·exact OwF.there r b hb
 | _, _, _, .tup _ r, b, hb => OwF.there r b hb
theorem OwF.there {K : Frag} {ca : Str → Addr} {F H : Hp} : ∀ {fvs : List (Str × V)} {fs : List (Str × OV)} {O : List Addr}, OwF K ca F H fvs fs O → ∀ b ∈ O, H b ≠ none
 | _, _, _, .nil, b, hb => by simp at hb
 | _, _, _, .cons h r, b, hb => by
  rcases List.mem_append.mp hb with hb | hb
  ·exact OwR.there h b hb
  ·exact OwF.there r b hb
end
inductive RpB (K : Frag) (F H : Hp) : V → D → Prop
 | d {v : V} {x : D} : Rp K F v x → RpB K F H v x
 | lst {p : Addr} {vs : List V} {xs : List D} : H p = some (.lst vs) → RpAll K F vs xs → RpB K F H (.ref p) (.list xs)
 | dcK {p : Addr} {kvs : List (Key × V)} {ds : List D} : Rd H p (.dK kvs) → RpAll K F (kvs.map (·.2)) ds → RpB K F H (.ref p) (.dict ((kvs.map fun q => kD q.1).zip ds))
theorem rd_mono {H H' : Hp} (k : Same H H') {a : Addr} {u : HO} (h : Rd H a u) : Rd H' a u := h.elim (fun h => .inl (k _ _ h)) fun ⟨o, h⟩ => .inr ⟨o, k _ _ h⟩
theorem RpB.mono {K : Frag} {F F' H H' : Hp} (e : Same F F') (k : Same H H') {v : V} {x : D} (h : RpB K F H v x) : RpB K F' H' v x := by
 cases h with
 | d r => exact .d (r.mono e)
 | lst h r => exact .lst (k _ _ h) (r.mono e)
 | dcK h r => exact .dcK (rd_mono k h) (r.mono e)
def OV.look : OV → Option D
 | .d x => some x
 | .lst xs => some (.list xs)
 | .dct kvs => some (.dict kvs)
 | _ => none
def OV.frz1 : OV → Option D
 | .d x => some x
 | .lst xs => some (.list xs)
 | _ => none
def frzL : List (Str × OV) → Option (List D)
 | [] => some []
 | (_, o) :: r => o.frz1.bind fun x => (frzL r).bind fun xs => some (x :: xs)
def OV.frz : OV → Option D
 | .d x => some x
 | .lst xs => some (.list xs)
 | .tup fs => (frzL fs).bind fun xs => some (.tuple xs)
 | _ => none
theorem OwR.look {K : Frag} {ca : Str → Addr} {F H : Hp} {v : V} {o : OV} {O : List Addr} {x : D} (h : OwR K ca F H v o O) (e : o.look = some x) : RpB K F H v x := by
 cases h with
 | d r => cases e; exact .d r
 | lst h r => cases e; exact .lst h r
 | dcK h r => cases e; exact .dcK (.inl h) r
 | dcT h r => cases e
 | obj _ _ _ => cases e
 | tup _ _ => cases e
abbrev Env := List (Option OV)
abbrev Sl := L2.St
inductive SlR (K : Frag) (ca : Str → Addr) (F H : Hp) : Sl → Env → List Addr → Prop
 | nil : SlR K ca F H [] [] []
 | no {v : Option V} {σ : Sl} {ρ : Env} {O : List Addr} : SlR K ca F H σ ρ O → SlR K ca F H (v :: σ) (none :: ρ) O
 | so {v : V} {o : OV} {A : List Addr} {σ : Sl} {ρ : Env} {O : List Addr} : OwR K ca F H v o A → SlR K ca F H σ ρ O → SlR K ca F H (some v :: σ) (some o :: ρ) (A ++ O)
section
variable {K : Frag} {ca : Str → Addr} {F F' H H' : Hp}
theorem SlR.length : ∀ {σ : Sl} {ρ : Env} {O : List Addr}, SlR K ca F H σ ρ O → σ.length = ρ.length
 | _, _, _, .nil => rfl
 | _, _, _, .no r => by rw [List.length_cons, List.length_cons, r.length]
 | _, _, _, .so _ r => by rw [List.length_cons, List.length_cons, r.length]
theorem SlR.mono (e : Same F F') : ∀ {σ : Sl} {ρ : Env} {O : List Addr}, SlR K ca F H σ ρ O → (∀ b ∈ O, H' b = H b) → SlR K ca F' H' σ ρ O
 | _, _, _, .nil, _ => .nil
 | _, _, _, .no r, k => .no (r.mono e k)
 | _, _, _, .so h r, k => .so (h.mono e fun b hb => k b (by simp [hb])) (r.mono e fun b hb => k b (by simp [hb]))
theorem SlR.there : ∀ {σ : Sl} {ρ : Env} {O : List Addr}, SlR K ca F H σ ρ O → ∀ b ∈ O, H b ≠ none
 | _, _, _, .nil, b, hb => by simp at hb
 | _, _, _, .no r, b, hb => r.there b hb
 | _, _, _, .so h r, b, hb => by
  rcases List.mem_append.mp hb with hb | hb
  ·exact h.there b hb
  ·exact r.there b hb
theorem SlR.at : ∀ {σ : Sl} {ρ : Env} {O : List Addr} {i : Nat} {o : OV}, SlR K ca F H σ ρ O → ρ[i]? = some (some o) →
  ∃ v A R, σ[i]? = some (some v) ∧ OwR K ca F H v o A ∧ O.Perm (A ++ R) ∧ ∀ F' H', Same F F' → (∀ b ∈ R, H' b = H b) →
   SlR K ca F' H' σ (ρ.set i none) R ∧ ∀ v' o' A', OwR K ca F' H' v' o' A' → ∃ O', SlR K ca F' H' (σ.set i (some v')) (ρ.set i (some o')) O' ∧ O'.Perm (A' ++ R)
 | _, _, _, _, _, .nil, e => by simp at e
 | v :: σ, none :: ρ, O, 0, o, .no r, e => by simp at e
 | v :: σ, none :: ρ, O, i + 1, o, .no r, e => by
  obtain ⟨w, A, R, h1, h2, h3, h4⟩ := SlR.at (i := i) r (by simpa using e)
  refine ⟨w, A, R, by simpa using h1, h2, h3, fun F' H' eF k => ?_⟩
  obtain ⟨k1, k2⟩ := h4 F' H' eF k
  refine ⟨.no k1, fun v' o' A' q => ?_⟩
  obtain ⟨O', q1, q2⟩ := k2 v' o' A' q
  exact ⟨O', .no q1, q2⟩
 | some v :: σ, some o' :: ρ, _, 0, o, .so (O := O) (A := A) h r, e => by
  have e' : o' = o := by simpa using e
  subst e'
  refine ⟨v, A, O, rfl, h, List.Perm.refl _, fun F' H' eF k => ⟨.no (r.mono eF k), fun v' o' A' q => ⟨A' ++ O, .so q (r.mono eF k), List.Perm.refl _⟩⟩⟩
 | some v :: σ, some o' :: ρ, _, i + 1, o, .so (O := O) (A := A) h r, e => by
  obtain ⟨w, A1, R, h1, h2, h3, h4⟩ := SlR.at (i := i) r (by simpa using e)
  refine ⟨w, A1, A ++ R, by simpa using h1, h2, ?_, fun F' H' eF k => ?_⟩
  ·refine (List.Perm.append_left A h3).trans ?_
   rw [← List.append_assoc, ← List.append_assoc]
   exact List.Perm.append_right R List.perm_append_comm
  ·obtain ⟨k1, k2⟩ := h4 F' H' eF fun b hb => k b (by simp [hb])
   refine ⟨.so (h.mono eF fun b hb => k b (by simp [hb])) k1, fun v' o' A' q => ?_⟩
   obtain ⟨O', q1, q2⟩ := k2 v' o' A' q
   refine ⟨A ++ O', .so (h.mono eF fun b hb => k b (by simp [hb])) q1, ?_⟩
   refine (List.Perm.append_left A q2).trans ?_
   rw [← List.append_assoc, ← List.append_assoc]
   exact List.Perm.append_right R List.perm_append_comm
theorem SlR.put : ∀ {σ : Sl} {ρ : Env} {O : List Addr} {i : Nat}, SlR K ca F H σ ρ O → i < σ.length →
  ∃ R, (∀ b ∈ R, b ∈ O) ∧ (O.Nodup → R.Nodup) ∧ (∀ x : Option V, SlR K ca F H (σ.set i x) (ρ.set i none) R) ∧ ∀ v o A, OwR K ca F H v o A → ∃ O', SlR K ca F H (σ.set i (some v)) (ρ.set i (some o)) O' ∧ O'.Perm (A ++ R)
 | _, _, _, _, .nil, e => by simp at e
 | v :: σ, none :: ρ, O, 0, .no r, e => ⟨O, fun _ h => h, fun h => h, fun x => .no r, fun v o A q => ⟨A ++ O, .so q r, List.Perm.refl _⟩⟩
 | v :: σ, none :: ρ, O, i + 1, .no r, e => by
  obtain ⟨R, h1, h2, h3, h4⟩ := SlR.put (i := i) r (by simpa using e)
  refine ⟨R, h1, h2, fun x => .no (h3 x), fun v o A q => ?_⟩
  obtain ⟨O', q1, q2⟩ := h4 v o A q
  exact ⟨O', .no q1, q2⟩
 | some v :: σ, some o' :: ρ, _, 0, .so (O := O) (A := A) h r, e => ⟨O, fun b hb => by simp [hb], fun n => (List.nodup_append.mp n).2.1, fun x => .no r, fun v o A q => ⟨A ++ O, .so q r, List.Perm.refl _⟩⟩
 | some v :: σ, some o' :: ρ, _, i + 1, .so (O := O) (A := A) h r, e => by
  obtain ⟨R, h1, h2, h3, h4⟩ := SlR.put (i := i) r (by simpa using e)
  refine ⟨A ++ R, fun b hb => ?_, fun n => ?_, fun x => .so h (h3 x), fun v o A1 q => ?_⟩
  ·rcases List.mem_append.mp hb with hb | hb
   ·simp [hb]
   ·simp [h1 b hb]
  ·obtain ⟨n1, n2, n3⟩ := List.nodup_append.mp n
   exact List.nodup_append.mpr ⟨n1, h2 n2, fun a ha b hb => n3 a ha b (h1 b hb)⟩
  ·obtain ⟨O', q1, q2⟩ := h4 v o A1 q
   refine ⟨A ++ O', .so h q1, ?_⟩
   refine (List.Perm.append_left A q2).trans ?_
   rw [← List.append_assoc, ← List.append_assoc]
   exact List.Perm.append_right R List.perm_append_comm
end
end DL
end
section
namespace DL
open PySem PySem.Spec PyProof.Rows L2
inductive ECls where
 | own (x : Str) | blt (n : String)
 deriving DecidableEq
structure Exc where
 c : ECls
 fs : List (Str × D)
inductive Res (α : Type) where
 | ok (a : α) (ρ : Env)
 | ex (ξ : Exc) (ρ : Env)
 | bad
abbrev M (α : Type) := Env → Res α
def Res.bind {α β : Type} : Res α → (α → Env → Res β) → Res β
 | .ok a ρ, k => k a ρ
 | .ex ξ ρ, _ => .ex ξ ρ
 | .bad, _ => .bad
def Res.post {α : Type} (r : Res α) (P : α → Env → Prop) (E : Exc → Env → Prop) : Prop := match r with
 | .ok a ρ => P a ρ
 | .ex ξ ρ => E ξ ρ
 | .bad => False
theorem Res.post_bind {α β : Type} {r : Res α} {k : α → Env → Res β} {P : β → Env → Prop} {E : Exc → Env → Prop} (h : (r.bind k).post P E) : r.post (fun a ρ => (k a ρ).post P E) E := by
 cases r <;> exact h
theorem Res.post_imp {α : Type} {r : Res α} {P P' : α → Env → Prop} {E E' : Exc → Env → Prop} (h : r.post P E) (p : ∀ a ρ, P a ρ → P' a ρ) (e : ∀ ξ ρ, E ξ ρ → E' ξ ρ) : r.post P' E' := by
 cases r with
 | ok a ρ => exact p a ρ h
 | ex ξ ρ => exact e ξ ρ h
 | bad => exact h
def ofO {α : Type} (o : Option α) (ρ : Env) : Res α := match o with
 | some a => .ok a ρ
 | none => .bad
theorem post_ofO {α : Type} {o : Option α} {ρ : Env} {P : α → Env → Prop} {E : Exc → Env → Prop} (h : (ofO o ρ).post P E) : ∃ a, o = some a ∧ P a ρ := by
 cases o with
 | none => exact h.elim
 | some a => exact ⟨a, rfl, h⟩
structure Ct where
 ca : Str → Addr
 F : Hp
 H : Hp
 O : List Addr
 fx : List Nat
 σ : Sl
 W : WX
abbrev Ct.nox (c : Ct) : Ct := { c with W := fun _ _ _ _ => False }
structure EnvR (K : Frag) (c : Ct) (F H : Hp) (σ : Sl) (ρ : Env) (O : List Addr) : Prop where
 sub : Same F H
 f0 : Same c.F F
 h0 : ∀ b o, c.H b = some o → b ∉ c.O → H b = some o
 n0 : ∀ b, c.H b ≠ none → b ∉ c.O → c.F b = none → F b = none
 sl : SlR K c.ca F H σ ρ O
 nd : O.Nodup
 ow : ∀ p ∈ O, F p = none ∧ (p ∈ c.O ∨ c.H p = none)
 fx : ∀ i ∈ c.fx, σ[i]? = c.σ[i]?
structure New (F H F' H' : Hp) : Prop where
 fF : Same F F'
 hH : Same H H'
 sub : Same F' H'
 nw : ∀ b, H b ≠ none → F b = none → F' b = none
theorem New.refl {F H : Hp} (h : Same F H) : New F H F H := ⟨Same.refl _, Same.refl _, h, fun _ _ h => h⟩
theorem New.trans {F H F1 H1 F2 H2 : Hp} (a : New F H F1 H1) (b : New F1 H1 F2 H2) : New F H F2 H2 :=
 ⟨a.fF.trans b.fF, a.hH.trans b.hH, b.sub, fun c h1 h2 => b.nw c (fun z => h1 (a.hH.free z)) (a.nw c h1 h2)⟩
theorem same_upd {F : Hp} {p : Addr} (h : F p = none) (o : HO) : Same F (upd F p o) := fun b u q => by rw [upd_ne (ne_of_none q h)]; exact q
theorem New.one {F H : Hp} (s : Same F H) {p : Addr} (h : H p = none) (o : HO) : New F H (upd F p o) (upd H p o) where
 fF := same_upd (s.free h) o
 hH := same_upd h o
 sub := fun b u q => by
  by_cases e : b = p
  ·subst e; rw [upd_same] at q ⊢; exact q
  ·rw [upd_ne e] at q ⊢; exact s _ _ q
 nw := fun b h1 h2 => by
  have e : b ≠ p := fun e => h1 (by rw [e]; exact h)
  rw [upd_ne e]; exact h2
theorem New.own {F H : Hp} (s : Same F H) {p : Addr} (h : H p = none) (o : HO) : New F H F (upd H p o) where
 fF := Same.refl _
 hH := same_upd h o
 sub := s.trans (same_upd h o)
 nw := fun b h1 h2 => h2
section
variable {K : Frag} {c : Ct} {F F' H H' : Hp} {σ : Sl} {ρ ρ' : Env} {O : List Addr}
theorem keep_of {H H' : Hp} (h : Same H H') {O : List Addr} (t : ∀ b ∈ O, H b ≠ none) : ∀ b ∈ O, H' b = H b := fun b hb => by
 cases e : H b with
 | none => exact absurd e (t b hb)
 | some o => exact h b o e
theorem EnvR.new (e : EnvR K c F H σ ρ O) (n : New F H F' H') : EnvR K c F' H' σ ρ O where
 sub := n.sub
 f0 := e.f0.trans n.fF
 h0 := fun b o q h => n.hH _ _ (e.h0 b o q h)
 n0 := fun b h1 h2 h3 => n.nw b (fun z => by
  cases q : c.H b with
  | none => exact h1 q
  | some o =>
   rw [e.h0 b o q h2] at z
   cases z) (e.n0 b h1 h2 h3)
 sl := e.sl.mono n.fF (keep_of n.hH e.sl.there)
 nd := e.nd
 ow := fun p hp => ⟨n.nw p (e.sl.there p hp) (e.ow p hp).1, (e.ow p hp).2⟩
 fx := e.fx
end
def ecV (ca : Str → Addr) : ECls → Value
 | .own x => .ref (ca x)
 | .blt n => .type n
def XR (K : Frag) (ca : Str → Addr) (F H : Hp) (cls : Value) (d : Option Addr) (ξ : Exc) : Prop :=
 cls = ecV ca ξ.c ∧ (ξ.fs ≠ [] → ∃ dd fvs, d = some dd ∧ H dd = some (.xd fvs) ∧ fvs.map (·.1) = ξ.fs.map (·.1) ∧ RpAll K F (fvs.map (·.2)) (ξ.fs.map (·.2)))
abbrev Val (K : Frag) (hk : Bool) (F H : Hp) (v : V) (x : D) : Prop := match hk with
 | true => RpB K F H v x
 | false => Rp K F v x
theorem Val.up {K : Frag} {hk pu : Bool} {F H F' H' : Hp} {v : V} {x : D} (h : Val K hk F H v x) (s : Same F F') (p : pu = true → Same H H') (k : hk = true → pu = true) : RpB K F' H' v x := by
 cases hk with
 | true => exact RpB.mono s (p (k rfl)) h
 | false => exact .d (Rp.mono s h)
theorem Val.up0 {K : Frag} {hk : Bool} {F H : Hp} {v : V} {x : D} (h : Val K hk F H v x) : RpB K F H v x := by
 cases hk with
 | true => exact h
 | false => exact .d h
structure Apart (c : Ct) (F : Hp) (A O : List Addr) : Prop where
 nd : (A ++ O).Nodup
 ow : ∀ p ∈ A, F p = none ∧ (p ∈ c.O ∨ c.H p = none)
def PV (K : Frag) (c : Ct) (hk pu : Bool) (F H : Hp) (σ : Sl) (Q : VK) (x : D) (ρ' : Env) : Prop :=
 ∀ F' H' O' v, EnvR K c F' H' σ ρ' O' → Same F F' → (pu = true → Same H H') → Val K hk F' H' v x → Q v H'
def PO (K : Frag) (c : Ct) (F H : Hp) (σ : Sl) (Q : VK) (o : OV) (ρ' : Env) : Prop :=
 ∀ F' H' O' A v, EnvR K c F' H' σ ρ' O' → Same F F' → OwR K c.ca F' H' v o A → Apart c F' A O' → Q v H'
def PB (K : Frag) (c : Ct) (pu : Bool) (F H : Hp) (σ : Sl) (Q : Bool → Hp → Prop) (b : Bool) (ρ' : Env) : Prop :=
 ∀ F' H' O', EnvR K c F' H' σ ρ' O' → Same F F' → (pu = true → Same H H') → Q b H'
def PX (K : Frag) (c : Ct) (σ : Sl) (ξ : Exc) (ρ' : Env) : Prop :=
 ∀ F' H' O' cls d, EnvR K c F' H' σ ρ' O' → XR K c.ca F' H' cls d ξ → c.W cls d σ H'
def te (K : Frag) (c : Ct) (hk pu : Bool) (m : M D) : TE := fun σ H Q => ∃ F ρ O, EnvR K c F H σ ρ O ∧ (m ρ).post (PV K c hk pu F H σ Q) (PX K c σ)
def to (K : Frag) (c : Ct) (m : M OV) : TE := fun σ H Q => ∃ F ρ O, EnvR K c F H σ ρ O ∧ (m ρ).post (PO K c F H σ Q) (PX K c σ)
def tt (K : Frag) (c : Ct) (pu : Bool) (m : M Bool) : TT := fun σ H Q => ∃ F ρ O, EnvR K c F H σ ρ O ∧ (m ρ).post (PB K c pu F H σ Q) (PX K c σ)
inductive Fl where
 | nx | bk | ct
 | rt (o : OV)
def PS' (K : Frag) (c : Ct) (D : Ends) (f : Fl) (ρ' : Env) : Prop := match f with
 | .nx => ∀ σ' F' H' O', EnvR K c F' H' σ' ρ' O' → D.nx σ' H'
 | .bk => ∀ σ' F' H' O', EnvR K c F' H' σ' ρ' O' → D.bk σ' H'
 | .ct => ∀ σ' F' H' O', EnvR K c F' H' σ' ρ' O' → D.ct σ' H'
 | .rt o => ∀ σ' F' H' O' A v, EnvR K c F' H' σ' ρ' O' → OwR K c.ca F' H' v o A → Apart c F' A O' → D.rt v H'
def PXs (K : Frag) (c : Ct) (ξ : Exc) (ρ' : Env) : Prop :=
 ∀ σ' F' H' O' cls d, EnvR K c F' H' σ' ρ' O' → XR K c.ca F' H' cls d ξ → c.W cls d σ' H'
def ts (K : Frag) (c : Ct) (m : M Fl) : TS := fun D σ H => ∃ F ρ O, EnvR K c F H σ ρ O ∧ (m ρ).post (PS' K c D) (PXs K c)
theorem _root_.L2.PE.imp {X : Cx} {e : Expr} {t t' : TE} (h : PE X e t) (k : ∀ σ H Q, t' σ H Q → t σ H Q) : PE X e t' := ⟨fun pins s σ H Q I q => h.run pins s σ H Q I (k σ H Q q)⟩
theorem _root_.L2.PT.imp {X : Cx} {e : Expr} {t t' : TT} (h : PT X e t) (k : ∀ σ H Q, t' σ H Q → t σ H Q) : PT X e t' := ⟨fun pins s σ H Q I q => h.run pins s σ H Q I (k σ H Q q)⟩
theorem _root_.L2.PA.imp {X : Cx} {e : List Expr} {t t' : TA} (h : PA X e t) (k : ∀ σ H Q, t' σ H Q → t σ H Q) : PA X e t' := ⟨fun pos pins s σ H Q I q => h.run pos pins s σ H Q I (k σ H Q q)⟩
theorem _root_.L2.PS.imp {X : Cx} {e : Stmt} {t t' : TS} (h : PS X e t) (k : ∀ D σ H, t' D σ H → t D σ H) : PS X e t' := ⟨fun pins s σ H Q I q => h.run pins s σ H Q I (k Q σ H q)⟩
theorem _root_.L2.PSs.imp {X : Cx} {e : List Stmt} {t t' : TS} (h : PSs X e t) (k : ∀ D σ H, t' D σ H → t D σ H) : PSs X e t' := ⟨fun pins s σ H Q I q => h.run pins s σ H Q I (k Q σ H q)⟩
section
variable {K : Frag} {c : Ct} {F H : Hp} {σ : Sl} {ρ : Env} {O : List Addr} {hk pu : Bool} {α : Type}
theorem te_step {m : M D} {k : D → Env → Res α} {P : α → Env → Prop} {Q : VK} (e : EnvR K c F H σ ρ O) (h : ((m ρ).bind k).post P (PX K c σ))
  (q : ∀ x ρ1 F1 H1 O1 v, (k x ρ1).post P (PX K c σ) → EnvR K c F1 H1 σ ρ1 O1 → Same F F1 → (pu = true → Same H H1) → Val K hk F1 H1 v x → Q v H1) : te K c hk pu m σ H Q :=
 ⟨F, ρ, O, e, Res.post_imp (Res.post_bind h) (fun x ρ1 h1 F1 H1 O1 v e1 s1 p1 r1 => q x ρ1 F1 H1 O1 v h1 e1 s1 p1 r1) fun _ _ h => h⟩
theorem to_step {m : M OV} {k : OV → Env → Res α} {P : α → Env → Prop} {Q : VK} (e : EnvR K c F H σ ρ O) (h : ((m ρ).bind k).post P (PX K c σ))
  (q : ∀ x ρ1 F1 H1 O1 A v, (k x ρ1).post P (PX K c σ) → EnvR K c F1 H1 σ ρ1 O1 → Same F F1 → OwR K c.ca F1 H1 v x A → Apart c F1 A O1 → Q v H1) : to K c m σ H Q :=
 ⟨F, ρ, O, e, Res.post_imp (Res.post_bind h) (fun x ρ1 h1 F1 H1 O1 A v e1 s1 r1 a1 => q x ρ1 F1 H1 O1 A v h1 e1 s1 r1 a1) fun _ _ h => h⟩
theorem tt_step {m : M Bool} {k : Bool → Env → Res α} {P : α → Env → Prop} {Q : Bool → Hp → Prop} (e : EnvR K c F H σ ρ O) (h : ((m ρ).bind k).post P (PX K c σ))
  (q : ∀ x ρ1 F1 H1 O1, (k x ρ1).post P (PX K c σ) → EnvR K c F1 H1 σ ρ1 O1 → Same F F1 → (pu = true → Same H H1) → Q x H1) : tt K c pu m σ H Q :=
 ⟨F, ρ, O, e, Res.post_imp (Res.post_bind h) (fun x ρ1 h1 F1 H1 O1 e1 s1 p1 => q x ρ1 F1 H1 O1 h1 e1 s1 p1) fun _ _ h => h⟩
theorem te_stepS {m : M D} {k : D → Env → Res α} {P : α → Env → Prop} {Q : VK} (e : EnvR K c F H σ ρ O) (h : ((m ρ).bind k).post P (PXs K c))
  (q : ∀ x ρ1 F1 H1 O1 v, (k x ρ1).post P (PXs K c) → EnvR K c F1 H1 σ ρ1 O1 → Same F F1 → (pu = true → Same H H1) → Val K hk F1 H1 v x → Q v H1) : te K c hk pu m σ H Q :=
 ⟨F, ρ, O, e, Res.post_imp (Res.post_bind h) (fun x ρ1 h1 F1 H1 O1 v e1 s1 p1 r1 => q x ρ1 F1 H1 O1 v h1 e1 s1 p1 r1) fun _ _ h F' H' O' cls d => h σ F' H' O' cls d⟩
theorem to_stepS {m : M OV} {k : OV → Env → Res α} {P : α → Env → Prop} {Q : VK} (e : EnvR K c F H σ ρ O) (h : ((m ρ).bind k).post P (PXs K c))
  (q : ∀ x ρ1 F1 H1 O1 A v, (k x ρ1).post P (PXs K c) → EnvR K c F1 H1 σ ρ1 O1 → Same F F1 → OwR K c.ca F1 H1 v x A → Apart c F1 A O1 → Q v H1) : to K c m σ H Q :=
 ⟨F, ρ, O, e, Res.post_imp (Res.post_bind h) (fun x ρ1 h1 F1 H1 O1 A v e1 s1 r1 a1 => q x ρ1 F1 H1 O1 A v h1 e1 s1 r1 a1) fun _ _ h F' H' O' cls d => h σ F' H' O' cls d⟩
theorem tt_stepS {m : M Bool} {k : Bool → Env → Res α} {P : α → Env → Prop} {Q : Bool → Hp → Prop} (e : EnvR K c F H σ ρ O) (h : ((m ρ).bind k).post P (PXs K c))
  (q : ∀ x ρ1 F1 H1 O1, (k x ρ1).post P (PXs K c) → EnvR K c F1 H1 σ ρ1 O1 → Same F F1 → (pu = true → Same H H1) → Q x H1) : tt K c pu m σ H Q :=
 ⟨F, ρ, O, e, Res.post_imp (Res.post_bind h) (fun x ρ1 h1 F1 H1 O1 e1 s1 p1 => q x ρ1 F1 H1 O1 h1 e1 s1 p1) fun _ _ h F' H' O' cls d => h σ F' H' O' cls d⟩
end
def mVar (i : Nat) : M D := fun ρ => match ρ[i]? with
 | some (some (.d x)) => .ok x ρ
 | _ => .bad
def mC (x : D) : M D := fun ρ => .ok x ρ
def mLook (i : Nat) : M D := fun ρ => match ρ[i]? with
 | some (some o) => ofO o.look ρ
 | _ => .bad
section
variable {X : Cx} {c : Ct} {pos : Pos}
theorem EnvR.var {K : Frag} {F H : Hp} {σ : Sl} {ρ : Env} {O : List Addr} {i : Nat} {o : OV} (e : EnvR K c F H σ ρ O) (h : ρ[i]? = some (some o)) : ∃ v A, σ[i]? = some (some v) ∧ OwR K c.ca F H v o A := by
 obtain ⟨v, A, R, h1, h2, _⟩ := e.sl.at h
 exact ⟨v, A, h1, h2⟩
theorem se_var (i : Nat) {x : Str} (hN : X.N[i]? = some x := by rfl) (hv : Vis X.env.scope x := by first | exact Or.inl rfl | exact Or.inr (Or.inl rfl) | exact Or.inr (Or.inr rfl)) (hd : (x == ("__debug__" : Str)) = false := by decide)
  (hcd : (x == ("__classdict__" : Str)) = false := by decide) : PE X (.Name x pos) (te X.K c false true (mVar i)) := (pe_var hN hv hd hcd).imp fun σ H Q ⟨F, ρ, O, e, h⟩ => by
 unfold mVar at h
 cases q : ρ[i]? with
 | none => rw [q] at h; exact h.elim
 | some w =>
  rw [q] at h
  cases w with
  | none => exact h.elim
  | some o =>
   cases o with
   | d y =>
    obtain ⟨v, A, h1, h2⟩ := e.var q
    cases h2 with
    | d r => exact ⟨v, h1, h F H O v e (Same.refl _) (fun _ => Same.refl _) r⟩
   | lst _ => exact h.elim
   | dct _ => exact h.elim
   | dctT _ => exact h.elim
   | obj _ _ => exact h.elim
   | tup _ => exact h.elim
theorem se_look (i : Nat) {x : Str} (hN : X.N[i]? = some x := by rfl) (hv : Vis X.env.scope x := by first | exact Or.inl rfl | exact Or.inr (Or.inl rfl) | exact Or.inr (Or.inr rfl)) (hd : (x == ("__debug__" : Str)) = false := by decide)
  (hcd : (x == ("__classdict__" : Str)) = false := by decide) : PE X (.Name x pos) (te X.K c true true (mLook i)) := (pe_var hN hv hd hcd).imp fun σ H Q ⟨F, ρ, O, e, h⟩ => by
 unfold mLook at h
 cases q : ρ[i]? with
 | none => rw [q] at h; exact h.elim
 | some w =>
  rw [q] at h
  cases w with
  | none => exact h.elim
  | some o =>
   obtain ⟨y, h1, h2⟩ := post_ofO h
   obtain ⟨v, A, h3, h4⟩ := e.var q
   exact ⟨v, h3, h2 F H O v e (Same.refl _) (fun _ => Same.refl _) (h4.look h1)⟩
theorem se_c {e : Expr} {v : V} {x : D} (h : PE X e (tC v)) (r : ∀ F, Rp X.K F v x) : PE X e (te X.K c false true (mC x)) := h.imp fun σ H Q ⟨F, ρ, O, e, h⟩ => h F H O v e (Same.refl _) (fun _ => Same.refl _) (r F)
theorem se_int {i j} : PE X (.Constant (.int i) j pos) (te X.K c false true (mC (.int i))) := se_c pe_int fun _ => .int i
theorem se_bl {b j} : PE X (.Constant (.bool b) j pos) (te X.K c false true (mC (.bool b))) := se_c pe_bl fun _ => .bl b
theorem se_str {x j} : PE X (.Constant (.str x) j pos) (te X.K c false true (mC (.str x))) := se_c pe_str fun _ => .str x
theorem se_gstr {x z : Str} (hm : ∃ t, X.mg x = some (.str z t)) (hg : Gl X x := by rfl) (hd : (x == ("__debug__" : Str)) = false := by decide) : PE X (.Name x pos) (te X.K c false true (mC (.str z))) := by
 obtain ⟨t, hm⟩ := hm
 exact se_c (v := .str z) (pe_glob hg hm ⟨t, rfl⟩ hd) fun _ => .str z
theorem se_gint {x : Str} {i : Int} (hm : ∃ t, X.mg x = some (.int i t)) (hg : Gl X x := by rfl) (hd : (x == ("__debug__" : Str)) = false := by decide) : PE X (.Name x pos) (te X.K c false true (mC (.int i))) := by
 obtain ⟨t, hm⟩ := hm
 exact se_c (v := .int i) (pe_glob hg hm ⟨t, rfl⟩ hd) fun _ => .int i
end
def rD (K : Frag) (g : D → D → Option D) : R2 := fun v w H Q => ∃ F x y z, Same F H ∧ RpB K F H v x ∧ RpB K F H w y ∧ g x y = some z ∧ ∀ F' H' u, New F H F' H' → Rp K F' u z → Q u H'
def mBin (g : D → D → Option D) (a b : M D) : M D := fun ρ => (a ρ).bind fun x ρ1 => (b ρ1).bind fun y ρ2 => ofO (g x y) ρ2
section
variable {X : Cx} {c : Ct} {a b d : Expr} {pos : Pos} {ka kb kd pa pb pd : Bool} {ma mb md : M D} {g g' : D → D → Option D}
theorem bin_step {f : Value → Value → Sem Value} (hk : ka = true → pb = true) {σ : Sl} {H : Hp} {Q : VK} (h : te X.K c false (pa && pb) (mBin g ma mb) σ H Q) : tOp (rD X.K g) (te X.K c ka pa ma) (te X.K c kb pb mb) σ H Q := by
 obtain ⟨F, ρ, O, e, h⟩ := h
 refine te_step e h fun x ρ1 F1 H1 O1 v h1 e1 s1 p1 v1 => te_step e1 h1 fun y ρ2 F2 H2 O2 w h2 e2 s2 p2 v2 => ?_
 obtain ⟨z, hz, h3⟩ := post_ofO h2
 refine ⟨F2, x, y, z, e2.sub, v1.up s2 p2 hk, v2.up0, hz, fun F' H' u n r => h3 F' H' O2 u (e2.new n) ((s1.trans s2).trans n.fF) (fun hp => ?_) r⟩
 obtain ⟨h4, h5⟩ := Bool.and_eq_true_iff.mp hp
 exact ((p1 h4).trans (p2 h5)).trans n.hH
theorem se_bin {op : Operator} (ho : OpR X (binaryOp op) (rD X.K g)) (ha : PE X a (te X.K c ka pa ma)) (hb : PE X b (te X.K c kb pb mb)) (hk : ka = true → pb = true := by decide) :
  PE X (.BinOp a op b pos) (te X.K c false (pa && pb) (mBin g ma mb)) := (pe_op ho ha hb).imp fun σ H Q h => bin_step (f := binaryOp op) hk h
theorem se_cmp {op : CmpOp} (ho : OpR X (compareOp op) (rD X.K g)) (ha : PE X a (te X.K c ka pa ma)) (hb : PE X b (te X.K c kb pb mb)) (hk : ka = true → pb = true := by decide) (hm : behindInMarks op b = false := by first | exact nomark _ | rfl) :
  PE X (.Compare a [op] [b] pos) (te X.K c false (pa && pb) (mBin g ma mb)) := (pe_cmpR ho ha hb hm).imp fun σ H Q h => bin_step (f := compareOp op) hk h
def mB (m : M D) : M Bool := fun ρ => (m ρ).bind fun x ρ1 => match x with
 | .bool b => .ok b ρ1
 | _ => .bad
theorem tb_step {σ : Sl} {H : Hp} {Q : Bool → Hp → Prop} (h : tt X.K c pa (mB ma) σ H Q) : tTest (te X.K c ka pa ma) σ H Q := by
 obtain ⟨F, ρ, O, e, h⟩ := h
 refine te_step e h fun x ρ1 F1 H1 O1 v h1 e1 s1 p1 v1 => ?_
 cases x with
 | bool b =>
  have r := v1.up0
  cases r with
  | d r => cases r; exact ⟨b, rfl, h1 F1 H1 O1 e1 s1 p1⟩
 | _ => exact h1.elim
theorem st_cmp {op : CmpOp} (ho : OpR X (compareOp op) (rD X.K g)) (ha : PE X a (te X.K c ka pa ma)) (hb : PE X b (te X.K c kb pb mb)) (hk : ka = true → pb = true := by decide) (hm : behindInMarks op b = false := by first | exact nomark _ | rfl) :
  PT X (.Compare a [op] [b] pos) (tt X.K c (pa && pb) (mB (mBin g ma mb))) := (pt_cmpR ho ha hb hm).imp fun σ H Q h => by
 have q := tb_step (ka := false) h
 obtain ⟨F, ρ, O, e, q⟩ := q
 exact bin_step (f := compareOp op) hk ⟨F, ρ, O, e, q⟩
theorem st_val {e : Expr} (h : PE X e (te X.K c ka pa ma)) (he : ∀ whole, isTrue e X.env whole = (do let v ← whole; standAt e.pos; holding [v] (truthy v)) := by intro _; rfl) : PT X e (tt X.K c pa (mB ma)) :=
 (pt_val h he).imp fun σ H Q q => tb_step q
def mChain (g g' : D → D → Option D) (a b d : M D) : M D := fun ρ => (a ρ).bind fun x ρ1 => (b ρ1).bind fun y ρ2 => match g x y with
 | some (.bool true) => (d ρ2).bind fun z ρ3 => ofO (g' y z) ρ3
 | some (.bool false) => .ok (.bool false) ρ2
 | _ => .bad
theorem chain_step (hk : ka = true → pb = true) (hk' : kb = true → pd = true) {σ : Sl} {H : Hp} {Q : VK} (h : te X.K c false (pa && pb && pd) (mChain g g' ma mb md) σ H Q) : tChain (rD X.K g) (rD X.K g') (te X.K c ka pa ma) (te X.K c kb pb mb) (te X.K c kd pd md) σ H Q := by
 obtain ⟨F, ρ, O, e, h⟩ := h
 refine te_step e h fun x ρ1 F1 H1 O1 v h1 e1 s1 p1 v1 => te_step e1 h1 fun y ρ2 F2 H2 O2 w h2 e2 s2 p2 v2 => ?_
 cases gz : g x y with
 | none => rw [gz] at h2; exact h2.elim
 | some z =>
  rw [gz] at h2
  cases z with
  | bool k =>
   refine ⟨F2, x, y, .bool k, e2.sub, v1.up s2 p2 hk, v2.up0, gz, fun F' H' u n r => ?_⟩
   cases r
   refine ⟨k, rfl, ?_⟩
   have e2' := e2.new n
   cases k with
   | false =>
    rw [if_neg Bool.false_ne_true]
    refine h2 F' H' O2 _ e2' ((s1.trans s2).trans n.fF) (fun hp => ?_) (.bl false)
    obtain ⟨h4, h5⟩ := Bool.and_eq_true_iff.mp (Bool.and_eq_true_iff.mp hp).1
    exact ((p1 h4).trans (p2 h5)).trans n.hH
   | true =>
    rw [if_pos rfl]
    refine te_step e2' h2 fun z ρ3 F3 H3 O3 w' h3 e3 s3 p3 v3 => ?_
    obtain ⟨z', hz, h4⟩ := post_ofO h3
    refine ⟨F3, y, z, z', e3.sub, ?_, v3.up0, hz, fun F4 H4 u n4 r => h4 F4 H4 O3 u (e3.new n4) ((((s1.trans s2).trans n.fF).trans s3).trans n4.fF) (fun hp => ?_) r⟩
    ·exact Val.up (pu := pd) v2 (n.fF.trans s3) (fun q => n.hH.trans (p3 q)) hk'
    ·obtain ⟨q1, q2⟩ := Bool.and_eq_true_iff.mp hp
     obtain ⟨q3, q4⟩ := Bool.and_eq_true_iff.mp q1
     exact ((((p1 q3).trans (p2 q4)).trans n.hH).trans (p3 q2)).trans n4.hH
  | _ => exact h2.elim
theorem st_chain {op op' : CmpOp} (ho : OpR X (compareOp op) (rD X.K g)) (ho' : OpR X (compareOp op') (rD X.K g')) (ha : PE X a (te X.K c ka pa ma)) (hb : PE X b (te X.K c kb pb mb)) (hd : PE X d (te X.K c kd pd md))
  (hk : ka = true → pb = true := by decide) (hk' : kb = true → pd = true := by decide) (hm : lastMarks [op, op'] [b, d] = false := by with_unfolding_all rfl) : PT X (.Compare a [op, op'] [b, d] pos) (tt X.K c (pa && pb && pd) (mB (mChain g g' ma mb md))) :=
 (pt_chain ho ho' ha hb hd hm).imp fun σ H Q h => chain_step hk hk' (tb_step (ka := false) h)
end
def mAnd (a b : M Bool) : M Bool := fun ρ => (a ρ).bind fun x ρ1 => if x = true then b ρ1 else .ok false ρ1
def mOr (a b : M Bool) : M Bool := fun ρ => (a ρ).bind fun x ρ1 => if x = true then .ok true ρ1 else b ρ1
def mNot (a : M Bool) : M Bool := fun ρ => (a ρ).bind fun x ρ1 => .ok (!x) ρ1
def mV (a : M Bool) : M D := fun ρ => (a ρ).bind fun x ρ1 => .ok (.bool x) ρ1
def mAndV (a b : M D) : M D := fun ρ => (a ρ).bind fun x ρ1 => match x with
 | .bool true => b ρ1
 | .bool false => .ok (.bool false) ρ1
 | _ => .bad
def mOrV (a b : M D) : M D := fun ρ => (a ρ).bind fun x ρ1 => match x with
 | .bool true => .ok (.bool true) ρ1
 | .bool false => b ρ1
 | _ => .bad
def mNotV (a : M D) : M D := fun ρ => (a ρ).bind fun x ρ1 => match x with
 | .bool b => .ok (.bool (!b)) ρ1
 | _ => .bad
def mIf {α : Type} (t : M Bool) (a b : M α) : M α := fun ρ => (t ρ).bind fun x ρ1 => if x = true then a ρ1 else b ρ1
section
variable {X : Cx} {c : Ct} {a b d : Expr} {rest : List Expr} {pos : Pos} {ka kb kd pa pb pd : Bool} {ma mb md : M D} {ta tb' : M Bool}
theorem st_and1 (ha : PT X a (tt X.K c pa ta)) : PW X (.BoolOp .And [a] pos) (tt X.K c pa ta) := pw_and1 ha
theorem st_or1 (ha : PT X a (tt X.K c pa ta)) : PW X (.BoolOp .Or [a] pos) (tt X.K c pa ta) := pw_or1 ha
theorem _root_.L2.PW.imp {X : Cx} {e : Expr} {t t' : TT} (h : PW X e t) (k : ∀ σ H Q, t' σ H Q → t σ H Q) : PW X e t' := ⟨fun wh pins s σ H Q I q => h.run wh pins s σ H Q I (k σ H Q q)⟩
theorem and_p {p q : Bool} {H H1 H2 : Hp} (p1 : p = true → Same H H1) (p2 : q = true → Same H1 H2) (h : (p && q) = true) : Same H H2 := by
 obtain ⟨h4, h5⟩ := Bool.and_eq_true_iff.mp h
 exact (p1 h4).trans (p2 h5)
theorem st_and (ha : PT X a (tt X.K c pa ta)) (hb : PW X (.BoolOp .And (b :: rest) pos) (tt X.K c pb tb')) : PW X (.BoolOp .And (a :: b :: rest) pos) (tt X.K c (pa && pb) (mAnd ta tb')) := (pw_and ha hb).imp fun σ H Q ⟨F, ρ, O, e, h⟩ => by
 refine tt_step e h fun x ρ1 F1 H1 O1 h1 e1 s1 p1 => ?_
 cases x with
 | true =>
  rw [if_pos rfl] at h1 ⊢
  exact ⟨F1, ρ1, O1, e1, Res.post_imp h1 (fun b ρ2 h2 F2 H2 O2 e2 s2 p2 => h2 F2 H2 O2 e2 (s1.trans s2) (and_p p1 p2)) fun _ _ h => h⟩
 | false =>
  rw [if_neg Bool.false_ne_true] at h1 ⊢
  exact h1 F1 H1 O1 e1 s1 fun hp => p1 (Bool.and_eq_true_iff.mp hp).1
theorem st_or (ha : PT X a (tt X.K c pa ta)) (hb : PW X (.BoolOp .Or (b :: rest) pos) (tt X.K c pb tb')) : PW X (.BoolOp .Or (a :: b :: rest) pos) (tt X.K c (pa && pb) (mOr ta tb')) := (pw_or ha hb).imp fun σ H Q ⟨F, ρ, O, e, h⟩ => by
 refine tt_step e h fun x ρ1 F1 H1 O1 h1 e1 s1 p1 => ?_
 cases x with
 | true =>
  rw [if_pos rfl] at h1 ⊢
  exact h1 F1 H1 O1 e1 s1 fun hp => p1 (Bool.and_eq_true_iff.mp hp).1
 | false =>
  rw [if_neg Bool.false_ne_true] at h1 ⊢
  exact ⟨F1, ρ1, O1, e1, Res.post_imp h1 (fun b ρ2 h2 F2 H2 O2 e2 s2 p2 => h2 F2 H2 O2 e2 (s1.trans s2) (and_p p1 p2)) fun _ _ h => h⟩
theorem st_not (ha : PT X a (tt X.K c pa ta)) : PT X (.UnaryOp .Not a pos) (tt X.K c pa (mNot ta)) := (pt_not ha).imp fun σ H Q ⟨F, ρ, O, e, h⟩ =>
 tt_step e h fun x ρ1 F1 H1 O1 h1 e1 s1 p1 => h1 F1 H1 O1 e1 s1 p1
theorem bval {K : Frag} {k : Bool} {F H : Hp} {v : V} {b : Bool} (h : Val K k F H v (.bool b)) : v = .bl b := by
 have r := h.up0
 cases r with
 | d r => cases r; rfl
theorem se_and (ha : PE X a (te X.K c ka pa ma)) (hb : PE X (.BoolOp .And (b :: rest) pos) (te X.K c false pb mb)) : PE X (.BoolOp .And (a :: b :: rest) pos) (te X.K c false (pa && pb) (mAndV ma mb)) := (pe_and ha hb).imp fun σ H Q ⟨F, ρ, O, e, h⟩ => by
 refine te_step e h fun x ρ1 F1 H1 O1 v h1 e1 s1 p1 v1 => ?_
 cases x with
 | bool k =>
  refine ⟨k, bval v1, ?_⟩
  cases k with
  | true =>
   rw [if_pos rfl]
   exact ⟨F1, ρ1, O1, e1, Res.post_imp h1 (fun b ρ2 h2 F2 H2 O2 v2 e2 s2 p2 => h2 F2 H2 O2 v2 e2 (s1.trans s2) (and_p p1 p2)) fun _ _ h => h⟩
  | false =>
   rw [if_neg Bool.false_ne_true]
   exact h1 F1 H1 O1 _ e1 s1 (fun hp => p1 (Bool.and_eq_true_iff.mp hp).1) (.bl false)
 | _ => exact h1.elim
theorem se_or (ha : PE X a (te X.K c ka pa ma)) (hb : PE X (.BoolOp .Or (b :: rest) pos) (te X.K c false pb mb)) : PE X (.BoolOp .Or (a :: b :: rest) pos) (te X.K c false (pa && pb) (mOrV ma mb)) := (pe_or ha hb).imp fun σ H Q ⟨F, ρ, O, e, h⟩ => by
 refine te_step e h fun x ρ1 F1 H1 O1 v h1 e1 s1 p1 v1 => ?_
 cases x with
 | bool k =>
  refine ⟨k, bval v1, ?_⟩
  cases k with
  | false =>
   rw [if_neg Bool.false_ne_true]
   exact ⟨F1, ρ1, O1, e1, Res.post_imp h1 (fun b ρ2 h2 F2 H2 O2 v2 e2 s2 p2 => h2 F2 H2 O2 v2 e2 (s1.trans s2) (and_p p1 p2)) fun _ _ h => h⟩
  | true =>
   rw [if_pos rfl]
   exact h1 F1 H1 O1 _ e1 s1 (fun hp => p1 (Bool.and_eq_true_iff.mp hp).1) (.bl true)
 | _ => exact h1.elim
theorem se_one {op} (ha : PE X a (te X.K c false pa ma)) : PE X (.BoolOp op [a] pos) (te X.K c false pa ma) := pe_one ha
theorem se_not (ha : PE X a (te X.K c ka pa ma)) : PE X (.UnaryOp .Not a pos) (te X.K c false pa (mNotV ma)) := (pe_not ha).imp fun σ H Q ⟨F, ρ, O, e, h⟩ => by
 refine te_step e h fun x ρ1 F1 H1 O1 v h1 e1 s1 p1 v1 => ?_
 cases x with
 | bool k => exact ⟨k, bval v1, h1 F1 H1 O1 _ e1 s1 p1 (.bl _)⟩
 | _ => exact h1.elim
end
end DL
end
section
namespace DL
open PySem PySem.Spec PyProof.Rows L2
def PAs (K : Frag) (c : Ct) (pu : Bool) (F H : Hp) (σ : Sl) (Q : List V → Hp → Prop) (xs : List D) (ρ' : Env) : Prop :=
 ∀ F' H' O' vs, EnvR K c F' H' σ ρ' O' → Same F F' → (pu = true → Same H H') → RpAll K F' vs xs → Q vs H'
def ta (K : Frag) (c : Ct) (pu : Bool) (m : M (List D)) : TA := fun σ H Q => ∃ F ρ O, EnvR K c F H σ ρ O ∧ (m ρ).post (PAs K c pu F H σ Q) (PX K c σ)
def mNil : M (List D) := fun ρ => .ok [] ρ
def mCons (a : M D) (r : M (List D)) : M (List D) := fun ρ => (a ρ).bind fun x ρ1 => (r ρ1).bind fun xs ρ2 => .ok (x :: xs) ρ2
structure SA (X : Cx) (c : Ct) (es : List Expr) (pu : Bool) (m : M (List D)) : Prop where
 pa : PA X es (ta X.K c pu m)
 len : ∀ ρ xs ρ', m ρ = .ok xs ρ' → xs.length = es.length
section
variable {X : Cx} {c : Ct} {e : Expr} {es : List Expr} {pos : Pos} {p1 p2 pu : Bool} {me : M D} {ms : M (List D)}
theorem sa_nil : SA X c [] true mNil := ⟨pa_nil.imp fun σ H Q ⟨F, ρ, O, e, h⟩ => h F H O [] e (Same.refl _) (fun _ => Same.refl _) .nil, fun ρ xs ρ' h => by cases h; rfl⟩
theorem ta_step {K : Frag} {α : Type} {F H : Hp} {σ : Sl} {ρ : Env} {O : List Addr} {m : M (List D)} {k : List D → Env → Res α} {P : α → Env → Prop} {Q : List V → Hp → Prop} (e : EnvR K c F H σ ρ O) (h : ((m ρ).bind k).post P (PX K c σ))
  (q : ∀ x ρ1 F1 H1 O1 v, m ρ = .ok x ρ1 → (k x ρ1).post P (PX K c σ) → EnvR K c F1 H1 σ ρ1 O1 → Same F F1 → (pu = true → Same H H1) → RpAll K F1 v x → Q v H1) : ta K c pu m σ H Q := by
 refine ⟨F, ρ, O, e, ?_⟩
 have z := Res.post_bind h
 cases r : m ρ with
 | ok x ρ1 => rw [r] at z; exact fun F1 H1 O1 v e1 s1 p1 r1 => q x ρ1 F1 H1 O1 v r z e1 s1 p1 r1
 | ex ξ ρ1 => rw [r] at z; exact z
 | bad => rw [r] at z; exact z
theorem sa_cons (ha : PE X e (te X.K c false p1 me)) (hr : SA X c es p2 ms) (hs : starEach (e :: es) X.env = (false, eval e X.env) :: starEach es X.env := by rfl) : SA X c (e :: es) (p1 && p2) (mCons me ms) := by
 refine ⟨(pa_cons ha hr.pa hs).imp fun σ H Q ⟨F, ρ, O, e, h⟩ => te_step e h fun x ρ1 F1 H1 O1 v h1 e1 s1 q1 v1 => ?_, fun ρ xs ρ' h => ?_⟩
 ·refine ta_step e1 h1 fun xs ρ2 F2 H2 O2 vs _ h2 e2 s2 q2 v2 => ?_
  exact h2 F2 H2 O2 _ e2 (s1.trans s2) (and_p q1 q2) (.cons (Rp.mono s2 v1) v2)
 ·unfold mCons at h
  cases h1 : me ρ with
  | ok x ρ1 =>
   rw [h1] at h
   have h : ((ms ρ1).bind fun xs ρ2 => .ok (x :: xs) ρ2) = .ok xs ρ' := h
   cases h2 : ms ρ1 with
   | ok ys ρ2 =>
    rw [h2] at h
    have h : Res.ok (x :: ys) ρ2 = .ok xs ρ' := h
    cases h
    rw [List.length_cons, List.length_cons, hr.len _ _ _ h2]
   | ex _ _ => rw [h2] at h; cases h
   | bad => rw [h2] at h; cases h
  | ex _ _ => rw [h1] at h; cases h
  | bad => rw [h1] at h; cases h
end
theorem few {es : List Expr} (h : es.length ≤ 1000) : es.length ≤ sizeLine := Nat.le_of_lt (small1000 h)
def mTup (m : M (List D)) : M D := fun ρ => (m ρ).bind fun xs ρ1 => .ok (.tuple xs) ρ1
def mLst (m : M (List D)) : M OV := fun ρ => (m ρ).bind fun xs ρ1 => .ok (.lst xs) ρ1
section
variable {X : Cx} {c : Ct} {e : Expr} {es : List Expr} {pos : Pos} {p1 p2 pu : Bool} {me : M D} {ms : M (List D)} {mo : M OV}
theorem EnvR.apart {K : Frag} {F H : Hp} {σ : Sl} {ρ : Env} {O : List Addr} (e : EnvR K c F H σ ρ O) {p : Addr} (h : H p = none) : Apart c F [p] O := by
 refine ⟨?_, fun q hq => ?_⟩
 ·rw [List.singleton_append, List.nodup_cons]
  exact ⟨fun hm => e.sl.there p hm h, e.nd⟩
 ·rw [List.mem_singleton] at hq
  subst hq
  refine ⟨e.sub.free h, ?_⟩
  by_cases hc : q ∈ c.O
  ·exact .inl hc
  ·refine .inr ?_
   cases z : c.H q with
   | none => rfl
   | some o => rw [e.h0 q o z hc] at h; cases h
theorem Apart.new {F H F' H' : Hp} {A O : List Addr} (a : Apart c F A O) (n : New F H F' H') (t : ∀ b ∈ A, H b ≠ none) : Apart c F' A O := ⟨a.nd, fun p hp => ⟨n.nw p (t p hp) (a.ow p hp).1, (a.ow p hp).2⟩⟩
theorem se_tup {k : Nat} (h : SA X c es pu ms) (hl : es.length ≤ 1000 := by exact Nat.le_of_ble_eq_true rfl) : PE X (.Tuple es k pos) (te X.K c false pu (mTup ms)) := (pe_tupF h.pa).imp fun σ H Q ⟨F, ρ, O, e, h1⟩ => by
 refine ta_step e h1 fun xs ρ1 F1 H1 O1 vs hm h2 e1 s1 p1 v1 => ⟨by rw [v1.length, h.len _ _ _ hm]; exact few hl, fun p ob hp hob => ?_⟩
 have n := New.one e1.sub hp (.frz ob (.tup vs))
 exact h2 _ _ O1 _ (e1.new n) (s1.trans n.fF) (fun q => (p1 q).trans n.hH) (.tup (.inl ⟨ob, upd_same, hob⟩) (v1.mono n.fF))
end
def mLstF (m : M (List D)) : M D := fun ρ => (m ρ).bind fun xs ρ1 => .ok (.list xs) ρ1
def frzF (F H : Hp) (A : List Addr) : Hp := fun b => if b ∈ A then H b else F b
theorem frz_in {F H : Hp} {A : List Addr} {b : Addr} (h : b ∈ A) : frzF F H A b = H b := if_pos h
theorem frz_out {F H : Hp} {A : List Addr} {b : Addr} (h : b ∉ A) : frzF F H A b = F b := if_neg h
section
variable {K : Frag} {c : Ct} {F H : Hp} {σ : Sl} {ρ : Env} {O A : List Addr}
theorem frz_same (h : ∀ p ∈ A, F p = none) : Same F (frzF F H A) := fun b u q => by
 by_cases hb : b ∈ A
 ·rw [h b hb] at q; cases q
 ·rw [frz_out hb]; exact q
theorem EnvR.frz (e : EnvR K c F H σ ρ O) (a : Apart c F A O) : EnvR K c (frzF F H A) H σ ρ O where
 sub := fun b u q => by
  by_cases hb : b ∈ A
  ·rw [frz_in hb] at q; exact q
  ·rw [frz_out hb] at q; exact e.sub b u q
 f0 := e.f0.trans (frz_same fun p hp => (a.ow p hp).1)
 h0 := e.h0
 n0 := fun b h1 h2 h3 => by
  by_cases hb : b ∈ A
  ·rcases (a.ow b hb).2 with z | z
   ·exact absurd z h2
   ·exact absurd z h1
  ·rw [frz_out hb]; exact e.n0 b h1 h2 h3
 sl := e.sl.mono (frz_same fun p hp => (a.ow p hp).1) fun _ _ => rfl
 nd := e.nd
 ow := fun p hp => by
  have hb : p ∉ A := fun z => (List.nodup_append.mp a.nd).2.2 p z p hp rfl
  rw [frz_out hb]
  exact e.ow p hp
 fx := e.fx
theorem OwF.frzL {K : Frag} {ca : Str → Addr} {F H F1 : Hp} (e : Same F F1) : ∀ {fvs : List (Str × V)} {fs : List (Str × OV)} {A : List Addr} {ds : List D}, OwF K ca F H fvs fs A → DL.frzL fs = some ds → (∀ p ∈ A, F1 p = H p) → RpAll K F1 (fvs.map (·.2)) ds ∧ ∀ p ∈ A, ∃ ws, H p = some (.lst ws)
 | _, _, _, _, .nil, h, _ => by cases h; exact ⟨.nil, fun p hp => by cases hp⟩
 | _, _, _, _, .cons (o := o) h r, q, k => by
  unfold DL.frzL at q
  obtain ⟨x, q1, q2⟩ := Option.bind_eq_some_iff.mp q
  obtain ⟨xs, q3, q4⟩ := Option.bind_eq_some_iff.mp q2
  cases q4
  obtain ⟨g1, g2⟩ := r.frzL e q3 fun p hp => k p (List.mem_append_right _ hp)
  cases h with
  | d r0 => cases q1; exact ⟨.cons (r0.mono e) g1, g2⟩
  | lst h r0 =>
   cases q1
   refine ⟨.cons (.lst ((k _ (List.mem_append_left _ (List.mem_singleton_self _))).trans h) (r0.mono e)) g1, fun p hp => ?_⟩
   rcases List.mem_append.mp hp with hp | hp
   ·rw [List.mem_singleton.mp hp]; exact ⟨_, h⟩
   ·exact g2 p hp
  | dcK _ _ => cases q1
  | dcT _ _ => cases q1
  | obj _ _ _ => cases q1
  | tup _ _ => cases q1
theorem OwR.frz {v : V} {o : OV} {x : D} (h : OwR K c.ca F H v o A) (e : o.frz = some x) (hA : ∀ p ∈ A, F p = none) : Rp K (frzF F H A) v x := by
 have s : Same F (frzF F H A) := frz_same hA
 cases h with
 | d r => cases e; exact r.mono s
 | lst h r => cases e; exact .lst ((frz_in (List.mem_singleton_self _)).trans h) (r.mono s)
 | dcK h r => cases e
 | dcT h r => cases e
 | obj _ _ _ => cases e
 | tup hT hF =>
  unfold OV.frz at e
  obtain ⟨ds, e1, e2⟩ := Option.bind_eq_some_iff.mp e
  cases e2
  exact .tup (hT.mono s) (hF.frzL s e1 fun p hp => frz_in hp).1
end
def mFrz (m : M OV) : M D := fun ρ => (m ρ).bind fun o ρ1 => ofO o.frz ρ1
def mFrzV (i : Nat) : M D := fun ρ => match ρ[i]? with
 | some (some o) => match o.frz with
  | some x => .ok x (ρ.set i (some (.d x)))
  | none => .bad
 | _ => .bad
def mMove (i : Nat) : M OV := fun ρ => match ρ[i]? with
 | some (some o) => .ok o (ρ.set i none)
 | _ => .bad
def mD (m : M D) : M OV := fun ρ => (m ρ).bind fun x ρ1 => .ok (.d x) ρ1
section
variable {X : Cx} {c : Ct} {e : Expr} {pos : Pos} {pu : Bool} {me : M D} {mo : M OV}
theorem se_frz (h : PE X e (to X.K c mo)) : PE X e (te X.K c false false (mFrz mo)) := h.imp fun σ H Q ⟨F, ρ, O, e, h1⟩ => by
 refine to_step e h1 fun o ρ1 F1 H1 O1 A v h2 e1 s1 r1 a1 => ?_
 obtain ⟨x, h3, h4⟩ := post_ofO h2
 exact h4 _ _ O1 v (e1.frz a1) (s1.trans (frz_same fun p hp => (a1.ow p hp).1)) (fun q => nomatch q) (r1.frz h3 fun p hp => (a1.ow p hp).1)
theorem so_d (h : PE X e (te X.K c false pu me)) : PE X e (to X.K c (mD me)) := h.imp fun σ H Q ⟨F, ρ, O, e, h1⟩ =>
 te_step e h1 fun x ρ1 F1 H1 O1 v h2 e1 s1 p1 v1 => h2 F1 H1 O1 [] v e1 s1 (.d v1) ⟨e1.nd, fun _ hp => by simp at hp⟩
theorem set_self {α : Type} : ∀ {l : List α} {i : Nat} {x : α}, l[i]? = some x → l.set i x = l
 | [], _, _, h => by simp at h
 | a :: l, 0, x, h => by simp at h; subst h; rfl
 | a :: l, i + 1, x, h => by rw [List.set_cons_succ, set_self (l := l) (by simpa using h)]
theorem EnvR.take {K : Frag} {F H : Hp} {σ : Sl} {ρ : Env} {O : List Addr} {i : Nat} {o : OV} (e : EnvR K c F H σ ρ O) (h : ρ[i]? = some (some o)) :
  ∃ v A R, σ[i]? = some (some v) ∧ OwR K c.ca F H v o A ∧ Apart c F A R ∧ EnvR K c F H σ (ρ.set i none) R ∧ (∀ p ∈ A ++ R, p ∈ O) := by
 obtain ⟨v, A, R, h1, h2, h3, h4⟩ := e.sl.at h
 obtain ⟨k1, k2⟩ := h4 F H (Same.refl _) fun _ _ => rfl
 have mem : ∀ p ∈ A ++ R, p ∈ O := fun p hp => h3.mem_iff.mpr hp
 have nd : (A ++ R).Nodup := h3.nodup_iff.mp e.nd
 exact ⟨v, A, R, h1, h2, ⟨nd, fun p hp => e.ow p (mem p (by simp [hp]))⟩, ⟨e.sub, e.f0, e.h0, e.n0, k1, (List.nodup_append.mp nd).2.1, fun p hp => e.ow p (mem p (by simp [hp])), e.fx⟩, mem⟩
theorem so_move (i : Nat) {x : Str} (hN : X.N[i]? = some x := by rfl) (hv : Vis X.env.scope x := by first | exact Or.inl rfl | exact Or.inr (Or.inl rfl) | exact Or.inr (Or.inr rfl)) (hd : (x == ("__debug__" : Str)) = false := by decide)
  (hcd : (x == ("__classdict__" : Str)) = false := by decide) : PE X (.Name x pos) (to X.K c (mMove i)) := (pe_var hN hv hd hcd).imp fun σ H Q ⟨F, ρ, O, e, h⟩ => by
 unfold mMove at h
 cases q : ρ[i]? with
 | none => rw [q] at h; exact h.elim
 | some w =>
  rw [q] at h
  cases w with
  | none => exact h.elim
  | some o =>
   obtain ⟨v, A, R, h1, h2, h3, h4, _⟩ := e.take q
   exact ⟨v, h1, h F H R A v h4 (Same.refl _) h2 h3⟩
theorem EnvR.put {K : Frag} {F H : Hp} {σ : Sl} {ρ : Env} {O A : List Addr} {i : Nat} {o : OV} {v : V} (e : EnvR K c F H σ ρ O) (r : OwR K c.ca F H v o A) (a : Apart c F A O) (hi : i < σ.length) (hf : (c.fx.all fun j => j != i) = true) :
  ∃ O', EnvR K c F H (σ.set i (some v)) (ρ.set i (some o)) O' := by
 obtain ⟨R, h1, h2, _, h4⟩ := e.sl.put (i := i) hi
 obtain ⟨O', k1, k2⟩ := h4 v o A r
 obtain ⟨n1, n2, n3⟩ := List.nodup_append.mp a.nd
 have nd : (A ++ R).Nodup := List.nodup_append.mpr ⟨n1, h2 n2, fun x hx y hy => n3 x hx y (h1 y hy)⟩
 refine ⟨O', e.sub, e.f0, e.h0, e.n0, k1, k2.nodup_iff.mpr nd, fun p hp => ?_, fun j hj => ?_⟩
 ·rcases List.mem_append.mp (k2.mem_iff.mp hp) with z | z
  ·exact a.ow p z
  ·exact e.ow p (h1 p z)
 ·have z := List.all_eq_true.mp hf j hj
  have z : j ≠ i := by simpa using z
  rw [List.getElem?_set_ne (Ne.symm z)]
  exact e.fx j hj
theorem EnvR.putD {K : Frag} {F H : Hp} {σ : Sl} {ρ : Env} {O : List Addr} {i : Nat} {x : D} {v : V} (e : EnvR K c F H σ ρ O) (r : Rp K F v x) (hi : i < σ.length) (hf : (c.fx.all fun j => j != i) = true) :
  ∃ O', EnvR K c F H (σ.set i (some v)) (ρ.set i (some (.d x))) O' := e.put (.d r) ⟨e.nd, fun _ hp => by simp at hp⟩ hi hf
theorem se_frzv (i : Nat) {x : Str} (hN : X.N[i]? = some x := by rfl) (hv : Vis X.env.scope x := by first | exact Or.inl rfl | exact Or.inr (Or.inl rfl) | exact Or.inr (Or.inr rfl)) (hd : (x == ("__debug__" : Str)) = false := by decide)
  (hcd : (x == ("__classdict__" : Str)) = false := by decide) : PE X (.Name x pos) (te X.K c false true (mFrzV i)) := (pe_var hN hv hd hcd).imp fun σ H Q ⟨F, ρ, O, e, h⟩ => by
 unfold mFrzV at h
 cases q : ρ[i]? with
 | none => rw [q] at h; exact h.elim
 | some w =>
  rw [q] at h
  cases w with
  | none => exact h.elim
  | some o =>
   cases l : o.frz with
   | none => simp only [l] at h; exact h.elim
   | some y =>
    simp only [l] at h
    obtain ⟨v, A, R, h1, h2, h3, h4, _⟩ := e.take q
    have e2 := h4.frz h3
    have r2 := h2.frz l fun p hp => (h3.ow p hp).1
    obtain ⟨R', k1, k2, _, k4⟩ := e2.sl.put (i := i) (List.getElem?_eq_some_iff.mp h1).1
    obtain ⟨O', k5, k6⟩ := k4 v (.d y) [] (.d r2)
    rw [set_self h1, List.set_set] at k5
    refine ⟨v, h1, h _ H O' v ⟨e2.sub, e2.f0, e2.h0, e2.n0, k5, k6.nodup_iff.mpr (k2 e2.nd), fun p hp => e2.ow p (k1 p (k6.mem_iff.mp hp)), e2.fx⟩ (frz_same fun p hp => (h3.ow p hp).1) (fun _ => Same.refl _) r2⟩
end
inductive Rf where
 | ok (r : OV) (outs : Env)
 | ex (ξ : Exc)
 | bad
abbrev Fn := List OV → Rf
structure FnEnd (F H : Hp) (O : List Addr) (F' H' : Hp) : Prop where
 fF : Same F F'
 sub : Same F' H'
 hH : ∀ b o, H b = some o → b ∉ O → H' b = some o
 nw : ∀ b, H b ≠ none → b ∉ O → F b = none → F' b = none
def spF (K : Frag) (ca : Str → Addr) (f : Fn) : Sp := fun vs H Q E => ∃ F os O, Same F H ∧ SlR K ca F H (vs.map some) (os.map some) O ∧ O.Nodup ∧ (∀ p ∈ O, F p = none) ∧
 match f os with
 | .ok r outs => ∀ F' H' v A B, FnEnd F H O F' H' → SlR K ca F' H' (vs.map some) outs B → OwR K ca F' H' v r A → (A ++ B).Nodup → (∀ p ∈ A ++ B, F' p = none ∧ (p ∈ O ∨ H p = none)) → Q v H'
 | .ex ξ => ∀ F' H' cls d, FnEnd F H O F' H' → XR K ca F' H' cls d ξ → E cls d H'
 | .bad => False
inductive AV where
 | d (x : D) | o (i : Nat)
def gather : Env → List AV → Option (List OV × Env)
 | ρ, [] => some ([], ρ)
 | ρ, .d x :: r => (gather ρ r).map fun z => (.d x :: z.1, z.2)
 | ρ, .o i :: r => match ρ[i]? with
  | some (some o) => (gather (ρ.set i none) r).map fun z => (o :: z.1, z.2)
  | _ => none
def putBack : Env → List AV → Env → Env
 | ρ, .d _ :: r, _ :: s => putBack ρ r s
 | ρ, .o i :: r, o :: s => putBack (ρ.set i o) r s
 | ρ, _, _ => ρ
def callRf (avs : List AV) (ρ2 : Env) (r : Rf) : Res OV := match r with
 | .ok r outs => .ok r (putBack ρ2 avs outs)
 | .ex ξ => .ex ξ ρ2
 | .bad => .bad
def callEnd (f : Fn) (avs : List AV) (z : Option (List OV × Env)) : Res OV := match z with
 | none => .bad
 | some y => callRf avs y.2 (f y.1)
def mCall (f : Fn) (m : M (List AV)) : M OV := fun ρ => (m ρ).bind fun avs ρ1 => callEnd f avs (gather ρ1 avs)
inductive AvAll (K : Frag) (F : Hp) (σ : Sl) : List V → List AV → Prop where
 | nil : AvAll K F σ [] []
 | d {v : V} {x : D} {vs : List V} {as : List AV} : Rp K F v x → AvAll K F σ vs as → AvAll K F σ (v :: vs) (.d x :: as)
 | o {v : V} {i : Nat} {vs : List V} {as : List AV} : σ[i]? = some (some v) → AvAll K F σ vs as → AvAll K F σ (v :: vs) (.o i :: as)
theorem AvAll.mono {K : Frag} {F F' : Hp} {σ : Sl} (s : Same F F') : ∀ {vs : List V} {as : List AV}, AvAll K F σ vs as → AvAll K F' σ vs as
 | _, _, .nil => .nil
 | _, _, .d r h => .d (r.mono s) (h.mono s)
 | _, _, .o r h => .o r (h.mono s)
def PG' (K : Frag) (c : Ct) (F H : Hp) (σ : Sl) (Q : List V → Hp → Prop) (as : List AV) (ρ' : Env) : Prop :=
 ∀ F' H' O' vs, EnvR K c F' H' σ ρ' O' → Same F F' → AvAll K F' σ vs as → Q vs H'
def tg (K : Frag) (c : Ct) (m : M (List AV)) : TA := fun σ H Q => ∃ F ρ O, EnvR K c F H σ ρ O ∧ (m ρ).post (PG' K c F H σ Q) (PX K c σ)
def gNil : M (List AV) := fun ρ => .ok [] ρ
def gD (a : M D) (r : M (List AV)) : M (List AV) := fun ρ => (a ρ).bind fun x ρ1 => (r ρ1).bind fun xs ρ2 => .ok (.d x :: xs) ρ2
def gO (i : Nat) (r : M (List AV)) : M (List AV) := fun ρ => match ρ[i]? with
 | some (some _) => (r ρ).bind fun xs ρ2 => .ok (.o i :: xs) ρ2
 | _ => .bad
section
variable {K : Frag} {c : Ct} {F H : Hp} {σ : Sl}
theorem gather_ok : ∀ {as : List AV} {vs : List V} {ρ ρ2 : Env} {os : List OV} {O : List Addr}, gather ρ as = some (os, ρ2) → AvAll K F σ vs as → EnvR K c F H σ ρ O →
  ∃ A R, SlR K c.ca F H (vs.map some) (os.map some) A ∧ EnvR K c F H σ ρ2 R ∧ Apart c F A R ∧ (∀ p ∈ A ++ R, p ∈ O)
 | [], _, ρ, ρ2, os, O, h, .nil, e => by
  cases h
  exact ⟨[], O, .nil, e, ⟨e.nd, fun _ hp => by simp at hp⟩, fun p hp => hp⟩
 | .d x :: as, v :: vs, ρ, ρ2, os, O, h, .d r q, e => by
  have h1 : (gather ρ as).map (fun z => (OV.d x :: z.1, z.2)) = some (os, ρ2) := h
  obtain ⟨⟨os', ρ'⟩, h2, h3⟩ := Option.map_eq_some_iff.mp h1
  cases h3
  obtain ⟨A, R, k1, k2, k3, k4⟩ := gather_ok h2 q e
  exact ⟨A, R, .so (.d r) k1, k2, k3, k4⟩
 | .o i :: as, v :: vs, ρ, ρ2, os, O, h, .o r q, e => by
  unfold gather at h
  split at h
  ·rename_i o ho
   obtain ⟨⟨os', ρ'⟩, h2, h3⟩ := Option.map_eq_some_iff.mp h
   cases h3
   obtain ⟨w, A1, R1, g1, g2, g3, g4, g5⟩ := e.take ho
   rw [r] at g1; cases g1
   obtain ⟨A, R, k1, k2, k3, k4⟩ := gather_ok h2 q g4
   refine ⟨A1 ++ A, R, .so g2 k1, k2, ⟨?_, fun p hp => ?_⟩, fun p hp => ?_⟩
   ·rw [List.append_assoc]
    obtain ⟨n1, n2, n3⟩ := List.nodup_append.mp g3.nd
    exact List.nodup_append.mpr ⟨n1, k3.nd, fun x hx y hy => n3 x hx y (k4 y hy)⟩
   ·rcases List.mem_append.mp hp with z | z
    ·exact g3.ow p z
    ·exact k3.ow p z
   ·rw [List.append_assoc] at hp
    rcases List.mem_append.mp hp with z | z
    ·exact g5 p (by simp [z])
    ·exact g5 p (by simp [k4 p z])
  ·cases h
theorem putBack_ok : ∀ {as : List AV} {vs : List V} {ρ outs : Env} {O B : List Addr}, SlR K c.ca F H (vs.map some) outs B → AvAll K F σ vs as → SlR K c.ca F H σ ρ O → (B ++ O).Nodup →
  ∃ O', SlR K c.ca F H σ (putBack ρ as outs) O' ∧ O'.Nodup ∧ ∀ p ∈ O', p ∈ B ++ O
 | [], _, ρ, outs, O, B, h, .nil, e, n => by
  cases h
  exact ⟨O, e, (List.nodup_append.mp n).2.1, fun p hp => by simp [hp]⟩
 | .d x :: as, v :: vs, ρ, none :: outs, O, B, .no h, .d r q, e, n => putBack_ok (as := as) h q e n
 | .d x :: as, v :: vs, ρ, some o :: outs, O, _, .so (A := A) (O := B) g h, .d r q, e, n => by
  rw [List.append_assoc] at n
  obtain ⟨O', k1, k2, k3⟩ := putBack_ok (as := as) h q e (List.nodup_append.mp n).2.1
  exact ⟨O', k1, k2, fun p hp => by rw [List.append_assoc]; exact List.mem_append_right _ (k3 p hp)⟩
 | .o i :: as, v :: vs, ρ, none :: outs, O, B, .no h, .o r q, e, n => by
  obtain ⟨R, h1, h2, h3, _⟩ := e.put (i := i) (List.getElem?_eq_some_iff.mp r).1
  have k := h3 (some v)
  rw [set_self r] at k
  obtain ⟨n1, n2, n3⟩ := List.nodup_append.mp n
  obtain ⟨O', k1, k2, k3⟩ := putBack_ok (as := as) (outs := outs) h q k (List.nodup_append.mpr ⟨n1, h2 n2, fun x hx y hy => n3 x hx y (h1 y hy)⟩)
  exact ⟨O', k1, k2, fun p hp => (List.mem_append.mp (k3 p hp)).elim (fun z => by simp [z]) fun z => by simp [h1 p z]⟩
 | .o i :: as, v :: vs, ρ, some o :: outs, O, _, .so (A := A) (O := B) g h, .o r q, e, n => by
  obtain ⟨R, h1, h2, _, h4⟩ := e.put (i := i) (List.getElem?_eq_some_iff.mp r).1
  obtain ⟨O1, k1, k2⟩ := h4 v o A g
  rw [set_self r] at k1
  rw [List.append_assoc] at n
  obtain ⟨n1, n2, n3⟩ := List.nodup_append.mp n
  obtain ⟨m1, m2, m3⟩ := List.nodup_append.mp n2
  have nd1 : (A ++ R).Nodup := List.nodup_append.mpr ⟨n1, h2 m2, fun x hx y hy => n3 x hx y (by simp [h1 y hy])⟩
  have nd2 : (B ++ O1).Nodup := List.nodup_append.mpr ⟨m1, k2.nodup_iff.mpr nd1, fun x hx y hy => by
   rcases List.mem_append.mp (k2.mem_iff.mp hy) with z | z
   ·exact (n3 y z x (by simp [hx])).symm
   ·exact m3 x hx y (h1 y z)⟩
  obtain ⟨O', j1, j2, j3⟩ := putBack_ok (as := as) h q k1 nd2
  refine ⟨O', j1, j2, fun p hp => ?_⟩
  rcases List.mem_append.mp (j3 p hp) with z | z
  ·simp [z]
  ·rcases List.mem_append.mp (k2.mem_iff.mp z) with z | z
   ·simp [z]
   ·simp [h1 p z]
end
section
variable {X : Cx} {c : Ct} {e : Expr} {es : List Expr} {pos : Pos} {p1 p2 pu : Bool} {me : M D} {ms : M (List AV)} {mo : M OV}
theorem sg_nil : PA X [] (tg X.K c gNil) := pa_nil.imp fun σ H Q ⟨F, ρ, O, e, h⟩ => h F H O [] e (Same.refl _) .nil
theorem tg_step {K : Frag} {α : Type} {F H : Hp} {σ : Sl} {ρ : Env} {O : List Addr} {m : M (List AV)} {k : List AV → Env → Res α} {P : α → Env → Prop} {Q : List V → Hp → Prop} (e : EnvR K c F H σ ρ O) (h : ((m ρ).bind k).post P (PX K c σ))
  (q : ∀ x ρ1 F1 H1 O1 v, (k x ρ1).post P (PX K c σ) → EnvR K c F1 H1 σ ρ1 O1 → Same F F1 → AvAll K F1 σ v x → Q v H1) : tg K c m σ H Q :=
 ⟨F, ρ, O, e, Res.post_imp (Res.post_bind h) (fun x ρ1 h1 F1 H1 O1 v e1 s1 r1 => q x ρ1 F1 H1 O1 v h1 e1 s1 r1) fun _ _ h => h⟩
theorem sg_d (ha : PE X e (te X.K c false p1 me)) (hr : PA X es (tg X.K c ms)) (hs : starEach (e :: es) X.env = (false, eval e X.env) :: starEach es X.env := by rfl) : PA X (e :: es) (tg X.K c (gD me ms)) :=
 (pa_cons ha hr hs).imp fun σ H Q ⟨F, ρ, O, e, h⟩ => te_step e h fun x ρ1 F1 H1 O1 v h1 e1 s1 q1 v1 => tg_step e1 h1 fun xs ρ2 F2 H2 O2 vs h2 e2 s2 v2 => h2 F2 H2 O2 _ e2 (s1.trans s2) (.d (Rp.mono s2 v1) v2)
theorem sg_o (i : Nat) {x : Str} {np : Pos} (hr : PA X es (tg X.K c ms)) (hN : X.N[i]? = some x := by rfl) (hv : Vis X.env.scope x := by first | exact Or.inl rfl | exact Or.inr (Or.inl rfl) | exact Or.inr (Or.inr rfl)) (hd : (x == ("__debug__" : Str)) = false := by decide)
  (hcd : (x == ("__classdict__" : Str)) = false := by decide) (hs : starEach (Expr.Name x np :: es) X.env = (false, eval (Expr.Name x np) X.env) :: starEach es X.env := by rfl) : PA X (.Name x np :: es) (tg X.K c (gO i ms)) :=
 (pa_cons (pe_var hN hv hd hcd) hr hs).imp fun σ H Q ⟨F, ρ, O, e, h⟩ => by
  unfold gO at h
  cases q : ρ[i]? with
  | none => rw [q] at h; exact h.elim
  | some w =>
   rw [q] at h
   cases w with
   | none => exact h.elim
   | some o =>
    obtain ⟨v, A, h1, h2⟩ := e.var q
    exact ⟨v, h1, tg_step e h fun xs ρ2 F2 H2 O2 vs h2 e2 s2 v2 => h2 F2 H2 O2 _ e2 s2 (.o h1 v2)⟩
theorem call_in {K : Frag} {f : Fn} {F H : Hp} {σ : Sl} {ρ : Env} {O : List Addr} {as : List AV} {vs : List V} {Q : VK} {P : OV → Env → Prop} (e : EnvR K c F H σ ρ O) (r : AvAll K F σ vs as)
  (h : (callEnd f as (gather ρ as)).post P (PX K c σ)) (hP : ∀ o ρ' F' H' O' A v, P o ρ' → EnvR K c F' H' σ ρ' O' → Same F F' → OwR K c.ca F' H' v o A → Apart c F' A O' → Q v H') : spF K c.ca f vs H Q (WE c.W σ) := by
 cases g : gather ρ as with
 | none => rw [g] at h; exact h.elim
 | some z =>
  obtain ⟨os, ρ2⟩ := z
  rw [g] at h
  have h : (callRf as ρ2 (f os)).post P (PX K c σ) := h
  obtain ⟨A, R, k1, k2, k3, k4⟩ := gather_ok g r e
  have ndA := (List.nodup_append.mp k3.nd).1
  refine ⟨F, os, A, e.sub, k1, ndA, fun p hp => (k3.ow p hp).1, ?_⟩
  -- what stands behind the call
  have back : ∀ {F' H' : Hp}, FnEnd F H A F' H' → EnvR K c F' H' σ ρ2 R ∧ ∀ p ∈ R, H p ≠ none ∧ p ∉ A := fun {F' H'} n => by
   have hRA : ∀ p ∈ R, p ∉ A := fun p hp hq => (List.nodup_append.mp k3.nd).2.2 p hq p hp rfl
   have hR : ∀ p ∈ R, H p ≠ none ∧ p ∉ A := fun p hp => ⟨k2.sl.there p hp, hRA p hp⟩
   refine ⟨⟨n.sub, k2.f0.trans n.fF, fun b o h1 h2 => ?_, fun b h1 h2 h3 => ?_, k2.sl.mono n.fF fun b hb => ?_, k2.nd, fun p hp => ⟨n.nw p (hR p hp).1 (hR p hp).2 (k2.ow p hp).1, (k2.ow p hp).2⟩, k2.fx⟩, hR⟩
   ·refine n.hH b o (k2.h0 b o h1 h2) fun hb => ?_
    rcases (k3.ow b hb).2 with z | z
    ·exact h2 z
    ·rw [h1] at z; cases z
   ·refine n.nw b ?_ (fun hb => ?_) (k2.n0 b h1 h2 h3)
    ·cases q : c.H b with
     | none => exact absurd q h1
     | some o => rw [k2.h0 b o q h2]; simp
    ·rcases (k3.ow b hb).2 with z | z
     ·exact h2 z
     ·exact h1 z
   ·obtain ⟨z1, z2⟩ := hR b hb
    cases q : H b with
    | none => exact absurd q z1
    | some o => exact n.hH b o q z2
  cases fo : f os with
  | bad => rw [fo] at h; exact h.elim
  | ex ξ =>
   rw [fo] at h
   exact fun F' H' cls d n x => h F' H' R cls d (back n).1 x
  | ok r0 outs =>
   rw [fo] at h
   intro F' H' v A' B n sB ow ndB hB
   obtain ⟨e', hR⟩ := back n
   have cr : ∀ p ∈ A' ++ B, p ∈ c.O ∨ c.H p = none := fun p hp => by
    by_cases hc : p ∈ c.O
    ·exact .inl hc
    ·refine .inr ?_
     rcases (hB p hp).2 with z | z
     ·rcases (k3.ow p z).2 with z | z
      ·exact absurd z hc
      ·exact z
     ·cases q : c.H p with
      | none => rfl
      | some o => rw [e.h0 p o q hc] at z; cases z
   have dis : ∀ p ∈ A' ++ B, p ∉ R := fun p hp hr => by
    rcases (hB p hp).2 with z | z
    ·exact (hR p hr).2 z
    ·exact (hR p hr).1 z
   obtain ⟨nA, nB, nAB⟩ := List.nodup_append.mp ndB
   obtain ⟨O', j1, j2, j3⟩ := putBack_ok sB (r.mono n.fF) e'.sl (List.nodup_append.mpr ⟨nB, e'.nd, fun x hx y hy z => dis x (by simp [hx]) (z ▸ hy)⟩)
   refine hP r0 _ F' H' O' A' v h ⟨e'.sub, e'.f0, e'.h0, e'.n0, j1, j2, fun p hp => ?_, e'.fx⟩ n.fF ow ⟨List.nodup_append.mpr ⟨nA, j2, fun x hx y hy z => ?_⟩, fun p hp => ⟨(hB p (by simp [hp])).1, cr p (by simp [hp])⟩⟩
   ·rcases List.mem_append.mp (j3 p hp) with z | z
    ·exact ⟨(hB p (by simp [z])).1, cr p (by simp [z])⟩
    ·exact e'.ow p z
   ·subst z
    rcases List.mem_append.mp (j3 x hy) with z | z
    ·exact nAB x hx x z rfl
    ·exact dis x (by simp [hx]) z
variable {k : Nat} {f : Addr} {fd : FuncData} {ps : List Str} {fn : Fn} {x : Str} {p : Pos}
theorem call_step {σ : Sl} {H : Hp} {Q : VK} (h : to X.K c (mCall fn ms) σ H Q) : tCallS (spF X.K c.ca fn) (WE c.W) (tg X.K c ms) σ H Q := by
 obtain ⟨F, ρ, O, e, h⟩ := h
 refine tg_step e h fun as ρ1 F1 H1 O1 vs h1 e1 s1 r1 => ?_
 exact call_in e1 r1 h1 fun o ρ' F' H' O' A v hp e' s' ow ap => hp F' H' O' A v e' (s1.trans s') ow ap
theorem so_call (G : FnOk X.prog X.w X.K X.mg X.base (L2.CX X.prog X.w) k f fd ps (spF X.K c.ca fn)) (hr : Room k X.A) (hm : X.mg x = some (.ref f)) (hk : PySem.W.keepIn X.K (.ref f) = true) (hb : Binds X.K fd ps []) (tk : Takes X c.W)
  (ha : PA X (e :: es) (tg X.K c ms)) (hg : Gl X x := by rfl) (hdb : (x == ("__debug__" : Str)) = false := by decide) (he : starEach (e :: es) X.env = (false, eval e X.env) :: starEach es X.env := by rfl) (hpl : (backTo pos (starEach es X.env)).any (·.1) = false := by rfl) :
  PE X (.Call (.Name x p) (e :: es) [] pos) (to X.K c (mCall fn ms)) := (pe_callS G hr hg hm hk hb (fun σ => passAt tk σ) ha hdb he hpl).imp fun σ H Q h => call_step h
end
def sSeq (a b : M Fl) : M Fl := fun ρ => (a ρ).bind fun f ρ1 => match f with
 | .nx => b ρ1
 | f => .ok f ρ1
def sNil : M Fl := fun ρ => .ok .nx ρ
def sSet (i : Nat) (m : M D) : M Fl := fun ρ => (m ρ).bind fun x ρ1 => .ok .nx (ρ1.set i (some (.d x)))
def sSetO (i : Nat) (m : M OV) : M Fl := fun ρ => (m ρ).bind fun o ρ1 => .ok .nx (ρ1.set i (some o))
def sRet (m : M OV) : M Fl := fun ρ => (m ρ).bind fun o ρ1 => .ok (.rt o) ρ1
def sDrop (m : M OV) : M Fl := fun ρ => (m ρ).bind fun _ ρ1 => .ok .nx ρ1
section
variable {X : Cx} {c : Ct} {e d : Expr} {st : Stmt} {rest xs ys : List Stmt} {pos pos' : Pos} {p1 p2 pu : Bool} {me : M D} {mo : M OV} {a b : M Fl} {x : Str} {t : M Bool}
theorem ss_nil : PSs X [] (ts X.K c sNil) := pss_nil.imp fun D σ H ⟨F, ρ, O, e, h⟩ => h σ F H O e
theorem ts_next {K : Frag} {m : M Fl} {D : Ends} {b : M Fl} {F H : Hp} {σ : Sl} {ρ : Env} {O : List Addr} (e : EnvR K c F H σ ρ O) (h : (sSeq m b ρ).post (PS' K c D) (PXs K c)) : ts K c m { D with nx := ts K c b D } σ H := by
 refine ⟨F, ρ, O, e, Res.post_imp (Res.post_bind h) (fun f ρ1 h1 => ?_) fun _ _ h => h⟩
 cases f with
 | nx => exact fun σ' F' H' O' e' => ⟨F', ρ1, O', e', h1⟩
 | bk => exact h1
 | ct => exact h1
 | rt o => exact h1
theorem ss_cons (h1 : PS X st (ts X.K c a)) (h2 : PSs X rest (ts X.K c b)) : PSs X (st :: rest) (ts X.K c (sSeq a b)) := (pss_cons h1 h2).imp fun D σ H ⟨F, ρ, O, e, h⟩ => ts_next e h
theorem ss_one (h1 : PS X st (ts X.K c a)) : PSs X [st] (ts X.K c a) := pss_one h1
theorem sv_if (ht : PT X d (tt X.K c pu t)) (ha : PSs X xs (ts X.K c a)) (hb : PSs X ys (ts X.K c b)) : PS X (.If d xs ys pos) (ts X.K c (mIf t a b)) := (ps_if ht ha hb).imp fun D σ H ⟨F, ρ, O, e, h⟩ => by
 refine tt_stepS e h fun x ρ1 F1 H1 O1 h1 e1 s1 p1 => ?_
 cases x with
 | true =>
  rw [if_pos rfl] at h1 ⊢
  exact ⟨F1, ρ1, O1, e1, h1⟩
 | false =>
  rw [if_neg Bool.false_ne_true] at h1 ⊢
  exact ⟨F1, ρ1, O1, e1, h1⟩
theorem slen (hi : X.N[i]? = some x) {pins : List (Addr × Obj)} {σ : Sl} {H : Hp} {s : Shared} (I : Inv X pins σ H s) : i < σ.length := by rw [I.len]; exact (List.getElem?_eq_some_iff.mp hi).1
theorem sv_set {i : Nat} (hN : X.N.Nodup) (he : PE X e (te X.K c false pu me)) (hi : X.N[i]? = some x := by rfl) (hx : Loc X.env.scope x := by first | exact Or.inl rfl | exact Or.inr rfl) (hs : swapsWith e (some (.Name x pos')) pos.line X.env = pure false := by rfl)
  (hc : (c.fx.all fun j => j != i) = true := by rfl) (hf : X.fn x = true ∨ X.env.scope.names.lookup x = some .local := by first | exact .inl rfl | exact .inr rfl) : PS X (.Assign [.Name x pos'] e pos) (ts X.K c (sSet i me)) := ⟨fun pins s σ H D I h => by
 refine (ps_set hN hi hx he hs hf).run pins s σ H D I ?_
 obtain ⟨F, ρ, O, e, h⟩ := h
 refine te_stepS e h fun x ρ1 F1 H1 O1 v h1 e1 s1 q1 v1 => ?_
 obtain ⟨O', e'⟩ := e1.putD v1 (slen hi I) hc
 exact h1 _ F1 H1 O' e'⟩
theorem sv_setO {i : Nat} (hN : X.N.Nodup) (he : PE X e (to X.K c mo)) (hi : X.N[i]? = some x := by rfl) (hx : Loc X.env.scope x := by first | exact Or.inl rfl | exact Or.inr rfl) (hs : swapsWith e (some (.Name x pos')) pos.line X.env = pure false := by rfl)
  (hc : (c.fx.all fun j => j != i) = true := by rfl) (hf : X.fn x = true ∨ X.env.scope.names.lookup x = some .local := by first | exact .inl rfl | exact .inr rfl) : PS X (.Assign [.Name x pos'] e pos) (ts X.K c (sSetO i mo)) := ⟨fun pins s σ H D I h => by
 refine (ps_set hN hi hx he hs hf).run pins s σ H D I ?_
 obtain ⟨F, ρ, O, e, h⟩ := h
 refine to_stepS e h fun x ρ1 F1 H1 O1 A v h1 e1 s1 r1 a1 => ?_
 obtain ⟨O', e'⟩ := e1.put r1 a1 (slen hi I) hc
 exact h1 _ F1 H1 O' e'⟩
theorem sv_ret (he : PE X e (to X.K c mo)) : PS X (.Return (some e) pos) (ts X.K c (sRet mo)) := (ps_ret he).imp fun D σ H ⟨F, ρ, O, e, h⟩ =>
 to_stepS e h fun o ρ1 F1 H1 O1 A v h1 e1 s1 r1 a1 => h1 σ F1 H1 O1 A v e1 r1 a1
theorem sv_expr (he : PE X e (to X.K c mo)) (hs : swapsWith e none pos.line X.env = pure false := by rfl) : PS X (.Expr e pos) (ts X.K c (sDrop mo)) := (ps_expr he hs).imp fun D σ H ⟨F, ρ, O, e, h⟩ =>
 to_stepS e h fun o ρ1 F1 H1 O1 A v h1 e1 s1 r1 a1 => h1 σ F1 H1 O1 e1
end
def outsOf (fx : List Nat) (ρ' : Env) : Nat → List OV → Env
 | _, [] => []
 | i, o :: os => (if fx.contains i = true then (match ρ'[i]? with
  | some w => w
  | none => none) else match o with
  | .d x => some (.d x)
  | _ => none) :: outsOf fx ρ' (i + 1) os
def fnOf (n np : Nat) (fx : List Nat) (m : M Fl) : Fn := fun os => if os.length = np then (match m (os.map some ++ List.replicate (n - np) none) with
 | .ok (.rt o) ρ' => .ok o (outsOf fx ρ' 0 os)
 | .ok .nx ρ' => .ok (.d .none) (outsOf fx ρ' 0 os)
 | .ok _ _ => .bad
 | .ex ξ _ => .ex ξ
 | .bad => .bad) else .bad
section
variable {K : Frag} {ca : Str → Addr} {F H : Hp}
theorem SlR.none (K : Frag) (ca : Str → Addr) (F H : Hp) : ∀ σ : Sl, SlR K ca F H σ (List.replicate σ.length none) []
 | [] => .nil
 | _ :: σ => .no (SlR.none K ca F H σ)
theorem SlR.append : ∀ {σ τ : Sl} {ρ π : Env} {O B : List Addr}, SlR K ca F H σ ρ O → SlR K ca F H τ π B → SlR K ca F H (σ ++ τ) (ρ ++ π) (O ++ B)
 | _, _, _, _, _, _, .nil, s => s
 | _, _, _, _, _, _, .no r, s => .no (r.append s)
 | _, _, _, _, _, _, .so (A := A) (O := O) h r, s => by
  rw [List.append_assoc]
  exact .so h (r.append s)
theorem outs_ok {fx : List Nat} : ∀ {os : List OV} {vs : List V} {ρ' : Env} {σ' : Sl} {O B : List Addr} (i : Nat) (F0 H0 : Hp) (pre : Sl), SlR K ca F0 H0 (vs.map some) (os.map some) B → Same F0 F → SlR K ca F H σ' ρ' O → O.Nodup →
  (∀ j ∈ fx, i ≤ j → σ'[j]? = (vs.map some)[j - i]? ∨ (vs.map some)[j - i]? = Option.none) → ∃ B' R, SlR K ca F H (vs.map some) (outsOf fx ρ' i os) B' ∧ O.Perm (B' ++ R)
 | [], [], ρ', σ', O, B, i, F0, H0, pre, h, s, e, n, k => ⟨[], O, .nil, List.Perm.refl _⟩
 | [], v :: vs, _, _, _, _, _, _, _, _, h, _, _, _, _ => by cases h
 | o :: os, [], _, _, _, _, _, _, _, _, h, _, _, _, _ => by cases h
 | o :: os, v :: vs, ρ', σ', O, B, i, F0, H0, pre, h, s, e, n, k => by
  have h' : SlR K ca F0 H0 (some v :: vs.map some) (some o :: os.map some) B := h
  cases h' with
  | so g r =>
   have k' : ∀ j ∈ fx, i + 1 ≤ j → σ'[j]? = (vs.map some)[j - (i + 1)]? ∨ (vs.map some)[j - (i + 1)]? = Option.none := fun j hj hl => by
    have q := k j hj (by omega)
    have e1 : j - i = (j - (i + 1)) + 1 := by omega
    rw [e1, List.map_cons, List.getElem?_cons_succ] at q
    exact q
   by_cases hi : fx.contains i = true
   ·have q := k i (by simpa using hi) (Nat.le_refl _)
    rw [Nat.sub_self, List.map_cons, List.getElem?_cons_zero] at q
    have q : σ'[i]? = some (some v) := by
     rcases q with q | q
     ·exact q
     ·cases q
    cases w : ρ'[i]? with
    | none =>
     obtain ⟨B', R, z1, z2⟩ := outs_ok (os := os) (i + 1) F0 H0 pre r s e n k'
     refine ⟨B', R, ?_, z2⟩
     unfold outsOf
     rw [if_pos hi, w]
     exact .no z1
    | some w' =>
     cases w' with
     | none =>
      obtain ⟨B', R, z1, z2⟩ := outs_ok (os := os) (i + 1) F0 H0 pre r s e n k'
      refine ⟨B', R, ?_, z2⟩
      unfold outsOf
      rw [if_pos hi, w]
      exact .no z1
     | some o' =>
      obtain ⟨v', A, R, t1, t2, t3, t4⟩ := e.at w
      rw [q] at t1; cases t1
      obtain ⟨u1, _⟩ := t4 F H (Same.refl _) fun _ _ => rfl
      have nd := t3.nodup_iff.mp n
      -- the others' outs off the slots without i
      have oo : outsOf fx ρ' (i + 1) os = outsOf fx (ρ'.set i none) (i + 1) os := by
       have gen : ∀ (os : List OV) (j : Nat), i < j → outsOf fx ρ' j os = outsOf fx (ρ'.set i none) j os := by
        intro os
        induction os with
        | nil => intro j _; rfl
        | cons o os ih =>
         intro j hj
         unfold outsOf
         rw [ih (j + 1) (by omega), List.getElem?_set_ne (Nat.ne_of_lt hj)]
       exact gen os (i + 1) (Nat.lt_succ_self i)
      obtain ⟨B', R', z1, z2⟩ := outs_ok (os := os) (i + 1) F0 H0 pre r s u1 (List.nodup_append.mp nd).2.1 k'
      refine ⟨A ++ B', R', ?_, ?_⟩
      ·unfold outsOf
       rw [if_pos hi, w, oo]
       exact .so t2 z1
      ·rw [List.append_assoc]
       exact t3.trans (List.Perm.append_left A z2)
   ·obtain ⟨B', R, z1, z2⟩ := outs_ok (os := os) (i + 1) F0 H0 pre r s e n k'
    refine ⟨B', R, ?_, z2⟩
    unfold outsOf
    rw [if_neg hi]
    cases o with
    | d x =>
     cases g with
     | d g => exact .so (.d (g.mono s)) z1
    | lst _ => exact .no z1
    | dct _ => exact .no z1
    | dctT _ => exact .no z1
    | obj _ _ => exact .no z1
    | tup _ => exact .no z1
end
section
variable {P : Program} {w : World} {K : Frag} {mg : Str → Option Value} {base : Heap} {x qual : Str} {params : Arguments} {body : List Stmt} {scope : Scope} {dvs : List V} {kws : List (Str × V)} {f : Addr} {fd : FuncData} {N ps : List Str} {k : Nat}
theorem fn_rule {ca : Str → Addr} {m : M Fl} (fx : List Nat) (Fd : FunD K x qual params body scope dvs kws f fd) (S : FnScope N ps scope)
  (hb : ∀ (cdv : Value) (A : Around) (outer : List PySem.Env) (s : Shared) (H : Hp) (E : XK) (F : Hp) (O : List Addr) (σ : Sl), Room k (A.deeper (envOfC qual scope s.heap.objs.size f cdv)) →
   Takes (cxOf (L2.CX P w) P w K mg base N qual scope f cdv A outer s H E) (fun cls d _ H' => E cls d H') →
   PSs (cxOf (L2.CX P w) P w K mg base N qual scope f cdv A outer s H E) body (ts K ⟨ca, F, H, O, fx, σ, fun cls d _ H' => E cls d H'⟩ m)) :
  FnOk P w K mg base (L2.CX P w) (k + 1) f fd ps (spF K ca (fnOf N.length ps.length fx m)) := by
 have lenO : ∀ {os : List OV} {vs : List V} {H : Hp} {F : Hp} {O : List Addr}, SlR K ca F H (vs.map some) (os.map some) O → vs.length = os.length := fun {os vs H F O} h => by
  have := h.length
  rwa [List.length_map, List.length_map] at this
 refine Fd.ok S (fun vs H Q E h => ?_) fun cdv A outer s H vs Q E hr h => ?_
 ·obtain ⟨F, os, O, h1, h2, h3, h4, h5⟩ := h
  rw [lenO h2]
  unfold fnOf at h5
  by_cases hl : os.length = ps.length
  ·exact hl
  ·rw [if_neg hl] at h5
   exact h5.elim
 ·obtain ⟨F, os, O, h1, h2, h3, h4, h5⟩ := h
  unfold fnOf at h5
  by_cases hl : os.length = ps.length
  ·rw [if_pos hl] at h5
   refine ⟨_, hb cdv A outer s H E F O (start N vs) hr (takes_of rfl rfl rfl rfl), F, os.map some ++ List.replicate (N.length - ps.length) none, O, ?_, ?_⟩
   ·refine ⟨h1, Same.refl _, fun b o q _ => q, fun b _ _ q => q, ?_, h3, fun p hp => ⟨h4 p hp, .inl hp⟩, fun i _ => rfl⟩
    have z := h2.append (SlR.none K ca F H (List.replicate (N.length - vs.length) none))
    rw [List.append_nil, List.length_replicate, lenO h2, hl] at z
    unfold L2.start
    rw [lenO h2, hl]
    exact z
   ·-- the end
    have fin : ∀ {σ' : Sl} {F' H' : Hp} {O' : List Addr} {ρ' : Env}, EnvR K ⟨ca, F, H, O, fx, start N vs, fun cls d _ H' => E cls d H'⟩ F' H' σ' ρ' O' →
      FnEnd F H O F' H' ∧ ∃ B R, SlR K ca F' H' (vs.map some) (outsOf fx ρ' 0 os) B ∧ O'.Perm (B ++ R) := fun {σ' F' H' O' ρ'} e => by
     refine ⟨⟨e.f0, e.sub, e.h0, fun b h1 h2 h3 => e.n0 b h1 h2 h3⟩, ?_⟩
     refine outs_ok 0 F H σ' h2 e.f0 e.sl e.nd fun j hj _ => ?_
     have q := e.fx j hj
     rw [q, Nat.sub_zero]
     unfold L2.start
     by_cases hj2 : j < (vs.map some).length
     ·exact .inl (List.getElem?_append_left hj2)
     ·exact .inr (List.getElem?_eq_none (Nat.le_of_not_lt hj2))
    cases r : m (os.map some ++ List.replicate (N.length - ps.length) none) with
    | bad => rw [r] at h5; exact h5.elim
    | ex ξ ρ' =>
     rw [r] at h5
     exact fun σ' F' H' O' cls d e x => h5 F' H' cls d (fin e).1 x
    | ok fl ρ' =>
     rw [r] at h5
     cases fl with
     | bk => exact h5.elim
     | ct => exact h5.elim
     | nx =>
      intro σ' F' H' O' e
      obtain ⟨n, B, R, z1, z2⟩ := fin e
      have nd := z2.nodup_iff.mp e.nd
      exact h5 F' H' .non [] B n z1 (.d .non) (List.nodup_append.mp nd).1 fun p hp => e.ow p (z2.mem_iff.mpr (by simp at hp; simp [hp]))
     | rt o =>
      intro σ' F' H' O' A1 v e r1 a1
      obtain ⟨n, B, R, z1, z2⟩ := fin e
      have nd := z2.nodup_iff.mp e.nd
      obtain ⟨q1, q2, q3⟩ := List.nodup_append.mp a1.nd
      refine h5 F' H' v A1 B n z1 r1 (List.nodup_append.mpr ⟨q1, (List.nodup_append.mp nd).1, fun x hx y hy => q3 x hx y (z2.mem_iff.mpr (by simp [hy]))⟩) fun p hp => ?_
      rcases List.mem_append.mp hp with z | z
      ·exact a1.ow p z
      ·exact e.ow p (z2.mem_iff.mpr (by simp [z]))
  ·rw [if_neg hl] at h5
   exact h5.elim
end
end DL
end
section
namespace DL
open PySem PySem.Spec PyProof.Rows L2
section
variable {K : Frag} {F H : Hp} {v : V}
theorem inv_int {i : Int} (h : RpB K F H v (.int i)) : v = .int i := by cases h with | d r => cases r; rfl
theorem inv_str {x : Str} (h : RpB K F H v (.str x)) : v = .str x := by cases h with | d r => cases r; rfl
theorem inv_bool {b : Bool} (h : RpB K F H v (.bool b)) : v = .bl b := by cases h with | d r => cases r; rfl
theorem inv_none (h : RpB K F H v .none) : v = .non := by cases h with | d r => cases r; rfl
theorem inv_list {ds : List D} (s : Same F H) (h : RpB K F H v (.list ds)) : ∃ p vs, v = .ref p ∧ H p = some (.lst vs) ∧ RpAll K F vs ds := by
 cases h with
 | d r => cases r with | lst h r => exact ⟨_, _, rfl, s _ _ h, r⟩
 | lst h r => exact ⟨_, _, rfl, h, r⟩
theorem inv_tup {ds : List D} (h : RpB K F H v (.tuple ds)) : ∃ p vs, v = .ref p ∧ TupN K F p vs ∧ RpAll K F vs ds := by
 cases h with
 | d r => cases r with | tup h r => exact ⟨_, _, rfl, h, r⟩
theorem zip_head {α β γ : Type} {f : α → γ} {kvs : List α} {ds : List β} {x : γ} {y : β} {r : List (γ × β)} (h : (kvs.map f).zip ds = (x, y) :: r) : ∃ a, a ∈ kvs ∧ f a = x := by
 cases kvs with
 | nil => simp at h
 | cons a kvs =>
  cases ds with
  | nil => simp at h
  | cons d ds =>
   simp at h
   exact ⟨a, List.mem_cons_self, h.1.1⟩
theorem inv_scr {ds : List D} (s : Same F H) (h : RpB K F H v (.dict [(.none, .list ds)])) : ∃ p vs, v = .ref p ∧ SqL K H p vs ∧ RpAll K F vs ds := by
 have no : ∀ {k : Key}, kD k ≠ PyData.none := fun {k} e => by cases k <;> cases e
 generalize e : PyData.dict [(PyData.none, PyData.list ds)] = z at h
 cases h with
 | d r =>
  cases r with
  | scr h r =>
   cases e
   exact ⟨_, _, rfl, sq_l s h, r⟩
  | dcK h r =>
   obtain ⟨a, _, e2⟩ := zip_head (PyData.dict.inj e).symm
   exact absurd e2 no
  | _ => cases e
 | lst h r => cases e
 | dcK h r =>
  obtain ⟨a, _, e2⟩ := zip_head (PyData.dict.inj e).symm
  exact absurd e2 no
end
mutual
theorem Rp.dp {K : Frag} {F : Hp} : ∀ {v : V} {x : D}, Rp K F v x → x.canLay0 = true → Dp K F v x
 | _, _, .non, _ => .non
 | _, _, .bl b, _ => .bl b
 | _, _, .int i, _ => .int i
 | _, _, .str x, _ => .str x
 | _, _, .lst h r, q => .lst (.of h) (RpAll.dp r q)
 | _, _, .tup h r, q => .tup h.seq (RpAll.dp r q)
 | _, _, .scr _ _, q => by simp [PyData.canLay0] at q
 | _, _, .dcK _ _, q => by simp [PyData.canLay0] at q
theorem RpAll.dp {K : Frag} {F : Hp} : ∀ {vs : List V} {xs : List D}, RpAll K F vs xs → PyData.canLayAll0 xs = true → DpAll K F vs xs
 | _, _, .nil, _ => .nil
 | _, _, .cons h r, q => by
  obtain ⟨q1, q2⟩ : _ ∧ _ := by simpa [PyData.canLayAll0] using q
  exact .cons (Rp.dp h q1) (RpAll.dp r q2)
end
section
variable {X : Cx}
theorem opr_imp {f : Value → Value → Sem Value} {r r' : R2} (h : OpR X f r) (k : ∀ v w H Q, r' v w H Q → r v w H Q) : OpR X f r' := fun pins s σ H x y v u Q I rx ry q => h pins s σ H x y v u Q I rx ry (k x y H Q q)
def addD : D → D → Option D
 | .int i, .int j => some (.int (i + j))
 | .str x, .str y => if x.length + y.length ≤ sizeLine then some (.str (x ++ y)) else none
 | .tuple xs, .tuple ys => if xs.length + ys.length ≤ sizeLine then some (.tuple (xs ++ ys)) else none
 | .list xs, .list ys => if xs.length + ys.length ≤ sizeLine then some (.list (xs ++ ys)) else none
 | _, _ => none
theorem od_add : OpR X (binaryOp .Add) (rD X.K addD) := by
 refine opr_imp (op_add.or (op_add_str.or (op_catF.or op_cat))) fun v w H Q ⟨F, x, y, z, s, rv, rw', hz, q⟩ => ?_
 unfold addD at hz
 split at hz
 ·cases hz
  exact .inl ⟨_, _, inv_int rv, inv_int rw', q F H _ (New.refl s) (.int _)⟩
 ·split at hz
  ·rename_i hl
   cases hz
   exact .inr (.inl ⟨_, _, inv_str rv, inv_str rw', hl, q F H _ (New.refl s) (.str _)⟩)
  ·cases hz
 ·split at hz
  ·rename_i hl
   cases hz
   obtain ⟨a, vs, e1, h1, r1⟩ := inv_tup rv
   obtain ⟨b, ws, e2, h2, r2⟩ := inv_tup rw'
   refine .inr (.inr (.inl ⟨a, b, vs, ws, e1, e2, sq_t s h1.seq, sq_t s h2.seq, by rw [r1.length, r2.length]; exact hl, fun e => ?_, fun _ e => ?_, fun _ _ p ob hp hob => ?_⟩))
   ·subst e
    cases r1
    exact q F H _ (New.refl s) (.tup h2 r2)
   ·subst e
    cases r2
    rw [List.append_nil] at q
    exact q F H _ (New.refl s) (.tup h1 r1)
   ·have n := New.one s hp (.frz ob (.tup (vs ++ ws)))
    exact q _ _ _ n (.tup (.inl ⟨ob, upd_same, hob⟩) ((r1.append r2).mono n.fF))
  ·cases hz
 ·split at hz
  ·rename_i hl
   cases hz
   obtain ⟨a, vs, e1, h1, r1⟩ := inv_list s rv
   obtain ⟨b, ws, e2, h2, r2⟩ := inv_list s rw'
   refine .inr (.inr (.inr ⟨a, b, vs, ws, e1, e2, h1, h2, by rw [r1.length, r2.length]; exact hl, fun p hp => ?_⟩))
   have n := New.one s hp (.lst (vs ++ ws))
   exact q _ _ _ n (.lst upd_same ((r1.append r2).mono n.fF))
  ·cases hz
 ·cases hz
def subD : D → D → Option D
 | .int i, .int j => some (.int (i - j))
 | _, _ => none
theorem od_sub : OpR X (binaryOp .Sub) (rD X.K subD) := by
 refine opr_imp op_sub fun v w H Q ⟨F, x, y, z, s, rv, rw', hz, q⟩ => ?_
 unfold subD at hz
 split at hz
 ·cases hz
  exact ⟨_, _, inv_int rv, inv_int rw', q F H _ (New.refl s) (.int _)⟩
 ·cases hz
instance : DecidableRel CMulW := fun i j => inferInstanceAs (Decidable (i.natAbs.log2 + j.natAbs.log2 < 1000000))
instance : DecidableRel CDivW := fun _ j => inferInstanceAs (Decidable (0 < j ∧ j.natAbs.log2 < 9000))
theorem rep_size (c : Array Nat) : ∀ (n : Nat) (a : Array Nat), ((List.replicate n c).foldl (· ++ ·) a).size = a.size + n * c.size
 | 0, a => by simp
 | n + 1, a => by
  rw [List.replicate_succ, List.foldl_cons, rep_size c n, Array.size_append, Nat.succ_mul]
  omega
def repS (z : Str) (n : Nat) : Str := ⟨(List.replicate n z.cps).foldl (· ++ ·) #[]⟩
theorem op_mulS : OpR X (binaryOp .Mult) (fun x y H Q => ∃ z n, x = .str z ∧ y = .int n ∧ 1 < n ∧ n < 2 ^ 20 ∧ 0 < z.length ∧ z.length * n.toNat ≤ 4096 ∧ Q (.str (repS z n.toNat)) H) := by
 intro pins s σ H x y v u Q I rx ry h
 obtain ⟨z, n, rfl, rfl, h1, h2, h3, h4, q⟩ := h
 obtain ⟨t, rfl⟩ := rx
 obtain ⟨t', rfl⟩ := ry
 have c1 : ¬ n < 1 := by omega
 have c2 : (n == 1 || z.length == 0) = false := by
  have a : (n == 1) = false := beq_eq_false_iff_ne.mpr (by omega)
  have b : (z.length == 0) = false := beq_eq_false_iff_ne.mpr (by omega)
  rw [a, b]; rfl
 refine PySem.P.mul_str (by
  have a : ¬ n < -(2 ^ 63 : Int) := by omega
  have b : ¬ n ≥ 2 ^ 63 := by omega
  rw [decide_eq_false a, decide_eq_false b]; rfl) (fun _ _ => ?_) (fun _ _ => ?_) ?_
 ·have hz : (z.length : Int) ≤ 4096 := by
   have : z.length * 1 ≤ z.length * n.toNat := Nat.mul_le_mul_left _ (by omega)
   omega
  have : (4096 : Int) ≤ (2 ^ 63 - 1) / n := by
   refine (Int.le_ediv_iff_mul_le (by omega)).mpr ?_
   omega
  omega
 ·have : (4096 : Nat) ≤ sizeLine := by decide
  exact decide_eq_false (by omega)
 ·rw [if_neg c1, c2]
  refine ⟨?_, ⟨.str (repS z n.toNat), H, I.tok _, ⟨_, rfl⟩, q⟩⟩
  have : (4096 : Nat) ≤ sizeLine := by decide
  show ((List.replicate n.toNat z.cps).foldl (· ++ ·) #[]).size ≤ sizeLine
  rw [rep_size]
  have e : n.toNat * z.cps.size = z.length * n.toNat := Nat.mul_comm _ _
  rw [e]
  simp
  omega
def mulD : D → D → Option D
 | .str z, .int n => if 1 < n ∧ n < 2 ^ 20 ∧ 0 < z.length ∧ z.length * n.toNat ≤ 4096 then some (.str (repS z n.toNat)) else none
 | .int i, .int j => if CMulW i j then some (.int (i * j)) else none
 | .list xs, .int k => if -(2 ^ 63) ≤ k ∧ k < 2 ^ 63 ∧ xs.length * k.toNat ≤ sizeLine then some (.list (List.replicate k.toNat xs).flatten) else none
 | _, _ => none
theorem RpAll.rep {K : Frag} {F : Hp} {vs : List V} {xs : List D} (h : RpAll K F vs xs) : ∀ k : Nat, RpAll K F (List.replicate k vs).flatten (List.replicate k xs).flatten
 | 0 => .nil
 | k + 1 => by
  rw [List.replicate_succ, List.replicate_succ, List.flatten_cons, List.flatten_cons]
  exact h.append (RpAll.rep h k)
theorem od_mul : OpR X (binaryOp .Mult) (rD X.K mulD) := by
 refine opr_imp (op_mulS.or (op_mulW.or op_rep)) fun v w H Q ⟨F, x, y, z, s, rv, rw', hz, q⟩ => ?_
 unfold mulD at hz
 split at hz
 ·split at hz
  ·rename_i hc
   cases hz
   exact .inl ⟨_, _, inv_str rv, inv_int rw', hc.1, hc.2.1, hc.2.2.1, hc.2.2.2, q F H _ (New.refl s) (.str _)⟩
  ·cases hz
 ·split at hz
  ·rename_i hc
   cases hz
   exact .inr (.inl ⟨_, _, inv_int rv, inv_int rw', hc, q F H _ (New.refl s) (.int _)⟩)
  ·cases hz
 ·split at hz
  ·rename_i hc
   cases hz
   obtain ⟨a, vs, e1, h1, r1⟩ := inv_list s rv
   refine .inr (.inr ⟨a, _, vs, e1, inv_int rw', h1, hc.1, hc.2.1, by rw [r1.length]; exact hc.2.2, fun p hp => ?_⟩)
   exact q _ _ _ (New.one s hp _) (.lst upd_same ((r1.rep _).mono (New.one s hp _).fF))
  ·cases hz
 ·cases hz
def divD : D → D → Option D
 | .int i, .int j => if CDivW i j then some (.int (i / j)) else none
 | _, _ => none
theorem od_div : OpR X (binaryOp .FloorDiv) (rD X.K divD) := by
 refine opr_imp op_fdivW fun v w H Q ⟨F, x, y, z, s, rv, rw', hz, q⟩ => ?_
 unfold divD at hz
 split at hz
 ·split at hz
  ·rename_i hc
   cases hz
   exact ⟨_, _, inv_int rv, inv_int rw', hc, q F H _ (New.refl s) (.int _)⟩
  ·cases hz
 ·cases hz
def modD : D → D → Option D
 | .int i, .int j => if 0 < j then some (.int (i % j)) else none
 | _, _ => none
theorem od_mod : OpR X (binaryOp .Mod) (rD X.K modD) := by
 refine opr_imp op_mod fun v w H Q ⟨F, x, y, z, s, rv, rw', hz, q⟩ => ?_
 unfold modD at hz
 split at hz
 ·split at hz
  ·rename_i hc
   cases hz
   exact ⟨_, _, inv_int rv, inv_int rw', hc, q F H _ (New.refl s) (.int _)⟩
  ·cases hz
 ·cases hz
instance : DecidableRel CPow := fun i j => inferInstanceAs (Decidable (0 ≤ j ∧ j ≤ 1000000 ∧ i.natAbs < 2 ^ 64))
def powD : D → D → Option D
 | .int i, .int j => if CPow i j then some (.int (i ^ j.toNat)) else none
 | _, _ => none
theorem od_pow : OpR X (binaryOp .Pow) (rD X.K powD) := by
 refine opr_imp op_pow fun v w H Q ⟨F, x, y, z, s, rv, rw', hz, q⟩ => ?_
 unfold powD at hz
 split at hz
 ·split at hz
  ·rename_i hc
   cases hz
   exact ⟨_, _, inv_int rv, inv_int rw', hc, q F H _ (New.refl s) (.int _)⟩
  ·cases hz
 ·cases hz
def ltD : D → D → Option D
 | .int i, .int j => some (.bool (decide (i < j)))
 | _, _ => none
def leD : D → D → Option D
 | .int i, .int j => some (.bool (decide (i ≤ j)))
 | _, _ => none
def gtD : D → D → Option D
 | .int i, .int j => some (.bool (decide (j < i)))
 | _, _ => none
def geD : D → D → Option D
 | .int i, .int j => some (.bool (decide (j ≤ i)))
 | _, _ => none
theorem od_lt : OpR X (compareOp .Lt) (rD X.K ltD) := by
 refine opr_imp op_lt fun v w H Q ⟨F, x, y, z, s, rv, rw', hz, q⟩ => ?_
 unfold ltD at hz
 split at hz
 ·cases hz
  exact ⟨_, _, inv_int rv, inv_int rw', q F H _ (New.refl s) (.bl _)⟩
 ·cases hz
theorem od_le : OpR X (compareOp .LtE) (rD X.K leD) := by
 refine opr_imp op_le fun v w H Q ⟨F, x, y, z, s, rv, rw', hz, q⟩ => ?_
 unfold leD at hz
 split at hz
 ·cases hz
  exact ⟨_, _, inv_int rv, inv_int rw', q F H _ (New.refl s) (.bl _)⟩
 ·cases hz
theorem od_gt : OpR X (compareOp .Gt) (rD X.K gtD) := by
 refine opr_imp op_gt fun v w H Q ⟨F, x, y, z, s, rv, rw', hz, q⟩ => ?_
 unfold gtD at hz
 split at hz
 ·cases hz
  exact ⟨_, _, inv_int rv, inv_int rw', q F H _ (New.refl s) (.bl _)⟩
 ·cases hz
theorem od_ge : OpR X (compareOp .GtE) (rD X.K geD) := by
 refine opr_imp op_ge fun v w H Q ⟨F, x, y, z, s, rv, rw', hz, q⟩ => ?_
 unfold geD at hz
 split at hz
 ·cases hz
  exact ⟨_, _, inv_int rv, inv_int rw', q F H _ (New.refl s) (.bl _)⟩
 ·cases hz
def eqD : D → D → Option D
 | .str x, .str y => some (.bool (decide (x = y)))
 | .list (_ :: _), .list [] => some (.bool false)
 | x, y => if SeqAt.shaped x = true ∧ SeqAt.shaped y = true then some (.bool (PyData.eqv x y)) else none
def neD : D → D → Option D
 | .str x, .str y => some (.bool (!decide (x = y)))
 | .list (_ :: _), .list [] => some (.bool true)
 | x, y => if SeqAt.shaped x = true ∧ SeqAt.shaped y = true then some (.bool (!PyData.eqv x y)) else none
theorem dec_vstr (x y : Str) : decide (V.str x = V.str y) = decide (x = y) := by
 by_cases h : x = y
 ·rw [decide_eq_true h, h, decide_eq_true rfl]
 ·rw [decide_eq_false h, decide_eq_false fun e => h (V.str.inj e)]
theorem dp_of {K : Frag} {F H : Hp} {v : V} {x : D} (s : Same F H) (h : RpB K F H v x) (q : SeqAt.shaped x = true) : Dp K H v x := by
 have q := SeqAt.canLay_of_shaped q
 cases h with
 | d r => exact (r.mono s).dp q
 | lst h r => exact .lst (.of h) (RpAll.dp (r.mono s) (by simpa [PyData.canLay0] using q))
 | dcK _ _ => simp [PyData.canLay0] at q
theorem lst_of {K : Frag} {F H : Hp} {v : V} {ds : List D} (s : Same F H) (h : RpB K F H v (.list ds)) : ∃ a xs, v = .ref a ∧ SqL K H a xs ∧ xs.length = ds.length := by
 cases h with
 | d r => cases r with
  | lst h r => exact ⟨_, _, rfl, .of (s _ _ h), r.length⟩
 | lst h r => exact ⟨_, _, rfl, .of h, r.length⟩
def rLen (K : Frag) (b : Bool) : R2 := fun x y H Q => ∃ a c xs ys, x = .ref a ∧ y = .ref c ∧ SqL K H a xs ∧ SqL K H c ys ∧ xs.length ≠ ys.length ∧ Q (.bl b) H
theorem op_eqLen (hu : X.A.units + 64 < cLine) : OpR X (compareOp .Eq) (rLen X.K false) := by
 intro pins s σ H x y v u Q I rx ry h
 obtain ⟨a, b, xs, ys, rfl, rfl, ha, hb, hl, q⟩ := h
 cases (show v = Value.ref a from rx)
 cases (show u = Value.ref b from ry)
 obtain ⟨us, r1, p1, _⟩ := I.list ha
 obtain ⟨ws, r2, p2, _⟩ := I.list hb
 have hz : (us.toArray.size != ws.toArray.size) = true := by
  rw [List.size_toArray, List.size_toArray, ← r1.length, ← r2.length]
  simpa using hl
 exact SeqAt.RcAt.lists_lengths p1.isList p2.isList hz (by omega) X.prog X.w X.xe _ ⟨.bl false, H, I, rfl, q⟩
theorem op_neLen (hu : X.A.units + 64 < cLine) : OpR X (compareOp .NotEq) (rLen X.K true) := by
 intro pins s σ H x y v u Q I rx ry h
 obtain ⟨a, b, xs, ys, rfl, rfl, ha, hb, hl, q⟩ := h
 cases (show v = Value.ref a from rx)
 cases (show u = Value.ref b from ry)
 obtain ⟨us, r1, p1, _⟩ := I.list ha
 obtain ⟨ws, r2, p2, _⟩ := I.list hb
 have hz : (us.toArray.size != ws.toArray.size) = true := by
  rw [List.size_toArray, List.size_toArray, ← r1.length, ← r2.length]
  simpa using hl
 exact SeqAt.RcNeAt.lists_lengths p1.isList p2.isList hz (by omega) X.prog X.w X.xe _ ⟨.bl true, H, I, rfl, q⟩
theorem od_eq (hu : X.A.units + 64 < cLine) : OpR X (compareOp .Eq) (rD X.K eqD) := by
 refine opr_imp ((op_eq.or (op_eqD hu)).or (op_eqLen hu)) fun v w H Q ⟨F, x, y, z, s, rv, rw', hz, q⟩ => ?_
 unfold eqD at hz
 split at hz
 ·cases hz
  rw [inv_str rv, inv_str rw']
  refine .inl (.inl ⟨rfl, ?_⟩)
  rw [dec_vstr]
  exact q F H _ (New.refl s) (.bl _)
 ·cases hz
  obtain ⟨a, xs, rfl, h1, l1⟩ := lst_of s rv
  obtain ⟨b, ys, rfl, h2, l2⟩ := lst_of s rw'
  exact .inr ⟨a, b, xs, ys, rfl, rfl, h1, h2, by rw [l1, l2]; simp, q F H _ (New.refl s) (.bl _)⟩
 ·split at hz
  ·rename_i hc
   cases hz
   exact .inl (.inr ⟨_, _, dp_of s rv hc.1, dp_of s rw' hc.2, hc.1, hc.2, q F H _ (New.refl s) (.bl _)⟩)
  ·cases hz
theorem od_ne (hu : X.A.units + 64 < cLine) : OpR X (compareOp .NotEq) (rD X.K neD) := by
 refine opr_imp ((op_ne.or (op_neD hu)).or (op_neLen hu)) fun v w H Q ⟨F, x, y, z, s, rv, rw', hz, q⟩ => ?_
 unfold neD at hz
 split at hz
 ·cases hz
  rw [inv_str rv, inv_str rw']
  refine .inl (.inl ⟨rfl, ?_⟩)
  rw [dec_vstr]
  exact q F H _ (New.refl s) (.bl _)
 ·cases hz
  obtain ⟨a, xs, rfl, h1, l1⟩ := lst_of s rv
  obtain ⟨b, ys, rfl, h2, l2⟩ := lst_of s rw'
  exact .inr ⟨a, b, xs, ys, rfl, rfl, h1, h2, by rw [l1, l2]; simp, q F H _ (New.refl s) (.bl _)⟩
 ·split at hz
  ·rename_i hc
   cases hz
   exact .inl (.inr ⟨_, _, dp_of s rv hc.1, dp_of s rw' hc.2, hc.1, hc.2, q F H _ (New.refl s) (.bl _)⟩)
  ·cases hz
def allStr (xs : List D) : Option (List Str) := match xs with
 | [] => some []
 | .str x :: r => (allStr r).map fun l => x :: l
 | _ => none
def memD (x : D) (xs : List D) : Option Bool := match x, allStr xs with
 | .str z, some l => some (decide (z ∈ l))
 | _, _ => if SeqAt.shaped x = true ∧ SeqAt.shaped (.list xs) = true then some (xs.any fun y => PyData.eqv y x) else none
def strIn (x z : Str) : Bool := match x.cps.toList with
 | [c] => decide (c ∈ z.cps.toList)
 | _ => !(Builtin.Str.occurrences z x 0 z.length 1).isEmpty
theorem strIn_cases (x z : Str) : (∃ c, x = ⟨#[c]⟩ ∧ strIn x z = decide (c ∈ z.cps.toList)) ∨ strIn x z = !(Builtin.Str.occurrences z x 0 z.length 1).isEmpty := by
 unfold strIn
 split
 ·rename_i c h
  refine .inl ⟨c, ?_, rfl⟩
  obtain ⟨a⟩ := x
  have e : a = #[c] := by
   apply Array.toList_inj.mp
   exact h
  rw [e]
 ·exact .inr rfl
def inB0 : D → D → Option Bool
 | .str x, .str z => some (strIn x z)
 | x, .list xs => memD x xs
 | x, .tuple xs => memD x xs
 | _, _ => none
def inD0 (x y : D) : Option D := (inB0 x y).map .bool
def ninD0 (x y : D) : Option D := (inB0 x y).map fun b => .bool (!b)
def hasKD : List (D × D) → D → Option Bool
 | [], .str _ => some false
 | [], .int _ => some false
 | (.str s, _) :: r, .str t => if s = t then some true else hasKD r (.str t)
 | (.int i, _) :: r, .int j => if i = j then some true else hasKD r (.int j)
 | (.str _, _) :: r, .int j => hasKD r (.int j)
 | (.int _, _) :: r, .str t => hasKD r (.str t)
 | _, _ => none
def inB : D → D → Option Bool
 | .str x, .str z => some (strIn x z)
 | x, .list xs => memD x xs
 | x, .tuple xs => memD x xs
 | x, .dict kvs => hasKD kvs x
 | _, _ => none
def inD (x y : D) : Option D := (inB x y).map .bool
def ninD (x y : D) : Option D := (inB x y).map fun b => .bool (!b)
theorem inB_dict (x : D) (kvs : List (D × D)) : inB x (.dict kvs) = hasKD kvs x := by cases x <;> rfl
theorem inB_old {x y : D} (h : ∀ kvs, y ≠ .dict kvs) : inB x y = inB0 x y := by
 cases y with
 | dict kvs => exact absurd rfl (h kvs)
 | _ => cases x <;> rfl
theorem allStr_ok {K : Frag} {F : Hp} : ∀ {xs : List D} {l : List Str} {vs : List V}, allStr xs = some l → RpAll K F vs xs → vs = l.map V.str
 | [], l, vs, h, r => by
  cases r
  cases h
  rfl
 | x :: xs, l, vs, h, r => by
  cases r with
  | cons r1 r2 =>
   unfold allStr at h
   split at h
   ·rename_i e
    cases e
   ·rename_i z r' e
    cases e
    obtain ⟨l', h1, rfl⟩ := Option.map_eq_some_iff.mp h
    cases r1
    rw [allStr_ok h1 r2]
    rfl
   ·cases h
theorem flat_strs' (l : List Str) : (l.map V.str).all flatV = true := by
 induction l with
 | nil => rfl
 | cons x l ih => rw [List.map_cons, List.all_cons, ih]; rfl
theorem inV_strs (z : Str) (l : List Str) : inV (.str z) (l.map V.str) = decide (z ∈ l) := by
 induction l with
 | nil => rfl
 | cons x l ih =>
  have e : inV (.str z) ((x :: l).map V.str) = ((x == z) || inV (.str z) (l.map V.str)) := rfl
  rw [e, ih]
  by_cases h : x = z
  ·subst h; simp
  ·have h2 : ¬ z = x := fun e => h e.symm
   simp [h, h2]
theorem sq_dp {K : Frag} {F H : Hp} {p : Addr} {vs : List V} {xs : List D} (s : Same F H) (h : SqT K F p vs) (r : RpAll K F vs xs) (q : SeqAt.shaped (.list xs) = true) : Dp K H (.ref p) (.tuple xs) :=
 .tup (sq_t s h) (RpAll.dp (r.mono s) (SeqAt.canLay_of_shaped q))
theorem room_all {A : Around} {x : D} {xs : List D} (h : SeqAt.shaped x = true) (hu : A.units + 65 < cLine) : A.units + 1 + min (PyData.depthAll xs) x.depth < cLine := by
 have h1 := SeqAt.depth_of_shaped h
 have h2 : min (PyData.depthAll xs) x.depth ≤ x.depth := Nat.min_le_right _ _
 omega
def rInTup (K : Frag) (neg : Bool) : R2 := fun x y H Q => ∃ d ds, Dp K H x d ∧ Dp K H y (.tuple ds) ∧ SeqAt.shaped d = true ∧ SeqAt.shaped (.list ds) = true ∧ Q (.bl (if neg then !(ds.any fun z => PyData.eqv z d) else ds.any fun z => PyData.eqv z d)) H
theorem or_inTup (hu : X.A.units + 65 < cLine) : OpR X (compareOp .In) (rInTup X.K false) := by
 intro pins s σ H x y v u Q I rx ry h
 obtain ⟨d, ds, hd, he, sd, se, q⟩ := h
 obtain ⟨as, r1⟩ := Dp.reads I d x v hd rx
 obtain ⟨bs, r2⟩ := Dp.reads I (.tuple ds) y u he ry
 exact SeqAt.in_tuple_reads r2 r1 (SeqAt.canLay_of_shaped se) (SeqAt.canLay_of_shaped sd) (room_all sd hu) ⟨.bl _, H, I, rfl, q⟩
theorem or_ninTup (hu : X.A.units + 65 < cLine) : OpR X (compareOp .NotIn) (rInTup X.K true) := by
 intro pins s σ H x y v u Q I rx ry h
 obtain ⟨d, ds, hd, he, sd, se, q⟩ := h
 obtain ⟨as, r1⟩ := Dp.reads I d x v hd rx
 obtain ⟨bs, r2⟩ := Dp.reads I (.tuple ds) y u he ry
 exact SeqAt.notIn_tuple_reads r2 r1 (SeqAt.canLay_of_shaped se) (SeqAt.canLay_of_shaped sd) (room_all sd hu) ⟨.bl _, H, I, rfl, q⟩
theorem mem_cases {x : D} {xs : List D} {b : Bool} (h : memD x xs = some b) : (∃ z l, x = .str z ∧ allStr xs = some l ∧ b = decide (z ∈ l)) ∨ (SeqAt.shaped x = true ∧ SeqAt.shaped (.list xs) = true ∧ b = xs.any fun y => PyData.eqv y x) := by
 unfold memD at h
 split at h
 ·rename_i z l hl
  cases h
  exact .inl ⟨_, _, rfl, hl, rfl⟩
 ·split at h
  ·rename_i hc
   cases h
   exact .inr ⟨hc.1, hc.2, rfl⟩
  ·cases h
theorem od_in0 (hu : X.A.units + 65 < cLine) : OpR X (compareOp .In) (rD X.K inD0) := by
 refine opr_imp (op_in_sign.or (op_in_str.or (op_in_seq.or ((op_inD hu).or (or_inTup hu))))) fun v w H Q ⟨F, x, y, z, s, rv, rw', hz, q⟩ => ?_
 obtain ⟨b, hb, rfl⟩ := Option.map_eq_some_iff.mp hz
 have qq := q F H _ (New.refl s) (.bl b)
 unfold inB0 at hb
 split at hb
 ·cases hb
  rename_i x z
  rcases strIn_cases x z with ⟨c, e, e2⟩ | e2
  ·rw [e2] at qq
   exact .inl ⟨c, z, by rw [inv_str rv, e], inv_str rw', qq⟩
  ·rw [e2] at qq
   exact .inr (.inl ⟨_, _, inv_str rv, inv_str rw', qq⟩)
 ·obtain ⟨p, vs, e, h1, r1⟩ := inv_list s rw'
  rcases mem_cases hb with ⟨t, l, rfl, hl, rfl⟩ | ⟨c1, c2, rfl⟩
  ·have ev := allStr_ok hl r1
   subst ev
   rw [inv_str rv]
   refine .inr (.inr (.inl ⟨p, _, e, .inl (.of h1), rfl, flat_strs' l, ?_⟩))
   rw [if_neg Bool.false_ne_true, inV_strs]
   exact qq
  ·exact .inr (.inr (.inr (.inl ⟨_, _, dp_of s rv c1, dp_of s rw' c2, c1, c2, qq⟩)))
 ·obtain ⟨p, vs, e, h1, r1⟩ := inv_tup rw'
  rcases mem_cases hb with ⟨t, l, rfl, hl, rfl⟩ | ⟨c1, c2, rfl⟩
  ·have ev := allStr_ok hl r1
   subst ev
   rw [inv_str rv]
   refine .inr (.inr (.inl ⟨p, _, e, .inr (sq_t s h1.seq), rfl, flat_strs' l, ?_⟩))
   rw [if_neg Bool.false_ne_true, inV_strs]
   exact qq
  ·rw [e]
   refine .inr (.inr (.inr (.inr ⟨_, _, dp_of s rv c1, sq_dp s h1.seq r1 c2, c1, c2, ?_⟩)))
   rw [if_neg Bool.false_ne_true]
   exact qq
 ·cases hb
theorem od_nin0 (hu : X.A.units + 65 < cLine) : OpR X (compareOp .NotIn) (rD X.K ninD0) := by
 refine opr_imp (op_notIn_sign.or (op_notin_str.or (op_notIn_seq.or ((op_notInD hu).or (or_ninTup hu))))) fun v w H Q ⟨F, x, y, z, s, rv, rw', hz, q⟩ => ?_
 obtain ⟨b, hb, rfl⟩ := Option.map_eq_some_iff.mp hz
 have qq := q F H _ (New.refl s) (.bl (!b))
 unfold inB0 at hb
 split at hb
 ·cases hb
  rename_i x z
  rcases strIn_cases x z with ⟨c, e, e2⟩ | e2
  ·rw [e2] at qq
   exact .inl ⟨c, z, by rw [inv_str rv, e], inv_str rw', qq⟩
  ·rw [e2] at qq
   exact .inr (.inl ⟨_, _, inv_str rv, inv_str rw', qq⟩)
 ·obtain ⟨p, vs, e, h1, r1⟩ := inv_list s rw'
  rcases mem_cases hb with ⟨t, l, rfl, hl, rfl⟩ | ⟨c1, c2, rfl⟩
  ·have ev := allStr_ok hl r1
   subst ev
   rw [inv_str rv]
   refine .inr (.inr (.inl ⟨p, _, e, .inl (.of h1), rfl, flat_strs' l, ?_⟩))
   rw [if_pos rfl, inV_strs]
   exact qq
  ·exact .inr (.inr (.inr (.inl ⟨_, _, dp_of s rv c1, dp_of s rw' c2, c1, c2, qq⟩)))
 ·obtain ⟨p, vs, e, h1, r1⟩ := inv_tup rw'
  rcases mem_cases hb with ⟨t, l, rfl, hl, rfl⟩ | ⟨c1, c2, rfl⟩
  ·have ev := allStr_ok hl r1
   subst ev
   rw [inv_str rv]
   refine .inr (.inr (.inl ⟨p, _, e, .inr (sq_t s h1.seq), rfl, flat_strs' l, ?_⟩))
   rw [if_pos rfl, inV_strs]
   exact qq
  ·rw [e]
   refine .inr (.inr (.inr (.inr ⟨_, _, dp_of s rv c1, sq_dp s h1.seq r1 c2, c1, c2, ?_⟩)))
   rw [if_pos rfl]
   exact qq
 ·cases hb
end
def lookKD : List (D × D) → D → Option D
 | (.str s, x) :: r, .str t => if s = t then some x else lookKD r (.str t)
 | (.int i, x) :: r, .int j => if i = j then some x else lookKD r (.int j)
 | (.str _, _) :: r, .int j => lookKD r (.int j)
 | (.int _, _) :: r, .str t => lookKD r (.str t)
 | _, _ => none
def getKD (kvs : List (D × D)) (y x : D) : Option D := (hasKD kvs y).bind fun b => if b = true then lookKD kvs y else some x
theorem valV_cons {α : Type} [DecidableEq α] {k k' : α} {v : V} {kvs : List (α × V)} : valV ((k, v) :: kvs) k' = if k = k' then some v else valV kvs k' := by
 unfold valV
 rw [List.find?_cons]
 by_cases e : k = k'
 ·rw [decide_eq_true e, if_pos e]; rfl
 ·rw [decide_eq_false e, if_neg e]
theorem key_of_has {kvs : List (D × D)} {y : D} {b : Bool} (h : hasKD kvs y = some b) : ∃ k, y = kD k := by
 cases y with
 | int i => exact ⟨.inl i, rfl⟩
 | str s => exact ⟨.inr s, rfl⟩
 | _ =>
  cases kvs with
  | nil => cases h
  | cons p r => obtain ⟨a, c⟩ := p; cases a <;> cases h
theorem has_look : ∀ {kvs : List (D × D)} {y : D} {b : Bool}, hasKD kvs y = some b → b = (lookKD kvs y).isSome
 | [], y, b, h => by cases y <;> cases h <;> rfl
 | (a, c) :: r, y, b, h => by
  cases a with
  | str s =>
   cases y with
   | str t =>
    have h : (if s = t then some true else hasKD r (.str t)) = some b := h
    show b = (if s = t then some c else lookKD r (.str t)).isSome
    by_cases e : s = t
    ·rw [if_pos e] at h ⊢; cases h; rfl
    ·rw [if_neg e] at h ⊢; exact has_look h
   | int j => exact has_look (kvs := r) h
   | _ => cases h
  | int s =>
   cases y with
   | int t =>
    have h : (if s = t then some true else hasKD r (.int t)) = some b := h
    show b = (if s = t then some c else lookKD r (.int t)).isSome
    by_cases e : s = t
    ·rw [if_pos e] at h ⊢; cases h; rfl
    ·rw [if_neg e] at h ⊢; exact has_look h
   | str j => exact has_look (kvs := r) h
   | _ => cases h
  | _ => cases y <;> cases h
theorem look_ok {K : Frag} {F : Hp} {y x : D} : ∀ {kvs : List (Key × V)} {ds : List D}, RpAll K F (kvs.map (·.2)) ds → lookKD ((kvs.map fun p => kD p.1).zip ds) y = some x → ∃ k v, y = kD k ∧ valV kvs k = some v ∧ Rp K F v x
 | [], ds, _, h => by cases ds <;> cases h
 | (k, v) :: kvs, ds, r, h => by
  cases r with
  | @cons _ _ d ds r1 r2 =>
   have h : lookKD ((kD k, d) :: (kvs.map fun p => kD p.1).zip ds) y = some x := h
   have other : ∀ {z : D}, lookKD ((kvs.map fun p => kD p.1).zip ds) z = some x → kD k ≠ z → ∃ k2 v2, z = kD k2 ∧ valV ((k, v) :: kvs) k2 = some v2 ∧ Rp K F v2 x := fun {z} h hn => by
    obtain ⟨k2, v2, h1, h2, h3⟩ := look_ok r2 h
    refine ⟨k2, v2, h1, ?_, h3⟩
    rw [valV_cons, if_neg (fun q => hn (by rw [q, h1]))]
    exact h2
   cases k with
   | inl i =>
    cases y with
    | int j =>
     have h : (if i = j then some d else lookKD ((kvs.map fun p => kD p.1).zip ds) (.int j)) = some x := h
     by_cases e : i = j
     ·rw [if_pos e] at h
      cases h
      exact ⟨.inl j, v, rfl, by rw [valV_cons, if_pos (by rw [e])], r1⟩
     ·rw [if_neg e] at h
      exact other h fun q => e (PyData.int.inj q)
    | str t => exact other h fun q => nomatch q
    | _ => cases h
   | inr s =>
    cases y with
    | str t =>
     have h : (if s = t then some d else lookKD ((kvs.map fun p => kD p.1).zip ds) (.str t)) = some x := h
     by_cases e : s = t
     ·rw [if_pos e] at h
      cases h
      exact ⟨.inr t, v, rfl, by rw [valV_cons, if_pos (by rw [e])], r1⟩
     ·rw [if_neg e] at h
      exact other h fun q => e (PyData.str.inj q)
    | int j => exact other h fun q => nomatch q
    | _ => cases h
theorem valV_look {K : Frag} {F : Hp} {k : Key} : ∀ {kvs : List (Key × V)} {ds : List D}, RpAll K F (kvs.map (·.2)) ds → (valV kvs k).isSome = (lookKD ((kvs.map fun p => kD p.1).zip ds) (kD k)).isSome
 | [], ds, _ => by cases ds <;> cases k <;> rfl
 | (j, v) :: kvs, ds, r => by
  cases r with
  | @cons _ _ d ds r1 r2 =>
   have ih := valV_look (k := k) r2
   rw [valV_cons]
   show _ = (lookKD ((kD j, d) :: (kvs.map fun p => kD p.1).zip ds) (kD k)).isSome
   have e1 : lookKD ((kD j, d) :: (kvs.map fun p => kD p.1).zip ds) (kD k) = if j = k then some d else lookKD ((kvs.map fun p => kD p.1).zip ds) (kD k) := by
    cases j with
    | inl i => cases k with
     | inl i2 =>
      show (if i = i2 then some d else _) = _
      by_cases e : i = i2
      ·rw [if_pos e, if_pos (by rw [e])]
      ·rw [if_neg e, if_neg fun q => e (by cases q; rfl)]; rfl
     | inr s => rw [if_neg (fun q => nomatch q)]; rfl
    | inr s => cases k with
     | inr s2 =>
      show (if s = s2 then some d else _) = _
      by_cases e : s = s2
      ·rw [if_pos e, if_pos (by rw [e])]
      ·rw [if_neg e, if_neg fun q => e (by cases q; rfl)]; rfl
     | inl i => rw [if_neg (fun q => nomatch q)]; rfl
   rw [e1]
   by_cases e : j = k
   ·rw [if_pos e, if_pos e]; rfl
   ·rw [if_neg e, if_neg e]; exact ih
theorem key_val {K : Frag} {F H : Hp} {w : V} : ∀ {k : Key}, RpB K F H w (kD k) → w = kV k
 | .inl i, h => inv_int h
 | .inr s, h => inv_str h
theorem inv_kd {K : Frag} {F H : Hp} {v : V} {kvs : List (D × D)} {y : D} {b : Bool} (s : Same F H) (h : RpB K F H v (.dict kvs)) (q : hasKD kvs y = some b) : ∃ a kws ds, v = .ref a ∧ Rd H a (.dK kws) ∧ RpAll K F (kws.map (·.2)) ds ∧ kvs = (kws.map fun p => kD p.1).zip ds := by
 generalize e : PyData.dict kvs = z at h
 cases h with
 | d r =>
  cases r with
  | scr h r => cases e; cases y <;> cases q
  | dcK h r => cases e; exact ⟨_, _, _, rfl, .inr ⟨_, s _ _ h⟩, r, rfl⟩
  | _ => cases e
 | lst h r => cases e
 | dcK h r => cases e; exact ⟨_, _, _, rfl, h, r, rfl⟩
theorem has_ok {K : Frag} {F H : Hp} {v w : V} {kvs : List (D × D)} {y : D} {b : Bool} (s : Same F H) (h : RpB K F H v (.dict kvs)) (hw : RpB K F H w y) (q : hasKD kvs y = some b) : ∃ a o, v = .ref a ∧ DGet H a w o ∧ b = o.isSome := by
 obtain ⟨a, kws, ds, e, rd, r, rfl⟩ := inv_kd s h q
 obtain ⟨k, rfl⟩ := key_of_has q
 refine ⟨a, valV kws k, e, .inl ⟨kws, k, rd, key_val hw, rfl⟩, ?_⟩
 rw [valV_look r]
 exact has_look q
section
variable {X : Cx}
theorem op_ind (hu : X.A.units + 65 < cLine) : OpR X (compareOp .In) (fun x y H Q => ∃ a o, y = .ref a ∧ DGet H a x o ∧ Q (.bl o.isSome) H) := fun pins s σ H x y v u Q I rx ry ⟨a, o, ey, g, q⟩ => by
 subst ey
 cases ry
 exact d_in (by omega) I g rx fun s' I' => ⟨.bl o.isSome, H, I', rfl, q⟩
theorem op_nind (hu : X.A.units + 65 < cLine) : OpR X (compareOp .NotIn) (fun x y H Q => ∃ a o, y = .ref a ∧ DGet H a x o ∧ Q (.bl (!o.isSome)) H) := fun pins s σ H x y v u Q I rx ry ⟨a, o, ey, g, q⟩ => by
 subst ey
 cases ry
 exact d_notIn (by omega) I g rx fun s' I' => ⟨.bl (!o.isSome), H, I', rfl, q⟩
theorem od_in (hu : X.A.units + 65 < cLine) : OpR X (compareOp .In) (rD X.K inD) := fun pins s σ H x y v u Q I rx ry ⟨F, dx, dy, z, sm, rv, rw', hz, q⟩ => by
 by_cases hd : ∃ kvs, dy = .dict kvs
 ·obtain ⟨kvs, rfl⟩ := hd
  obtain ⟨b, hb, rfl⟩ := Option.map_eq_some_iff.mp hz
  rw [inB_dict] at hb
  obtain ⟨a, o, e, g, rfl⟩ := has_ok sm rw' rv hb
  exact op_ind hu pins s σ H x y v u Q I rx ry ⟨a, o, e, g, q F H _ (New.refl sm) (.bl _)⟩
 ·refine od_in0 hu pins s σ H x y v u Q I rx ry ⟨F, dx, dy, z, sm, rv, rw', ?_, q⟩
  unfold inD at hz
  rw [inB_old fun kvs e => hd ⟨kvs, e⟩] at hz
  exact hz
theorem od_nin (hu : X.A.units + 65 < cLine) : OpR X (compareOp .NotIn) (rD X.K ninD) := fun pins s σ H x y v u Q I rx ry ⟨F, dx, dy, z, sm, rv, rw', hz, q⟩ => by
 by_cases hd : ∃ kvs, dy = .dict kvs
 ·obtain ⟨kvs, rfl⟩ := hd
  obtain ⟨b, hb, rfl⟩ := Option.map_eq_some_iff.mp hz
  rw [inB_dict] at hb
  obtain ⟨a, o, e, g, rfl⟩ := has_ok sm rw' rv hb
  exact op_nind hu pins s σ H x y v u Q I rx ry ⟨a, o, e, g, q F H _ (New.refl sm) (.bl _)⟩
 ·refine od_nin0 hu pins s σ H x y v u Q I rx ry ⟨F, dx, dy, z, sm, rv, rw', ?_, q⟩
  unfold ninD at hz
  rw [inB_old fun kvs e => hd ⟨kvs, e⟩] at hz
  exact hz
end
end DL
end
section
namespace DL
open PySem PySem.Spec PyProof.Rows L2
def PN (K : Frag) (c : Ct) (pu : Bool) (F H : Hp) (σ : Sl) (Q : VK) (xs : List D) (ρ' : Env) : Prop :=
 ∀ F' H' O' p vs, EnvR K c F' H' σ ρ' O' → Same F F' → (pu = true → Same H H') → H' p = some (.lst vs) → RpAll K F' vs xs → Apart c F' [p] O' → Q (.ref p) H'
def tn (K : Frag) (c : Ct) (pu : Bool) (m : M (List D)) : TE := fun σ H Q => ∃ F ρ O, EnvR K c F H σ ρ O ∧ (m ρ).post (PN K c pu F H σ Q) (PX K c σ)
section
variable {X : Cx} {c : Ct} {e : Expr} {pos : Pos} {pu : Bool} {ml : M (List D)}
theorem so_n (h : PE X e (tn X.K c pu ml)) : PE X e (to X.K c (mLst ml)) := h.imp fun σ H Q ⟨F, ρ, O, e, h1⟩ =>
 ⟨F, ρ, O, e, Res.post_imp (Res.post_bind h1) (fun xs ρ1 h2 F' H' O' p vs e' s' p' h3 h4 h5 => h2 F' H' O' [p] _ e' s' (.lst h3 h4) h5) fun _ _ h => h⟩
theorem se_n (h : PE X e (tn X.K c pu ml)) : PE X e (te X.K c false pu (mLstF ml)) := h.imp fun σ H Q ⟨F, ρ, O, e, h1⟩ =>
 ⟨F, ρ, O, e, Res.post_imp (Res.post_bind h1) (fun xs ρ1 h2 F' H' O' p vs e' s' p' h3 h4 h5 => by
  have s2 : Same F' (frzF F' H' [p]) := frz_same fun q hq => (h5.ow q hq).1
  exact h2 _ H' O' _ (e'.frz h5) (s'.trans s2) p' (.lst ((frz_in (List.mem_singleton_self _)).trans h3) (h4.mono s2))) fun _ _ h => h⟩
theorem n_lst {es : List Expr} {ms : M (List D)} (h : SA X c es pu ms) (hl : es.length ≤ 1000 := by exact Nat.le_of_ble_eq_true rfl) : PE X (.List es pos) (tn X.K c pu ms) := (pe_lst h.pa).imp fun σ H Q ⟨F, ρ, O, e, h1⟩ => by
 have h1' : ((ms ρ).bind fun xs ρ1 => .ok xs ρ1).post (PN X.K c pu F H σ Q) (PX X.K c σ) := by
  cases q : ms ρ <;> rw [q] at h1 <;> exact h1
 refine ta_step e h1' fun xs ρ1 F1 H1 O1 vs hm h2 e1 s1 p1 v1 => ⟨by rw [v1.length, h.len _ _ _ hm]; exact few hl, fun p hp => ?_⟩
 have n := New.own e1.sub hp (.lst vs)
 exact h2 _ _ O1 p vs (e1.new n) s1 (fun q => (p1 q).trans n.hH) upd_same v1 (e1.apart hp)
end
def NewL (K : Frag) (F H : Hp) (xs : List D) (Q : VK) : Prop := ∀ H' p vs, H p = none → New F H F H' → H' p = some (.lst vs) → RpAll K F vs xs → Q (.ref p) H'
theorem newL_upd {K : Frag} {F H : Hp} {xs : List D} {vs : List V} {Q : VK} (s : Same F H) (q : NewL K F H xs Q) (r : RpAll K F vs xs) : ∀ p, H p = none → Q (.ref p) (upd H p (.lst vs)) := fun p hp => q _ p vs hp (New.own s hp _) upd_same r
def rD1 (K : Frag) (g : D → Option D) : List V → Hp → VK → Prop := fun vs H Q => ∃ F v x z, vs = [v] ∧ Same F H ∧ RpB K F H v x ∧ g x = some z ∧ ∀ F' H' u, New F H F' H' → Rp K F' u z → Q u H'
def rN1 (K : Frag) (g : D → Option (List D)) : List V → Hp → VK → Prop := fun vs H Q => ∃ F v x z, vs = [v] ∧ Same F H ∧ RpB K F H v x ∧ g x = some z ∧ NewL K F H z Q
def mF1 (g : D → Option D) (m : M D) : M D := fun ρ => (m ρ).bind fun x ρ1 => ofO (g x) ρ1
def mFN (g : D → Option (List D)) (m : M D) : M (List D) := fun ρ => (m ρ).bind fun x ρ1 => ofO (g x) ρ1
def PA1 (K : Frag) (c : Ct) (pu : Bool) (F H : Hp) (σ : Sl) (Q : List V → Hp → Prop) (x : D) (ρ' : Env) : Prop :=
 ∀ F' H' O' v, EnvR K c F' H' σ ρ' O' → Same F F' → (pu = true → Same H H') → RpB K F' H' v x → Q [v] H'
def ta1 (K : Frag) (c : Ct) (pu : Bool) (m : M D) : TA := fun σ H Q => ∃ F ρ O, EnvR K c F H σ ρ O ∧ (m ρ).post (PA1 K c pu F H σ Q) (PX K c σ)
section
variable {X : Cx} {c : Ct} {e : Expr} {pos p : Pos} {ka pu : Bool} {me : M D} {g : D → Option D} {gl : D → Option (List D)} {id T : String} {f : Value} {x : Str}
theorem call_imp {r r' : List V → Hp → VK → Prop} (h : CallR X f r) (k : ∀ vs H Q, r' vs H Q → r vs H Q) : CallR X f r' := fun pins s σ H xs us Q I rx q => h pins s σ H xs us Q I rx (k xs H Q q)
theorem sa_1 (ha : PE X e (te X.K c ka pu me)) (hs : starEach [e] X.env = (false, eval e X.env) :: starEach [] X.env := by rfl) : PA X [e] (ta1 X.K c pu me) := (pa_cons ha pa_nil hs).imp fun σ H Q ⟨F, ρ, O, e, h⟩ =>
 ⟨F, ρ, O, e, Res.post_imp h (fun x ρ1 h1 F1 H1 O1 v e1 s1 q1 v1 => h1 F1 H1 O1 v e1 s1 q1 v1.up0) fun _ _ h => h⟩
theorem ta1_d {σ : Sl} {H : Hp} {Q : VK} (h : te X.K c false pu (mF1 g me) σ H Q) : ta1 X.K c pu me σ H fun vs H1 => rD1 X.K g vs H1 Q := by
 obtain ⟨F, ρ, O, e, h⟩ := h
 refine ⟨F, ρ, O, e, Res.post_imp (Res.post_bind h) (fun x ρ1 h1 F1 H1 O1 v e1 s1 q1 v1 => ?_) fun _ _ h => h⟩
 obtain ⟨z, hz, h2⟩ := post_ofO h1
 exact ⟨F1, v, x, z, rfl, e1.sub, v1, hz, fun F' H' u n r => h2 F' H' O1 u (e1.new n) (s1.trans n.fF) (fun hp => (q1 hp).trans n.hH) r⟩
theorem ta1_n {σ : Sl} {H : Hp} {Q : VK} (h : tn X.K c pu (mFN gl me) σ H Q) : ta1 X.K c pu me σ H fun vs H1 => rN1 X.K gl vs H1 Q := by
 obtain ⟨F, ρ, O, e, h⟩ := h
 refine ⟨F, ρ, O, e, Res.post_imp (Res.post_bind h) (fun x ρ1 h1 F1 H1 O1 v e1 s1 q1 v1 => ?_) fun _ _ h => h⟩
 obtain ⟨z, hz, h2⟩ := post_ofO h1
 exact ⟨F1, v, x, z, rfl, e1.sub, v1, hz, fun H' p vs hp n h3 r => h2 F1 H' O1 p vs (e1.new n) s1 (fun hp => (q1 hp).trans n.hH) h3 r (e1.apart hp)⟩
theorem se_b1 (hc : CallR X (.builtin id) (rD1 X.K g)) (hm : X.mg x = none) (ha : PE X e (te X.K c ka pu me)) (hg : Gl X x := by rfl) (hv : bootBuiltins x = some (.builtin id) := by decide +kernel) (hn : x ≠ "__name__" := by decide) (hdb : (x == ("__debug__" : Str)) = false := by decide)
  (hs : starEach [e] X.env = (false, eval e X.env) :: starEach [] X.env := by rfl) (hpl : (backTo pos (starEach [] X.env)).any (·.1) = false := by rfl) : PE X (.Call (.Name x p) [e] [] pos) (te X.K c false pu (mF1 g me)) :=
 (pe_callB hc hg hm hv (sa_1 ha hs) hn hdb hs hpl).imp fun σ H Q h => ta1_d h
theorem se_t1 (hc : CallR X (.type T) (rD1 X.K g)) (hm : X.mg x = none) (ha : PE X e (te X.K c ka pu me)) (hg : Gl X x := by rfl) (hv : bootBuiltins x = some (.type T) := by decide +kernel) (hn : x ≠ "__name__" := by decide) (hdb : (x == ("__debug__" : Str)) = false := by decide)
  (hs : starEach [e] X.env = (false, eval e X.env) :: starEach [] X.env := by rfl) (hpl : (backTo pos (starEach [] X.env)).any (·.1) = false := by rfl) : PE X (.Call (.Name x p) [e] [] pos) (te X.K c false pu (mF1 g me)) :=
 (pe_callTy hc hg hm hv (sa_1 ha hs) hn hdb hs hpl).imp fun σ H Q h => ta1_d h
theorem n_b1 (hc : CallR X (.builtin id) (rN1 X.K gl)) (hm : X.mg x = none) (ha : PE X e (te X.K c ka pu me)) (hg : Gl X x := by rfl) (hv : bootBuiltins x = some (.builtin id) := by decide +kernel) (hn : x ≠ "__name__" := by decide) (hdb : (x == ("__debug__" : Str)) = false := by decide)
  (hs : starEach [e] X.env = (false, eval e X.env) :: starEach [] X.env := by rfl) (hpl : (backTo pos (starEach [] X.env)).any (·.1) = false := by rfl) : PE X (.Call (.Name x p) [e] [] pos) (tn X.K c pu (mFN gl me)) :=
 (pe_callB hc hg hm hv (sa_1 ha hs) hn hdb hs hpl).imp fun σ H Q h => ta1_n h
theorem n_t1 (hc : CallR X (.type T) (rN1 X.K gl)) (hm : X.mg x = none) (ha : PE X e (te X.K c ka pu me)) (hg : Gl X x := by rfl) (hv : bootBuiltins x = some (.type T) := by decide +kernel) (hn : x ≠ "__name__" := by decide) (hdb : (x == ("__debug__" : Str)) = false := by decide)
  (hs : starEach [e] X.env = (false, eval e X.env) :: starEach [] X.env := by rfl) (hpl : (backTo pos (starEach [] X.env)).any (·.1) = false := by rfl) : PE X (.Call (.Name x p) [e] [] pos) (tn X.K c pu (mFN gl me)) :=
 (pe_callTy hc hg hm hv (sa_1 ha hs) hn hdb hs hpl).imp fun σ H Q h => ta1_n h
end
theorem inv_dict {K : Frag} {F H : Hp} {v : V} {kvs : List (D × D)} (s : Same F H) (h : RpB K F H v (.dict kvs)) :
  (∃ p vs ds, v = .ref p ∧ kvs = [(.none, .list ds)] ∧ SqL K H p vs ∧ RpAll K F vs ds) ∨
  (∃ p kws ds, v = .ref p ∧ Rd H p (.dK kws) ∧ RpAll K F (kws.map (·.2)) ds ∧ kvs = (kws.map fun q => kD q.1).zip ds) := by
 generalize e : PyData.dict kvs = z at h
 cases h with
 | d r =>
  cases r with
  | scr h r => cases e; exact .inl ⟨_, _, _, rfl, rfl, sq_l s h, r⟩
  | dcK h r => cases e; exact .inr (⟨_, _, _, rfl, .inr ⟨_, s _ _ h⟩, r, rfl⟩)
  | _ => cases e
 | lst h r => cases e
 | dcK h r => cases e; exact .inr (⟨_, _, _, rfl, h, r, rfl⟩)
def cells (kvs : List (D × D)) : Option (List D) := match kvs with
 | [(.none, .list ds)] => some ds
 | _ => none
theorem cells_ok {kvs : List (D × D)} {ds : List D} (h : cells kvs = some ds) : kvs = [(.none, .list ds)] := by
 unfold cells at h
 split at h
 ·cases h; rfl
 ·cases h
theorem cells_no {α : Type} {f : α → D} (hf : ∀ a, f a ≠ .none) {kws : List α} {ds : List D} : cells ((kws.map f).zip ds) = none := by
 cases h : cells ((kws.map f).zip ds) with
 | none => rfl
 | some es =>
  obtain ⟨a, _, e2⟩ := zip_head (cells_ok h)
  exact absurd e2 (hf a)
theorem kD_no (k : Key) : kD k ≠ .none := fun e => by cases k <;> cases e
def lenD : D → Option D
 | .str x => if x.length ≤ sizeLine then some (.int x.length) else none
 | .list xs => some (.int xs.length)
 | .tuple xs => some (.int xs.length)
 | .dict kvs => match cells kvs with
  | some ds => some (.int ds.length)
  | none => some (.int kvs.length)
 | _ => none
theorem zip_len {α : Type} {kvs : List α} {f : α → D} {g : α → V} {K : Frag} {F : Hp} {ds : List D} (r : RpAll K F (kvs.map g) ds) : ((kvs.map f).zip ds).length = kvs.length := by
 have h := r.length
 rw [List.length_map] at h
 rw [List.length_zip, List.length_map, ← h, Nat.min_self]
theorem call_lenK {X : Cx} : CallR X (.builtin "len") (fun xs H Q => ∃ a kvs, xs = [V.ref a] ∧ Rd H a (.dK kvs) ∧ Q (.int kvs.length) H) := by
 intro pins s σ H xs us Q I r h
 obtain ⟨a, kvs, rfl, ha, q⟩ := h
 rw [Vals.ref1 r]
 exact d_len I ha fun t s' I' => ⟨.int kvs.length, H, I', ⟨_, rfl⟩, q⟩
theorem cd_len {X : Cx} : CallR X (.builtin "len") (rD1 X.K lenD) := by
 refine call_imp (CallR.or call_len call_lenK) fun vs H Q ⟨F, v, x, z, hv, s, rv, hz, q⟩ => ?_
 subst hv
 unfold lenD at hz
 split at hz
 ·split at hz
  ·rename_i hl
   cases hz
   exact .inl ⟨v, _, rfl, by rw [inv_str rv]; exact ⟨hl, rfl⟩, q F H _ (New.refl s) (.int _)⟩
  ·cases hz
 ·cases hz
  obtain ⟨p, ws, rfl, h1, r1⟩ := inv_list s rv
  exact .inl ⟨_, _, rfl, .inl ⟨ws, .of h1, r1.length.symm⟩, q F H _ (New.refl s) (.int _)⟩
 ·cases hz
  obtain ⟨p, ws, rfl, h1, r1⟩ := inv_tup rv
  exact .inl ⟨_, _, rfl, .inr ⟨ws, sq_t s h1.seq, r1.length.symm⟩, q F H _ (New.refl s) (.int _)⟩
 ·rename_i kvs
  rcases inv_dict s rv with ⟨p, ws, ds, rfl, e1, h1, r1⟩ | ⟨p, kws, ds, rfl, h1, r1, e1⟩
  ·subst e1
   cases hz
   exact .inl ⟨_, _, rfl, .inl ⟨ws, h1, r1.length.symm⟩, q F H _ (New.refl s) (.int _)⟩
  ·subst e1
   rw [cells_no (f := fun q : Key × V => kD q.1) fun a => kD_no a.1] at hz
   simp only [Option.some.injEq] at hz
   subst hz
   refine .inr ⟨p, kws, rfl, h1, ?_⟩
   have z := q F H (.int ((((kws.map fun q => kD q.1).zip ds).length : Nat) : Int)) (New.refl s) (.int _)
   rw [zip_len r1] at z
   exact z
 ·cases hz
def intD : D → Option D
 | .int i => some (.int i)
 | .bool b => some (.int (if b then 1 else 0))
 | _ => none
theorem cd_int {X : Cx} : CallR X (.type "int") (rD1 X.K intD) := by
 refine call_imp call_int1 fun vs H Q ⟨F, v, x, z, hv, s, rv, hz, q⟩ => ?_
 subst hv
 unfold intD at hz
 split at hz
 ·cases hz; exact .inl ⟨_, by rw [inv_int rv], q F H _ (New.refl s) (.int _)⟩
 ·cases hz; exact .inr ⟨_, by rw [inv_bool rv], q F H _ (New.refl s) (.int _)⟩
 ·cases hz
def strD : D → Option D
 | .int i => if i.natAbs.log2 < 1920 then some (.str (toString i)) else none
 | _ => none
theorem cd_str {X : Cx} : CallR X (.type "str") (rD1 X.K strD) := by
 refine call_imp call_str_int fun vs H Q ⟨F, v, x, z, hv, s, rv, hz, q⟩ => ?_
 subst hv
 unfold strD at hz
 split at hz
 ·split at hz
  ·rename_i hl
   cases hz; exact ⟨_, by rw [inv_int rv], hl, q F H _ (New.refl s) (.str _)⟩
  ·cases hz
 ·cases hz
def absD : D → Option D
 | .int i => some (.int (if i < 0 then -i else i))
 | _ => none
theorem cd_abs {X : Cx} : CallR X (.builtin "abs") (rD1 X.K absD) := by
 refine call_imp call_abs fun vs H Q ⟨F, v, x, z, hv, s, rv, hz, q⟩ => ?_
 subst hv
 unfold absD at hz
 split at hz
 ·cases hz; exact ⟨_, by rw [inv_int rv], q F H _ (New.refl s) (.int _)⟩
 ·cases hz
def boolsD : List D → Option (List Bool)
 | [] => some []
 | .bool b :: r => (boolsD r).map (b :: ·)
 | _ => none
theorem bools_ok {K : Frag} {F : Hp} : ∀ {ds : List D} {bs : List Bool} {vs : List V}, boolsD ds = some bs → RpAll K F vs ds → vs = bs.map V.bl
 | [], _, _, h, .nil => by cases h; rfl
 | .bool b :: r, _, _, h, .cons (vs := vs) r1 r2 => by
  unfold boolsD at h
  cases e : boolsD r with
  | none => rw [e] at h; cases h
  | some bs =>
   rw [e] at h
   cases h
   cases r1
   rw [bools_ok e r2]
   rfl
 | .none :: _, _, _, h, _ => by cases h
 | .int _ :: _, _, _, h, _ => by cases h
 | .str _ :: _, _, _, h, _ => by cases h
 | .list _ :: _, _, _, h, _ => by cases h
 | .tuple _ :: _, _, _, h, _ => by cases h
 | .dict _ :: _, _, _, h, _ => by cases h
def allD : D → Option D
 | .list ds => (boolsD ds).map fun bs => .bool (bs.all id)
 | _ => none
theorem cd_all {X : Cx} (hc : X.calm = true) : CallR X (.builtin "all") (rD1 X.K allD) := by
 refine call_imp (cr_all hc) fun vs H Q ⟨F, v, x, z, hv, s, rv, hz, q⟩ => ?_
 subst hv
 unfold allD at hz
 split at hz
 ·obtain ⟨bs, h1, rfl⟩ := Option.map_eq_some_iff.mp hz
  obtain ⟨p, ws, rfl, h2, r1⟩ := inv_list s rv
  have e := bools_ok h1 r1
  subst e
  exact ⟨p, bs, rfl, .of h2, q F H _ (New.refl s) (.bl _)⟩
 ·cases hz
def intsD : List D → Option (List Int)
 | [] => some []
 | .int b :: r => (intsD r).map (b :: ·)
 | _ => none
def listD : D → Option (List D)
 | .list xs => some xs
 | .tuple xs => some xs
 | .dict kvs => cells kvs
 | _ => none
theorem cd_list {X : Cx} : CallR X (.type "list") (rN1 X.K listD) := by
 refine call_imp call_list_of fun vs H Q ⟨F, v, x, z, hv, s, rv, hz, q⟩ => ?_
 subst hv
 unfold listD at hz
 split at hz
 ·cases hz
  obtain ⟨p, ws, rfl, h2, r1⟩ := inv_list s rv
  exact ⟨p, ws, rfl, .inl (.of h2), newL_upd s q r1⟩
 ·cases hz
  obtain ⟨p, ws, rfl, h2, r1⟩ := inv_tup rv
  exact ⟨p, ws, rfl, .inr (sq_t s h2.seq), newL_upd s q r1⟩
 ·have e := cells_ok hz
  subst e
  obtain ⟨p, ws, rfl, h2, r1⟩ := inv_scr s rv
  exact ⟨p, ws, rfl, .inl h2, newL_upd s q r1⟩
 ·cases hz
def tupD : D → Option D
 | .list xs => some (.tuple xs)
 | .tuple xs => some (.tuple xs)
 | _ => none
theorem cd_tup {X : Cx} : CallR X (.type "tuple") (rD1 X.K tupD) := by
 refine call_imp call_tupF fun vs H Q ⟨F, v, x, z, hv, s, rv, hz, q⟩ => ?_
 subst hv
 unfold tupD at hz
 split at hz
 ·cases hz
  obtain ⟨p, ws, rfl, h2, r1⟩ := inv_list s rv
  refine ⟨p, ws, rfl, .inl ⟨.of h2, fun l ob hl hob => ?_⟩⟩
  have n := New.one s hl (.frz ob (.tup ws))
  exact q _ _ _ n (.tup (.inl ⟨ob, upd_same, hob⟩) (r1.mono n.fF))
 ·cases hz
  obtain ⟨p, ws, rfl, h2, r1⟩ := inv_tup rv
  exact ⟨p, ws, rfl, .inr ⟨sq_t s h2.seq, q F H _ (New.refl s) (.tup h2 r1)⟩⟩
 ·cases hz
def ixD0 : D → D → Option D
 | .list xs, .int i => atI xs i
 | .tuple xs, .int i => atI xs i
 | .str z, .int i => if z.length ≤ sizeLine then (atI z.cps.toList i).map fun c => .str ⟨#[c]⟩ else none
 | .dict kvs, .int i => (cells kvs).bind fun ds => atI ds i
 | _, _ => none
def ixD : D → D → Option D
 | .list xs, .int i => atI xs i
 | .tuple xs, .int i => atI xs i
 | .str z, .int i => if z.length ≤ sizeLine then (atI z.cps.toList i).map fun c => .str ⟨#[c]⟩ else none
 | .dict kvs, .int i => match cells kvs with
  | some ds => atI ds i
  | none => lookKD kvs (.int i)
 | .dict kvs, .str s => lookKD kvs (.str s)
 | _, _ => none
theorem atI_rp {K : Frag} {F : Hp} {vs : List V} {ds : List D} {i : Int} {d : D} (r : RpAll K F vs ds) (h : atI ds i = some d) : ∃ v, atI vs i = some v ∧ Rp K F v d := by
 unfold atI at h ⊢
 rw [r.length]
 cases e : ixN ds.length i with
 | none => rw [e] at h; cases h
 | some j =>
  rw [e] at h
  exact r.getD h
theorem ixr_imp {r r' : R2} (h : IxR X r) (k : ∀ v w H Q, r' v w H Q → r v w H Q) : IxR X r' := fun value slice pins s σ H x y v u Q I rx ry q hs => h value slice pins s σ H x y v u Q I rx ry (k x y H Q q) hs
theorem xd_seq0 {X : Cx} : IxR X (rD X.K ixD0) := by
 refine ixr_imp ix_seq fun v w H Q ⟨F, x, y, z, s, rv, rw', hz, q⟩ => ?_
 unfold ixD0 at hz
 split at hz
 ·obtain ⟨p, ws, rfl, h2, r1⟩ := inv_list s rv
  obtain ⟨u, h3, h4⟩ := atI_rp r1 hz
  exact .inl ⟨p, ws, _, u, rfl, inv_int rw', .of h2, h3, q F H u (New.refl s) h4⟩
 ·obtain ⟨p, ws, rfl, h2, r1⟩ := inv_tup rv
  obtain ⟨u, h3, h4⟩ := atI_rp r1 hz
  exact .inr (.inl ⟨p, ws, _, u, rfl, inv_int rw', sq_t s h2.seq, h3, q F H u (New.refl s) h4⟩)
 ·split at hz
  ·rename_i hl
   obtain ⟨c, h1, rfl⟩ := Option.map_eq_some_iff.mp hz
   exact .inr (.inr ⟨_, _, c, inv_str rv, inv_int rw', hl, h1, q F H _ (New.refl s) (.str _)⟩)
  ·cases hz
 ·rename_i kvs i
  cases e : cells kvs with
  | none => rw [e] at hz; cases hz
  | some ds =>
   rw [e] at hz
   have e := cells_ok e
   subst e
   obtain ⟨p, ws, rfl, h2, r1⟩ := inv_scr s rv
   obtain ⟨u, h3, h4⟩ := atI_rp r1 hz
   exact .inl ⟨p, ws, _, u, rfl, inv_int rw', h2, h3, q F H u (New.refl s) h4⟩
 ·cases hz
theorem ix_dictR {X : Cx} (hu : X.A.units + 64 < cLine) : IxR X (fun x y H Q => ∃ a v, x = .ref a ∧ DGet H a y (some v) ∧ Q v H) := fun value slice pins s σ H x y v u Q I rx ry ⟨a, w, ex, g, q⟩ hs => by
 subst ex
 cases rx
 have hT := dict_typeIs I g
 have get := d_getItem (A := X.A) (E := X.xe) (Q := L2.EP X pins σ Q) (by omega) I g ry fun w' s' I' r => ⟨w, H, I', r, q⟩
 unfold subscriptTail
 refine wpAny_bind ?_
 rw [getitemInPython_of_ne hT.not_modules]
 refine wpAny_bind (wpAny_specialOf hT PySem.F.slot_dict_getitem.lookup ?_)
 have fin : wpAny (model X.prog X.w) X.A (subscripted slice false (.ref a) u) (fun r s2 => wpAny (model X.prog X.w) X.A (letTemporaryGo value (.ref a) r >>= fun _ => pure r) (L2.EP X pins σ Q) X.xe s2) X.xe s := by
  rw [hs]
  exact wpAny_operating (wpAny_mono get (fun r s2 h2 => wpAny_bind (wpAny_letTemporaryGo (wpAny_pure h2))) fun _ _ z => z)
 first
  | exact wpAny_pure (wpAny_bind fin)
  | exact wpAny_bind (wpAny_pure (wpAny_bind fin))
  | exact wpAny_bind fin
theorem get_ok {K : Frag} {F H : Hp} {v w : V} {kvs : List (D × D)} {y z : D} (s : Same F H) (h : RpB K F H v (.dict kvs)) (hw : RpB K F H w y) (q : lookKD kvs y = some z) : ∃ a u, v = .ref a ∧ DGet H a w (some u) ∧ Rp K F u z := by
 rcases inv_dict s h with ⟨p, vs, ds, _, rfl, _, _⟩ | ⟨a, kws, ds, e, rd, r, rfl⟩
 ·cases y <;> cases q
 ·obtain ⟨k, u, rfl, h2, h3⟩ := look_ok r q
  exact ⟨a, u, e, .inl ⟨kws, k, rd, key_val hw, h2.symm⟩, h3⟩
theorem xd_seq {X : Cx} (hu : X.A.units + 64 < cLine) : IxR X (rD X.K ixD) := fun value slice pins s σ H x y v u Q I rx ry ⟨F, dx, dy, z, sm, rv, rw', hz, q⟩ hs => by
 have dict : ∀ kvs, RpB X.K F H x (.dict kvs) → lookKD kvs dy = some z → wpAny (model X.prog X.w) X.A (subscriptTail value slice v u) (L2.EP X pins σ Q) X.xe s := fun kvs rv hz => by
  obtain ⟨a, w, e, g, r⟩ := get_ok sm rv rw' hz
  exact ix_dictR hu value slice pins s σ H x y v u Q I rx ry ⟨a, w, e, g, q F H w (New.refl sm) r⟩ hs
 have old : ixD0 dx dy = some z → wpAny (model X.prog X.w) X.A (subscriptTail value slice v u) (L2.EP X pins σ Q) X.xe s := fun hz => xd_seq0 value slice pins s σ H x y v u Q I rx ry ⟨F, dx, dy, z, sm, rv, rw', hz, q⟩ hs
 cases dx with
 | dict kvs =>
  cases dy with
  | int i =>
   have hz : (match cells kvs with
    | some ds => atI ds i
    | none => lookKD kvs (.int i)) = some z := hz
   cases hc : cells kvs with
   | none => rw [hc] at hz; exact dict kvs rv hz
   | some ds =>
    rw [hc] at hz
    exact old (by show (cells kvs).bind _ = _; rw [hc]; exact hz)
  | str t => exact dict kvs rv hz
  | _ => cases hz
 | list _ => exact old (by cases dy <;> exact hz)
 | tuple _ => exact old (by cases dy <;> exact hz)
 | str _ => exact old (by cases dy <;> exact hz)
 | _ => cases hz
theorem se_ix {X : Cx} {c : Ct} {a b : Expr} {pos : Pos} {ka kb pa pb : Bool} {ma mb : M D} (hu : X.A.units + 64 < cLine) (ha : PE X a (te X.K c ka pa ma)) (hb : PE X b (te X.K c kb pb mb)) (hk : ka = true → pb = true := by decide) (hs : PlainIx b := by exact fun _ _ => rfl) :
  PE X (.Subscript a b pos) (te X.K c false (pa && pb) (mBin ixD ma mb)) := (pe_ix (xd_seq hu) ha hb hs).imp fun σ H Q h => bin_step (f := fun v _ => pure v) hk h
def cutD (xs : List D) (lo hi : Option Int) : List D := (xs.drop (HT.sIx xs.length 0 lo)).take (HT.sIx xs.length xs.length hi - HT.sIx xs.length 0 lo)
def slD (x : D) (lo hi : Option Int) : Option D := match x with
 | .list xs => some (.list (cutD xs lo hi))
 | .tuple xs => some (.tuple (cutD xs lo hi))
 | .str z => if z.length ≤ sizeLine then some (.str (cutS z lo hi)) else none
 | _ => none
def bNo : M (Option Int) := fun ρ => .ok none ρ
def bTo (m : M D) : M (Option Int) := fun ρ => (m ρ).bind fun x ρ1 => match x with
 | .int i => .ok (some i) ρ1
 | _ => .bad
def mSl (a : M D) (l u : M (Option Int)) : M D := fun ρ => (a ρ).bind fun x ρ1 => (l ρ1).bind fun i ρ2 => (u ρ2).bind fun j ρ3 => ofO (slD x i j) ρ3
section
variable {X : Cx} {c : Ct} {a b : Expr} {lo hi : Option Expr} {pos p2 : Pos} {ka kb pa pb pl pu : Bool} {ma mb : M D} {ml mu : M (Option Int)}
end
end DL
end
section
namespace DL
open PySem PySem.Spec PyProof.Rows L2
inductive RpW (K : Frag) (F : Hp) : V → D → Prop
 | s {v : V} {d : D} : Rp K F v d → RpW K F v d
 | w {a : Addr} {xs : List V} {ds : List D} : SqT K F a xs → RpAll K F xs ds → RpW K F (.ref a) (.tuple ds)
def RpI (tg : Expr) (K : Frag) (F : Hp) (v : V) (d : D) : Prop := match tg with
 | .Tuple _ _ _ => RpW K F v d
 | _ => Rp K F v d
theorem Rp.i {tg : Expr} {K : Frag} {F : Hp} {v : V} {d : D} (h : Rp K F v d) : RpI tg K F v d := by
 unfold RpI
 split
 ·exact .s h
 ·exact h
structure ItD (tg : Expr) (K : Frag) (F : Hp) (J : It) (xs : List D) : Prop where
 few : xs.length ≤ sizeLine
 go : ∀ F2 H2, Same F F2 → Same F2 H2 → ∀ i, i < xs.length → J.go i H2
 yl : ∀ F2 H2, Same F F2 → Same F2 H2 → ∀ i x H3, i < xs.length → J.yld i H2 x H3 → ∃ F3 d, New F2 H2 F3 H3 ∧ xs[i]? = some d ∧ RpI tg K F3 x d
 st : ∀ F2 H2, Same F F2 → Same F2 H2 → ∀ i, xs.length ≤ i → J.stop i H2
def PIx (tg : Expr) (K : Frag) (c : Ct) (pu : Bool) (F H : Hp) (σ : Sl) (R : It → Hp → Prop) (xs : List D) (ρ' : Env) : Prop :=
 ∀ F' H' O' J, EnvR K c F' H' σ ρ' O' → Same F F' → (pu = true → Same H H') → ItD tg K F' J xs → R J H'
def ti (tg : Expr) (K : Frag) (c : Ct) (pu : Bool) (m : M (List D)) : TI := fun σ H R => ∃ F ρ O, EnvR K c F H σ ρ O ∧ (m ρ).post (PIx tg K c pu F H σ R) (PX K c σ)
theorem getR {K : Frag} {F : Hp} {vs : List V} {ds : List D} {i : Nat} (r : RpAll K F vs ds) (h : i < ds.length) : ∃ v, vs[i]? = some v ∧ Rp K F v ds[i] := r.getD (by simp [h])
theorem itD_list {tg : Expr} {K : Frag} {F : Hp} {a : Addr} {vs : List V} {ds : List D} (hz : ds.length ≤ sizeLine) (h : SqL K F a vs) (r : RpAll K F vs ds) : ItD tg K F (Itl K a) ds where
 few := hz
 go := fun F2 H2 s1 s2 i hi => by
  obtain ⟨v, h1, _⟩ := getR r hi
  exact ⟨vs, v, sq_l (s1.trans s2) h, h1⟩
 yl := fun F2 H2 s1 s2 i x H3 hi ⟨e, y⟩ => by
  subst e
  obtain ⟨v, h1, h2⟩ := getR r hi
  have e := y vs (sq_l (s1.trans s2) h)
  rw [h1] at e
  cases e
  exact ⟨F2, _, New.refl s2, by simp [hi], (h2.mono s1).i⟩
 st := fun F2 H2 s1 s2 i hi => ⟨vs, sq_l (s1.trans s2) h, by rw [r.length]; exact hi⟩
theorem itD_tup {tg : Expr} {K : Frag} {F : Hp} {a : Addr} {vs : List V} {ds : List D} (hz : ds.length ≤ sizeLine) (h : SqT K F a vs) (r : RpAll K F vs ds) : ItD tg K F (Itt K a) ds where
 few := hz
 go := fun F2 H2 s1 s2 i hi => by
  obtain ⟨v, h1, _⟩ := getR r hi
  exact ⟨vs, v, sq_t (s1.trans s2) h, h1⟩
 yl := fun F2 H2 s1 s2 i x H3 hi ⟨e, y⟩ => by
  subst e
  obtain ⟨v, h1, h2⟩ := getR r hi
  have e := y vs (sq_t (s1.trans s2) h)
  rw [h1] at e
  cases e
  exact ⟨F2, _, New.refl s2, by simp [hi], (h2.mono s1).i⟩
 st := fun F2 H2 s1 s2 i hi => ⟨vs, sq_t (s1.trans s2) h, by rw [r.length]; exact hi⟩
def charsD (z : Str) : List D := z.cps.toList.map fun c => .str ⟨#[c]⟩
theorem itD_str {tg : Expr} {K : Frag} {F : Hp} {z : Str} (hz : z.length ≤ sizeLine) : ItD tg K F (Its z) (charsD z) where
 few := by unfold charsD; rw [List.length_map, Array.length_toList]; exact hz
 go := fun F2 H2 s1 s2 i hi => by
  unfold charsD at hi
  rw [List.length_map, Array.length_toList] at hi
  exact hi
 yl := fun F2 H2 s1 s2 i x H3 hi ⟨e, c, h1, h2⟩ => by
  subst e h2
  refine ⟨F2, _, New.refl s2, ?_, Rp.i (.str ⟨#[c]⟩)⟩
  unfold charsD
  rw [List.getElem?_map, Array.getElem?_toList, h1]
  rfl
 st := fun F2 H2 s1 s2 i hi => by
  unfold charsD at hi
  rw [List.length_map, Array.length_toList] at hi
  exact hi
theorem kV_rp {K : Frag} {F : Hp} (k : Key) : Rp K F (kV k) (kD k) := by
 cases k with
 | inl i => exact .int i
 | inr x => exact .str x
theorem zip_keys {α β γ : Type} {f : α → γ} : ∀ {kvs : List α} {ds : List β}, kvs.length = ds.length → ((kvs.map f).zip ds).map (·.1) = kvs.map f
 | [], [], _ => rfl
 | a :: kvs, d :: ds, h => by
  rw [List.map_cons, List.zip_cons_cons, List.map_cons, zip_keys (by simpa using h)]
 | [], _ :: _, h => by simp at h
 | _ :: _, [], h => by simp at h
theorem itD_keys {tg : Expr} {K : Frag} {F : Hp} {d : Addr} {o : Obj} {kvs : List (Key × V)} (hz : kvs.length ≤ sizeLine) (h : F d = some (.frz o (.dK kvs))) : ItD tg K F (Itk d o kvs) (kvs.map fun q => kD q.1) where
 few := by rw [List.length_map]; exact hz
 go := fun F2 H2 s1 s2 i hi => ⟨s2 _ _ (s1 _ _ h), by simpa using hi⟩
 yl := fun F2 H2 s1 s2 i x H3 hi y => by
  obtain ⟨e, k, v, h1, h2⟩ := y
  subst e h2
  refine ⟨F2, kD k, New.refl s2, ?_, (kV_rp k).i⟩
  rw [List.getElem?_map, h1]
  rfl
 st := fun F2 H2 s1 s2 i hi => ⟨s2 _ _ (s1 _ _ h), by simpa using hi⟩
def itemsD : D → Option (List D)
 | .list xs => some xs
 | .tuple xs => some xs
 | .str z => if z.length ≤ sizeLine then some (charsD z) else none
 | .dict kvs => match cells kvs with
  | some ds => some ds
  | none => some (kvs.map (·.1))
 | _ => none
def mItems (m : M D) : M (List D) := fun ρ => (m ρ).bind fun x ρ1 => ofO (itemsD x) ρ1
section
variable {X : Cx} {c : Ct} {tg e : Expr} {pos : Pos} {pu : Bool} {me : M D}
theorem pe_fits {t : TE} (h : PE X e t) : PE X e (fun σ H Q => t σ H fun v H1 => (∀ p, v = .ref p → (∀ xs, SqL X.K H1 p xs ∨ SqT X.K H1 p xs → xs.length ≤ sizeLine) ∧ ∀ kvs, Rd H1 p (.dK kvs) → kvs.length ≤ sizeLine) → Q v H1) := ⟨fun pins s σ H Q I hw => by
 refine thn (h.run pins s σ H _ I hw) fun u s1 ⟨x, H1, I1, r1, q1⟩ => ⟨x, H1, I1, r1, q1 fun p e => ?_⟩
 subst e
 refine ⟨fun xs hx => ?_, fun kvs hk => (dk_rd I1.hok hk).1⟩
 rcases hx with hx | hx
 ·obtain ⟨_, _, _, hz⟩ := I1.list hx
  exact hz
 ·obtain ⟨_, _, _, hz⟩ := I1.tuple hx
  exact hz⟩
theorem PI.imp {wi wi' : TI} (h : PI X tg e wi) (k : ∀ σ H R, wi' σ H R → wi σ H R) : PI X tg e wi' := ⟨fun pins s σ H R I q => h.run pins s σ H R I (k σ H R q)⟩
theorem si_val (he : PE X e (te X.K c false pu me)) : PI X tg e (ti tg X.K c pu (mItems me)) := ⟨fun pins s σ H R I h => by
 obtain ⟨F, ρ, O, ev, h⟩ := h
 have hb := Res.post_bind h
 have hf := pe_fits he
 -- the readings' common part
 have go : ∀ {P : V → Hp → Prop} (x : D), (∀ ρ1, me ρ = .ok x ρ1 → (ofO (itemsD x) ρ1).post (PIx tg X.K c pu F H σ R) (PX X.K c σ) → ∀ F1 H1 O1 v, EnvR X.K c F1 H1 σ ρ1 O1 → Same F F1 → (pu = true → Same H H1) → Rp X.K F1 v x →
   (∀ p, v = .ref p → (∀ xs, SqL X.K H1 p xs ∨ SqT X.K H1 p xs → xs.length ≤ sizeLine) ∧ ∀ kvs, Rd H1 p (.dK kvs) → kvs.length ≤ sizeLine) → P v H1) → (∀ ρ1 y, me ρ = .ok y ρ1 → y = x) →
   te X.K c false pu me σ H fun v H1 => (∀ p, v = .ref p → (∀ xs, SqL X.K H1 p xs ∨ SqT X.K H1 p xs → xs.length ≤ sizeLine) ∧ ∀ kvs, Rd H1 p (.dK kvs) → kvs.length ≤ sizeLine) → P v H1 := fun {P} x k u => by
  refine ⟨F, ρ, O, ev, ?_⟩
  cases r : me ρ with
  | bad => rw [r] at hb; exact hb
  | ex ξ ρ1 => rw [r] at hb; exact hb
  | ok y ρ1 =>
   rw [r] at hb
   have e := u ρ1 y r
   subst e
   exact fun F1 H1 O1 v e1 s1 p1 v1 fits => k ρ1 r hb F1 H1 O1 v e1 s1 p1 v1 fits
 cases r : me ρ with
 | bad => rw [r] at hb; exact hb.elim
 | ex ξ ρ1 => exact (pi_list (tg := tg) hf).run pins s σ H R I (go .none (fun ρ1 q => by rw [r] at q; cases q) fun ρ1 y q => by rw [r] at q; cases q)
 | ok x ρ1 =>
  rw [r] at hb
  obtain ⟨xs, hx, h1⟩ := post_ofO hb
  have u : ∀ ρ1 y, me ρ = .ok y ρ1 → y = x := fun ρ2 y q => by rw [r] at q; cases q; rfl
  cases x with
  | list ds =>
   cases hx
   refine (pi_list (tg := tg) hf).run pins s σ H R I (go (.list xs) (fun ρ2 q hq F1 H1 O1 v e1 s1 p1 v1 fits => ?_) u)
   rw [r] at q; cases q
   cases v1 with
   | lst ha rr =>
    have sl : SqL X.K F1 _ _ := .of ha
    exact ⟨_, rfl, ⟨_, sq_l e1.sub sl⟩, h1 F1 H1 O1 _ e1 s1 p1 (itD_list (by rw [← rr.length]; exact (fits _ rfl).1 _ (.inl (sq_l e1.sub sl))) sl rr)⟩
  | tuple ds =>
   cases hx
   refine (pi_tup (tg := tg) hf).run pins s σ H R I (go (.tuple xs) (fun ρ2 q hq F1 H1 O1 v e1 s1 p1 v1 fits => ?_) u)
   rw [r] at q; cases q
   cases v1 with
   | tup ha rr => exact ⟨_, rfl, ⟨_, sq_t e1.sub ha.seq⟩, h1 F1 H1 O1 _ e1 s1 p1 (itD_tup (by rw [← rr.length]; exact (fits _ rfl).1 _ (.inr (sq_t e1.sub ha.seq))) ha.seq rr)⟩
  | str z =>
   unfold itemsD at hx
   simp only at hx
   split at hx
   ·rename_i hz
    cases hx
    refine (pi_str (tg := tg) hf).run pins s σ H R I (go (.str z) (fun ρ2 q hq F1 H1 O1 v e1 s1 p1 v1 fits => ?_) u)
    rw [r] at q; cases q
    cases v1
    exact ⟨z, rfl, h1 F1 H1 O1 _ e1 s1 p1 (itD_str hz)⟩
   ·cases hx
  | dict kvs =>
   unfold itemsD at hx
   simp only at hx
   split at hx
   ·rename_i ds hc
    cases hx
    have hc := cells_ok hc
    subst hc
    refine (pi_list (tg := tg) hf).run pins s σ H R I (go (.dict [(.none, .list xs)]) (fun ρ2 q hq F1 H1 O1 v e1 s1 p1 v1 fits => ?_) u)
    rw [r] at q; cases q
    obtain ⟨p, ws, rfl, h2', r1⟩ := inv_scr (Same.refl F1) (.d v1)
    have h2 := sq_l e1.sub h2'
    exact ⟨_, rfl, ⟨_, h2⟩, h1 F1 H1 O1 _ e1 s1 p1 (itD_list (by rw [← r1.length]; exact (fits _ rfl).1 _ (.inl h2)) h2' r1)⟩
   ·rename_i hno
    ·cases hx
     refine (pi_keys (tg := tg) hf).run pins s σ H R I (go (.dict kvs) (fun ρ2 q hq F1 H1 O1 v e1 s1 p1 v1 fits => ?_) u)
     rw [r] at q; cases q
     generalize e2 : PyData.dict kvs = z at v1
     cases v1 with
     | @dcK a ob kws ds2 ha rr =>
      cases e2
      have hl := rr.length
      rw [List.length_map] at hl
      refine ⟨a, ob, rfl, .inl ⟨kws, e1.sub _ _ ha, ?_⟩⟩
      have z := h1 F1 H1 O1 (Itk a ob kws) e1 s1 p1
      rw [zip_keys hl] at z
      exact z (itD_keys ((fits _ rfl).2 _ (.inr ⟨_, e1.sub _ _ ha⟩)) ha)
     | scr ha rr => cases e2; simp [cells] at hno
     | _ => cases e2
  | _ => cases hx⟩
end
end DL
end
section
namespace DL
open PySem PySem.Spec PyProof.Rows L2
def rangeL (lo : Int) (n : Nat) : List D := (List.range n).map fun k => .int (lo + (k : Nat))
theorem itD_range {tg : Expr} {K : Frag} {F : Hp} {lo : Int} {n : Nat} (hz : n ≤ sizeLine) : ItD tg K F (Itr lo n) (rangeL lo n) where
 few := by unfold rangeL; rw [List.length_map, List.length_range]; exact hz
 go := fun F2 H2 s1 s2 i hi => by
  unfold rangeL at hi
  rw [List.length_map, List.length_range] at hi
  exact hi
 yl := fun F2 H2 s1 s2 i x H3 hi y => by
  obtain ⟨e, rfl⟩ := y
  subst e
  unfold rangeL at hi ⊢
  rw [List.length_map, List.length_range] at hi
  exact ⟨F2, _, New.refl s2, by simp [hi], Rp.i (.int _)⟩
 st := fun F2 H2 s1 s2 i hi => by
  unfold rangeL at hi
  rw [List.length_map, List.length_range] at hi
  exact hi
def intOf : D → Option Int
 | .int i => some i
 | _ => none
def range1 (x : D) : Option (List D) := (intOf x).bind fun n => if n.toNat ≤ sizeLine ∧ -(2 ^ 62) ≤ n then some (rangeL 0 n.toNat) else none
def range2 (x y : D) : Option (List D) := (intOf x).bind fun i => (intOf y).bind fun j => if (j - i).toNat ≤ sizeLine ∧ -(2 ^ 62) ≤ i ∧ i < 2 ^ 62 ∧ -(2 ^ 62) ≤ j ∧ j < 2 ^ 62 then some (rangeL i (j - i).toNat) else none
def mRange1 (a : M D) : M (List D) := fun ρ => (a ρ).bind fun x ρ1 => ofO (range1 x) ρ1
def mRange2 (a b : M D) : M (List D) := fun ρ => (a ρ).bind fun x ρ1 => (b ρ1).bind fun y ρ2 => ofO (range2 x y) ρ2
theorem intOf_ok {x : D} {i : Int} (h : intOf x = some i) : x = .int i := by
 unfold intOf at h
 split at h
 ·cases h; rfl
 ·cases h
theorem itD_zip {elts : List Expr} {kk : Nat} {tpos : Pos} {K : Frag} {F : Hp} {a b : Addr} {vs ws : List V} {ds es : List D} (hz : ds.length ≤ sizeLine) (h : SqL K F a vs) (g : SqL K F b ws) (r : RpAll K F vs ds) (q : RpAll K F ws es) : ItD (.Tuple elts kk tpos) K F (Itz K a b) ((ds.zip es).map fun p => .tuple [p.1, p.2]) where
 few := by rw [List.length_map, List.length_zip]; exact Nat.le_trans (Nat.min_le_left _ _) hz
 go := fun F2 H2 s1 s2 i hi => by
  rw [List.length_map, List.length_zip] at hi
  obtain ⟨v, h1, _⟩ := getR r (Nat.lt_of_lt_of_le hi (Nat.min_le_left _ _))
  obtain ⟨w, h2, _⟩ := getR q (Nat.lt_of_lt_of_le hi (Nat.min_le_right _ _))
  exact ⟨vs, ws, v, w, sq_l (s1.trans s2) h, sq_l (s1.trans s2) g, h1, h2⟩
 yl := fun F2 H2 s1 s2 i x H3 hi y => by
  obtain ⟨T, v, w, rfl, hT, rfl, y1, y2⟩ := y
  rw [List.length_map, List.length_zip] at hi
  obtain ⟨v', h1, r1⟩ := getR r (Nat.lt_of_lt_of_le hi (Nat.min_le_left _ _))
  obtain ⟨w', h2, r2⟩ := getR q (Nat.lt_of_lt_of_le hi (Nat.min_le_right _ _))
  have e1 := y1 vs (sq_l (s1.trans s2) h)
  have e2 := y2 ws (sq_l (s1.trans s2) g)
  rw [h1] at e1; cases e1
  rw [h2] at e2; cases e2
  have n := New.one s2 hT (.tup [v, w])
  refine ⟨_, _, n, ?_, RpW.w (.of upd_same) (.cons (r1.mono (s1.trans n.fF)) (.cons (r2.mono (s1.trans n.fF)) .nil))⟩
  rw [List.getElem?_map, List.getElem?_eq_getElem (by rw [List.length_zip]; exact hi), List.getElem_zip]
  rfl
 st := fun F2 H2 s1 s2 i hi => by
  rw [List.length_map, List.length_zip] at hi
  refine ⟨vs, ws, sq_l (s1.trans s2) h, sq_l (s1.trans s2) g, ?_⟩
  rw [r.length, q.length]
  omega
theorem itD_zipT {elts : List Expr} {kk : Nat} {tpos : Pos} {K : Frag} {F : Hp} {a b : Addr} {vs ws : List V} {ds es : List D} (hz : ds.length ≤ sizeLine) (h : SqT K F a vs) (g : SqT K F b ws) (r : RpAll K F vs ds) (q : RpAll K F ws es) : ItD (.Tuple elts kk tpos) K F (RZ.ItzT K a b) ((ds.zip es).map fun p => .tuple [p.1, p.2]) where
 few := by rw [List.length_map, List.length_zip]; exact Nat.le_trans (Nat.min_le_left _ _) hz
 go := fun F2 H2 s1 s2 i hi => by
  rw [List.length_map, List.length_zip] at hi
  obtain ⟨v, h1, _⟩ := getR r (Nat.lt_of_lt_of_le hi (Nat.min_le_left _ _))
  obtain ⟨w, h2, _⟩ := getR q (Nat.lt_of_lt_of_le hi (Nat.min_le_right _ _))
  exact ⟨vs, ws, v, w, sq_t (s1.trans s2) h, sq_t (s1.trans s2) g, h1, h2⟩
 yl := fun F2 H2 s1 s2 i x H3 hi y => by
  obtain ⟨T, v, w, rfl, hT, rfl, y1, y2⟩ := y
  rw [List.length_map, List.length_zip] at hi
  obtain ⟨v', h1, r1⟩ := getR r (Nat.lt_of_lt_of_le hi (Nat.min_le_left _ _))
  obtain ⟨w', h2, r2⟩ := getR q (Nat.lt_of_lt_of_le hi (Nat.min_le_right _ _))
  have e1 := y1 vs (sq_t (s1.trans s2) h)
  have e2 := y2 ws (sq_t (s1.trans s2) g)
  rw [h1] at e1; cases e1
  rw [h2] at e2; cases e2
  have n := New.one s2 hT (.tup [v, w])
  refine ⟨_, _, n, ?_, RpW.w (.of upd_same) (.cons (r1.mono (s1.trans n.fF)) (.cons (r2.mono (s1.trans n.fF)) .nil))⟩
  rw [List.getElem?_map, List.getElem?_eq_getElem (by rw [List.length_zip]; exact hi), List.getElem_zip]
  rfl
 st := fun F2 H2 s1 s2 i hi => by
  rw [List.length_map, List.length_zip] at hi
  refine ⟨vs, ws, sq_t (s1.trans s2) h, sq_t (s1.trans s2) g, ?_⟩
  rw [r.length, q.length]
  omega
def enumD (xs : List D) : List D := (xs.zipIdx).map fun p => .tuple [.int (p.2 : Nat), p.1]
section
variable {X : Cx} {c : Ct} {tg e e2 : Expr} {pos p tpos apos cpos : Pos} {pu p1 p2 : Bool} {me ma mb : M D} {elts : List Expr} {kk : Nat}
theorem ta_1 {F H : Hp} {σ : Sl} {ρ : Env} {O : List Addr} (e : EnvR X.K c F H σ ρ O) {m : M D} {k : D → M (List D)} {R : It → Hp → Prop} {Q : List V → Hp → Prop} (h : ((m ρ).bind k).post (PIx tg X.K c pu F H σ R) (PX X.K c σ))
  (q : ∀ x ρ1 F1 H1 O1 v, (k x ρ1).post (PIx tg X.K c pu F H σ R) (PX X.K c σ) → EnvR X.K c F1 H1 σ ρ1 O1 → Same F F1 → (pu = true → Same H H1) → RpB X.K F1 H1 v x → Q [v] H1) : ta1 X.K c pu m σ H Q :=
 ⟨F, ρ, O, e, Res.post_imp (Res.post_bind h) (fun x ρ1 h1 F1 H1 O1 v e1 s1 p1 r1 => q x ρ1 F1 H1 O1 v h1 e1 s1 p1 r1) fun _ _ h => h⟩
theorem si_range1 (hm : X.mg "range" = none) (ha : PE X e (te X.K c false pu ma)) (hg : Gl X "range" := by rfl) (hs : starEach [e] X.env = [(false, eval e X.env)] := by rfl) : PI X tg (.Call (.Name "range" p) [e] [] pos) (ti tg X.K c pu (mRange1 ma)) :=
 PI.imp (pi_range1 hg hm (sa_1 ha (by rw [hs]; rfl)) hs) fun σ H R ⟨F, ρ, O, ev, h⟩ => by
  refine ta_1 ev h fun x ρ1 F1 H1 O1 v h1 e1 s1 q1 r1 => ?_
  obtain ⟨xs, hx, h2⟩ := post_ofO h1
  obtain ⟨n, hn, hx'⟩ := Option.bind_eq_some_iff.mp hx
  have en := intOf_ok hn
  subst en
  clear hx h1
  have hx := hx'
  split at hx
  ·rename_i hz
   cases hx
   have hs : sizeLine = 16777216 := sizeLine_eq
   exact ⟨n, by rw [inv_int r1], hz.2, by omega, h2 F1 H1 O1 _ e1 s1 q1 (itD_range hz.1)⟩
  ·cases hx
def zipD : D → D → Option (List D)
 | .list xs, .list ys => some ((xs.zip ys).map fun p => .tuple [p.1, p.2])
 | .tuple xs, .tuple ys => some ((xs.zip ys).map fun p => .tuple [p.1, p.2])
 | _, _ => none
def mZip (a b : M D) : M (List D) := fun ρ => (a ρ).bind fun x ρ1 => (b ρ1).bind fun y ρ2 => ofO (zipD x y) ρ2
theorem si_zip (hm : X.mg "zip" = none) (ha : PE X e (te X.K c false p1 ma)) (hb : PE X e2 (te X.K c false p2 mb)) (hg : Gl X "zip" := by rfl) (hs : starEach [e, e2] X.env = (false, eval e X.env) :: starEach [e2] X.env := by rfl) (hs2 : starEach [e2] X.env = (false, eval e2 X.env) :: starEach [] X.env := by rfl) (hpl : (backTo pos (starEach [e2] X.env)).any (·.1) = false := by rfl) :
  PI X (.Tuple elts kk tpos) (.Call (.Name "zip" p) [e, e2] [] pos) (ti (.Tuple elts kk tpos) X.K c (p1 && p2) (mZip ma mb)) :=
 PI.imp (RZ.pi_zipA hg hm (pa_cons (pe_fits ha) (pa_cons hb pa_nil hs2) hs) hs hpl) fun σ H R ⟨F, ρ, O, ev, h⟩ => by
  refine te_step ev h fun x ρ1 F1 H1 O1 v h1 e1 s1 q1 r1 fits => te_step e1 h1 fun y ρ2 F2 H2 O2 w h2 e2 s2 q2 r2 => ?_
  obtain ⟨xs, hx, h3⟩ := post_ofO h2
  unfold zipD at hx
  split at hx
  ·cases hx
   cases r1 with
   | lst a1 b1 =>
    cases r2 with
    | lst a2 b2 => exact ⟨_, _, _, _, rfl, .inl ⟨sq_l (s2.trans e2.sub) (.of a1), sq_l e2.sub (.of a2), h3 F2 H2 O2 _ e2 (s1.trans s2) (and_p q1 q2) (itD_zip (by rw [← b1.length]; exact (fits _ rfl).1 _ (.inl (sq_l e1.sub (.of a1)))) (sq_l s2 (.of a1)) (.of a2) (b1.mono s2) b2)⟩⟩
  ·cases hx
   cases r1 with
   | tup a1 b1 =>
    cases r2 with
    | tup a2 b2 => exact ⟨_, _, _, _, rfl, .inr ⟨sq_t (s2.trans e2.sub) a1.seq, sq_t e2.sub a2.seq, h3 F2 H2 O2 _ e2 (s1.trans s2) (and_p q1 q2) (itD_zipT (by rw [← b1.length]; exact (fits _ rfl).1 _ (.inr (sq_t e1.sub a1.seq))) (sq_t s2 a1.seq) a2.seq (b1.mono s2) b2)⟩⟩
  ·cases hx
def enumO : D → Option (List D)
 | .list xs => some (enumD xs)
 | _ => none
def mEnum (a : M D) : M (List D) := fun ρ => (a ρ).bind fun x ρ1 => ofO (enumO x) ρ1
end
def PGt (K : Frag) (c : Ct) (F H : Hp) (σ : Sl) (Q : Sl → Hp → Prop) (ρ' : Env) : Prop := ∀ σ' F' H' O', New F H F' H' → EnvR K c F' H' σ' ρ' O' → σ'.length = σ.length → Q σ' H'
def tgD (tg : Expr) (K : Frag) (c : Ct) (t : D → Env → Option Env) : TG := fun v σ H Q => ∃ F ρ O x ρ', EnvR K c F H σ ρ O ∧ RpI tg K F v x ∧ t x ρ = some ρ' ∧ PGt K c F H σ Q ρ'
def tgsD (K : Frag) (c : Ct) (t : List D → Env → Option Env) : TGs := fun vs σ H Q => ∃ F ρ O xs ρ', EnvR K c F H σ ρ O ∧ RpAll K F vs xs ∧ t xs ρ = some ρ' ∧ PGt K c F H σ Q ρ'
def tName (i : Nat) : D → Env → Option Env := fun x ρ => some (ρ.set i (some (.d x)))
def tsNil : List D → Env → Option Env := fun xs ρ => match xs with
 | [] => some ρ
 | _ => none
def tsCons (t : D → Env → Option Env) (u : List D → Env → Option Env) : List D → Env → Option Env := fun xs ρ => match xs with
 | x :: r => (t x ρ).bind fun ρ1 => u r ρ1
 | [] => none
def tTup (n : Nat) (u : List D → Env → Option Env) : D → Env → Option Env := fun x ρ => match x with
 | .tuple xs => if xs.length = n then u xs ρ else none
 | _ => none
section
variable {X : Cx} {c : Ct} {e : Expr} {es : List Expr} {pos : Pos} {t : D → Env → Option Env} {u : List D → Env → Option Env} {x : Str}
theorem tg_name {i : Nat} (hN : X.N.Nodup) (hi : X.N[i]? = some x := by rfl) (hx : Loc X.env.scope x := by first | exact Or.inl rfl | exact Or.inr rfl) (hc : (c.fx.all fun j => j != i) = true := by rfl) (hf : X.fn x = true ∨ X.env.scope.names.lookup x = some .local := by first | exact .inl rfl | exact .inr rfl) :
  PG X (.Name x pos) (tgD (.Name x pos) X.K c (tName i)) := ⟨fun pins s σ H v w Q I r ⟨F, ρ, O, d, ρ', ev, rv, ht, q⟩ => by
 refine (pg_name (pos := pos) hN hi hx hf).run pins s σ H v w Q I r ?_
 cases ht
 obtain ⟨O', e'⟩ := ev.putD rv (slen hi I) hc
 exact q _ F H O' (New.refl ev.sub) e' (List.length_set ..)⟩
theorem tg_nil : PGs X [] (tgsD X.K c tsNil) := ⟨fun pins s σ H vs us Q I r ⟨F, ρ, O, xs, ρ', ev, rv, ht, q⟩ => by
 refine pgs_nil.run pins s σ H vs us Q I r ?_
 cases rv with
 | nil => cases ht; exact ⟨rfl, q σ F H O (New.refl ev.sub) ev rfl⟩
 | cons _ _ => cases ht⟩
theorem tg_cons (h1 : PG X e (tgD e X.K c t)) (h2 : PGs X es (tgsD X.K c u)) (hs : (assignEach (e :: es) X.env).map (·.2) = assign e X.env :: (assignEach es X.env).map (·.2) := by rfl) : PGs X (e :: es) (tgsD X.K c (tsCons t u)) := ⟨fun pins s σ H vs us Q I r ⟨F, ρ, O, xs, ρ', ev, rv, ht, q⟩ => by
 refine (pgs_cons h1 h2 hs).run pins s σ H vs us Q I r ?_
 cases rv with
 | nil => cases ht
 | cons r1 r2 =>
  obtain ⟨ρ1, h3, h4⟩ := Option.bind_eq_some_iff.mp ht
  exact ⟨_, _, rfl, F, ρ, O, _, ρ1, ev, r1.i, h3, fun σ1 F1 H1 O1 n1 e1 l1 => ⟨F1, ρ1, O1, _, ρ', e1, r2.mono n1.fF, h4, fun σ2 F2 H2 O2 n2 e2 l2 => q σ2 F2 H2 O2 (n1.trans n2) e2 (l2.trans l1)⟩⟩⟩
theorem tg_tup {k n : Nat} (hc : X.calm = true) (h : PGs X es (tgsD X.K c u)) (hn : (assignEach es X.env).length = n := by rfl) (hst : (assignEach es X.env).findIdx? (·.1) = none := by rfl) : PG X (.Tuple es k pos) (tgD (.Tuple es k pos) X.K c (tTup n u)) := ⟨fun pins s σ H v w Q I r ⟨F, ρ, O, d, ρ', ev, rv, ht, q⟩ => by
 refine (pg_tup (pos := pos) (k := k) hc h hn hst).run pins s σ H v w Q I r ?_
 unfold tTup at ht
 split at ht
 ·split at ht
  ·rename_i hl
   have rv : RpW X.K F v _ := rv
   cases rv with
   | s rv => cases rv with
    | tup ha rr => exact ⟨_, _, rfl, sq_t ev.sub ha.seq, by rw [rr.length]; exact hl, F, ρ, O, _, ρ', ev, rr, ht, q⟩
   | w ha rr => exact ⟨_, _, rfl, sq_t ev.sub ha, by rw [rr.length]; exact hl, F, ρ, O, _, ρ', ev, rr, ht, q⟩
  ·cases ht
 ·cases ht⟩
end
abbrev Ct.at (c : Ct) (F H : Hp) (O : List Addr) (σ : Sl) : Ct := ⟨c.ca, F, H, O, c.fx, σ, c.W⟩
theorem EnvR.self {K : Frag} {c : Ct} {F H : Hp} {σ : Sl} {ρ : Env} {O : List Addr} (e : EnvR K c F H σ ρ O) : EnvR K (c.at F H O σ) F H σ ρ O :=
 ⟨e.sub, Same.refl _, fun b o q _ => q, fun b _ _ q => q, e.sl, e.nd, fun p hp => ⟨(e.ow p hp).1, .inl hp⟩, fun i _ => rfl⟩
theorem EnvR.trans {K : Frag} {c : Ct} {F1 H1 F H : Hp} {σ1 σ : Sl} {ρ1 ρ : Env} {O1 O : List Addr} (a : EnvR K c F1 H1 σ1 ρ1 O1) (b : EnvR K (c.at F1 H1 O1 σ1) F H σ ρ O) : EnvR K c F H σ ρ O where
 sub := b.sub
 f0 := a.f0.trans b.f0
 h0 := fun x o q h => b.h0 x o (a.h0 x o q h) fun z => by
  rcases (a.ow x z).2 with w | w
  ·exact h w
  ·rw [w] at q; cases q
 n0 := fun x h1 h2 h3 => by
  cases q : c.H x with
  | none => exact absurd q h1
  | some o =>
   refine b.n0 x (fun z => ?_) (fun z => ?_) (a.n0 x h1 h2 h3)
   ·have z : H1 x = none := z
    rw [a.h0 x o q h2] at z; cases z
   ·rcases (a.ow x z).2 with w | w
    ·exact h2 w
    ·exact h1 w
 sl := b.sl
 nd := b.nd
 ow := fun p hp => ⟨(b.ow p hp).1, by
  rcases (b.ow p hp).2 with z | z
  ·exact (a.ow p z).2
  ·by_cases hc : p ∈ c.O
   ·exact .inl hc
   ·refine .inr ?_
    cases q : c.H p with
    | none => rfl
    | some o =>
     have z : H1 p = none := z
     rw [a.h0 p o q hc] at z; cases z⟩
 fx := fun i hi => (b.fx i hi).trans (a.fx i hi)
theorem Apart.trans {K : Frag} {c : Ct} {F1 H1 F : Hp} {σ1 : Sl} {ρ1 : Env} {O1 O A : List Addr} (a : EnvR K c F1 H1 σ1 ρ1 O1) (b : Apart (c.at F1 H1 O1 σ1) F A O) : Apart c F A O := ⟨b.nd, fun p hp => ⟨(b.ow p hp).1, by
  rcases (b.ow p hp).2 with z | z
  ·exact (a.ow p z).2
  ·by_cases hc : p ∈ c.O
   ·exact .inl hc
   ·refine .inr ?_
    cases q : c.H p with
    | none => rfl
    | some o =>
     have z : H1 p = none := z
     rw [a.h0 p o q hc] at z; cases z⟩⟩
def forGo (tg : D → Env → Option Env) (b : M Fl) : List D → M Fl
 | [] => fun ρ => .ok .nx ρ
 | x :: xs => fun ρ => match tg x ρ with
  | none => .bad
  | some ρ1 => (b ρ1).bind fun f ρ2 => match f with
   | .nx => forGo tg b xs ρ2
   | .ct => forGo tg b xs ρ2
   | .bk => .ok .nx ρ2
   | .rt o => .ok (.rt o) ρ2
def sFor (it : M (List D)) (tg : D → Env → Option Env) (b : M Fl) : M Fl := fun ρ => (it ρ).bind fun xs ρ1 => forGo tg b xs ρ1
section
variable {X : Cx} {c : Ct} {tg e d : Expr} {body : List Stmt} {pos : Pos} {pu : Bool} {mi : M (List D)} {b : M Fl} {t : D → Env → Option Env}
def tsE (K : Frag) (c : Ct) (m : M Fl) : TS := fun D σ H => ∃ F0 H0 O0 σ0, ts K (c.at F0 H0 O0 σ0) m D σ H
def tgE (tg : Expr) (K : Frag) (c : Ct) (t : D → Env → Option Env) : TG := fun v σ H Q => ∃ F0 H0 O0 σ0, tgD tg K (c.at F0 H0 O0 σ0) t v σ H Q
theorem ss_at (hb : ∀ F H O σ, PSs X body (ts X.K (c.at F H O σ) b)) : PSs X body (tsE X.K c b) := ⟨fun pins s σ H D I ⟨F0, H0, O0, σ0, q⟩ => (hb F0 H0 O0 σ0).run pins s σ H D I q⟩
theorem tg_at (hg : ∀ F H O σ, PG X tg (tgD tg X.K (c.at F H O σ) t)) : PG X tg (tgE tg X.K c t) := ⟨fun pins s σ H v u Q I r ⟨F0, H0, O0, σ0, q⟩ => (hg F0 H0 O0 σ0).run pins s σ H v u Q I r q⟩
theorem exc_at {K : Frag} {F1 H1 : Hp} {σ1 : Sl} {ρ1 : Env} {O1 : List Addr} {ξ : Exc} {ρ' : Env} (a : EnvR K c F1 H1 σ1 ρ1 O1) (h : PXs K c ξ ρ') : PXs K (c.at F1 H1 O1 σ1) ξ ρ' := fun σ F H O cls d e x => h σ F H O cls d (a.trans e) x
theorem sv_for (hp : PassesOwn (model X.prog X.w) X.A X.env X.xe) (hc : X.calm = true) (hi : PI X tg e (ti tg X.K c pu mi)) (hg : ∀ F H O σ, PG X tg (tgD tg X.K (c.at F H O σ) t)) (hb : ∀ F H O σ, PSs X body (ts X.K (c.at F H O σ) b)) (hs : ∀ x, foldedSetIterable e X.env x = pure x := by intro _; rfl) :
  PS X (.For tg e body [] pos) (ts X.K c (sFor mi t b)) := (ps_for hp hc hi (tg_at hg) (ss_at hb) hs).imp fun Dn σ H ⟨F, ρ, O, ev, h⟩ => by
 refine ⟨F, ρ, O, ev, Res.post_imp (Res.post_bind h) (fun xs ρ1 h1 F1 H1 O1 J e1 s1 p1 it => ?_) fun _ _ h F' H' O' cls d => h σ F' H' O' cls d⟩
 refine ⟨fun i m σ' H' => m = xs.length - i ∧ i ≤ xs.length ∧ ∃ F2 ρ2 O2, EnvR X.K c F2 H' σ' ρ2 O2 ∧ Same F1 F2 ∧ (forGo t b (xs.drop i) ρ2).post (PS' X.K c Dn) (PXs X.K c), ⟨xs.length, by simp, Nat.zero_le _, F1, ρ1, O1, e1, Same.refl _, h1⟩, ?_⟩
 rintro i m σ' H' ⟨rfl, hi, F2, ρ2, O2, e2, s2, h2⟩
 by_cases hlt : i < xs.length
 ·rw [List.drop_eq_getElem_cons hlt] at h2
  refine .inr ⟨it.go F2 H' s2 e2.sub i hlt, fun σ3 H3 => ∃ F3 ρ3 O3, EnvR X.K c F3 H3 σ3 ρ3 O3 ∧ Same F1 F3 ∧ (forGo t b (xs.drop (i + 1)) ρ3).post (PS' X.K c Dn) (PXs X.K c), fun σ3 H3 ⟨F3, ρ3, O3, e3, s3, h3⟩ => ⟨xs.length - (i + 1), by omega, rfl, hlt, F3, ρ3, O3, e3, s3, h3⟩, fun x H3 y => ?_⟩
  obtain ⟨F3, dx, n3, hd, r3⟩ := it.yl F2 H' s2 e2.sub i x H3 hlt y
  rw [List.getElem?_eq_getElem hlt] at hd
  cases hd
  have h2' : (match t xs[i] ρ2 with
   | none => Res.bad
   | some ρ1 => (b ρ1).bind fun f ρ2 => match f with
    | .nx => forGo t b (xs.drop (i + 1)) ρ2
    | .ct => forGo t b (xs.drop (i + 1)) ρ2
    | .bk => .ok .nx ρ2
    | .rt o => .ok (.rt o) ρ2).post (PS' X.K c Dn) (PXs X.K c) := h2
  cases ht : t xs[i] ρ2 with
  | none => rw [ht] at h2'; exact h2'.elim
  | some ρ3 =>
   rw [ht] at h2'
   have e3 := e2.new n3
   refine ⟨F3, H3, O2, σ', F3, ρ2, O2, _, ρ3, e3.self, r3, ht, fun σ4 F4 H4 O4 n4 e4 _ => ?_⟩
   refine ⟨F3, H3, O2, σ', F4, ρ3, O4, e4, Res.post_imp (Res.post_bind h2') (fun f ρ5 h5 => ?_) fun _ _ h => exc_at e3 h⟩
   cases f with
   | nx => exact fun σ6 F6 H6 O6 e6 => ⟨F6, ρ5, O6, e3.trans e6, (s2.trans n3.fF).trans e6.f0, h5⟩
   | ct => exact fun σ6 F6 H6 O6 e6 => ⟨F6, ρ5, O6, e3.trans e6, (s2.trans n3.fF).trans e6.f0, h5⟩
   | bk => exact fun σ6 F6 H6 O6 e6 => h5 σ6 F6 H6 O6 (e3.trans e6)
   | rt o => exact fun σ6 F6 H6 O6 A v e6 r6 a6 => h5 σ6 F6 H6 O6 A v (e3.trans e6) r6 (Apart.trans e3 a6)
 ·have e : i = xs.length := by omega
  subst e
  rw [List.drop_length] at h2
  exact .inl ⟨it.st F2 H' s2 e2.sub _ (Nat.le_refl _), h2 σ' F2 H' O2 e2⟩
def whileGo (t : M Bool) (b : M Fl) : Nat → M Fl
 | 0 => fun _ => .bad
 | n + 1 => fun ρ => (t ρ).bind fun x ρ1 => if x = true then (b ρ1).bind fun f ρ2 => match f with
   | .nx => whileGo t b n ρ2
   | .ct => whileGo t b n ρ2
   | .bk => .ok .nx ρ2
   | .rt o => .ok (.rt o) ρ2
  else .ok .nx ρ1
open Classical in
noncomputable def sWhile (t : M Bool) (b : M Fl) : M Fl := fun ρ => if h : ∃ n, whileGo t b n ρ ≠ .bad then whileGo t b (Classical.choose h) ρ else .bad
theorem whileGo_more {t : M Bool} {b : M Fl} : ∀ {n : Nat} {ρ : Env}, whileGo t b n ρ ≠ .bad → whileGo t b (n + 1) ρ = whileGo t b n ρ
 | 0, ρ, h => absurd rfl h
 | n + 1, ρ, h => by
  have e : whileGo t b (n + 1) ρ = ((t ρ).bind fun x ρ1 => if x = true then (b ρ1).bind fun f ρ2 => match f with
   | .nx => whileGo t b n ρ2
   | .ct => whileGo t b n ρ2
   | .bk => .ok .nx ρ2
   | .rt o => .ok (.rt o) ρ2
   else .ok .nx ρ1) := rfl
  have e2 : whileGo t b (n + 1 + 1) ρ = ((t ρ).bind fun x ρ1 => if x = true then (b ρ1).bind fun f ρ2 => match f with
   | .nx => whileGo t b (n + 1) ρ2
   | .ct => whileGo t b (n + 1) ρ2
   | .bk => .ok .nx ρ2
   | .rt o => .ok (.rt o) ρ2
   else .ok .nx ρ1) := rfl
  rw [e] at h ⊢
  rw [e2]
  cases ht : t ρ with
  | bad => rfl
  | ex ξ ρ1 => rfl
  | ok x ρ1 =>
   rw [ht] at h
   cases x with
   | false => rfl
   | true =>
    show ((b ρ1).bind _) = ((b ρ1).bind _)
    have h : ((b ρ1).bind fun f ρ2 => match f with
     | .nx => whileGo t b n ρ2
     | .ct => whileGo t b n ρ2
     | .bk => .ok .nx ρ2
     | .rt o => .ok (.rt o) ρ2) ≠ .bad := h
    cases hb : b ρ1 with
    | bad => rfl
    | ex ξ ρ2 => rfl
    | ok f ρ2 =>
     rw [hb] at h
     cases f with
     | nx => exact whileGo_more (n := n) h
     | ct => exact whileGo_more (n := n) h
     | bk => rfl
     | rt o => rfl
theorem whileGo_le {t : M Bool} {b : M Fl} {n m : Nat} {ρ : Env} (hl : n ≤ m) (h : whileGo t b n ρ ≠ .bad) : whileGo t b m ρ = whileGo t b n ρ := by
 induction m with
 | zero =>
  have e : n = 0 := by omega
  subst e
  rfl
 | succ m ih =>
  by_cases e : n = m + 1
  ·subst e; rfl
  ·have hl : n ≤ m := by omega
   have q := ih hl
   rw [whileGo_more (by rw [q]; exact h), q]
theorem sWhile_eq {t : M Bool} {b : M Fl} {n : Nat} {ρ : Env} (h : whileGo t b n ρ ≠ .bad) : sWhile t b ρ = whileGo t b n ρ := by
 unfold sWhile
 have hx : ∃ n, whileGo t b n ρ ≠ .bad := ⟨n, h⟩
 rw [dif_pos hx]
 have hc := Classical.choose_spec hx
 rcases Nat.le_total n (Classical.choose hx) with hl | hl
 ·exact whileGo_le hl h
 ·exact (whileGo_le hl hc).symm
theorem sv_while {tst : M Bool} (hp : PassesOwn (model X.prog X.w) X.A X.env X.xe) (hd : PT X d (tt X.K c pu tst)) (hb : PSs X body (ts X.K c b)) : PS X (.While d body [] pos) (ts X.K c (sWhile tst b)) := (ps_while hp hd hb).imp fun Dn σ H ⟨F, ρ, O, ev, h⟩ => by
 unfold sWhile at h
 split at h
 ·rename_i hx
  generalize Classical.choose hx = n at h
  refine ⟨fun m σ H => ∃ F ρ O, EnvR X.K c F H σ ρ O ∧ (whileGo tst b m ρ).post (PS' X.K c Dn) (PXs X.K c), ⟨n, F, ρ, O, ev, h⟩, ?_⟩
  rintro m σ1 H1 ⟨F1, ρ1, O1, e1, h1⟩
  cases m with
  | zero => exact h1.elim
  | succ m =>
   refine tt_stepS e1 h1 fun x ρ2 F2 H2 O2 h2 e2 s2 p2 => ?_
   cases x with
   | false => exact h2 σ1 F2 H2 O2 e2
   | true =>
    rw [if_pos rfl] at h2 ⊢
    refine ⟨fun σ3 H3 => ∃ F3 ρ3 O3, EnvR X.K c F3 H3 σ3 ρ3 O3 ∧ (whileGo tst b m ρ3).post (PS' X.K c Dn) (PXs X.K c), fun σ3 H3 q => ⟨m, Nat.lt_succ_self m, q⟩, ?_⟩
    refine ⟨F2, ρ2, O2, e2, Res.post_imp (Res.post_bind h2) (fun f ρ3 h3 => ?_) fun _ _ h => h⟩
    cases f with
    | nx => exact fun σ4 F4 H4 O4 e4 => ⟨F4, ρ3, O4, e4, h3⟩
    | ct => exact fun σ4 F4 H4 O4 e4 => ⟨F4, ρ3, O4, e4, h3⟩
    | bk => exact h3
    | rt o => exact h3
 ·exact h.elim
end
end DL
end
section
namespace DL
open PySem PySem.Spec PyProof.Rows L2
def wipeE (ρ : Env) : List Nat → Env
 | [] => ρ
 | v :: vs => (wipeE ρ vs).set v none
def backE (ρ1 : Env) : List Nat → Env → Env
 | [], ρ2 => ρ2
 | v :: vs, ρ2 => backE ρ1 vs (ρ2.set v (match ρ1[v]? with
  | some w => w
  | none => none))
def dataAt (ρ1 : Env) : List Nat → Bool
 | [] => true
 | v :: vs => (match ρ1[v]? with
  | some (some (.d _)) => !vs.contains v
  | some (some _) => false
  | _ => true) && dataAt ρ1 vs
section
variable {K : Frag} {c : Ct} {F H : Hp} {σ : Sl} {ρ : Env} {O : List Addr}
theorem EnvR.wipe1 (e : EnvR K c F H σ ρ O) {i : Nat} (hf : (c.fx.all fun j => j != i) = true) : ∃ R, EnvR K c F H (σ.set i none) (ρ.set i none) R ∧ ∀ b ∈ R, b ∈ O := by
 by_cases hi : i < σ.length
 ·obtain ⟨R, h1, h2, h3, _⟩ := e.sl.put (i := i) hi
  refine ⟨R, ⟨e.sub, e.f0, e.h0, e.n0, h3 none, h2 e.nd, fun p hp => e.ow p (h1 p hp), fun j hj => ?_⟩, h1⟩
  have z := List.all_eq_true.mp hf j hj
  have z : j ≠ i := by simpa using z
  rw [List.getElem?_set_ne (Ne.symm z)]
  exact e.fx j hj
 ·have hl := e.sl.length
  rw [List.set_eq_of_length_le (by omega), List.set_eq_of_length_le (by omega)]
  exact ⟨O, e, fun _ h => h⟩
theorem EnvR.wipe (e : EnvR K c F H σ ρ O) : ∀ {vs : List Nat}, (vs.all fun i => c.fx.all fun j => j != i) = true → ∃ R, EnvR K c F H (L2.wipe σ vs) (wipeE ρ vs) R ∧ ∀ b ∈ R, b ∈ O
 | [], _ => ⟨O, e, fun _ h => h⟩
 | v :: vs, hf => by
  rw [List.all_cons, Bool.and_eq_true] at hf
  obtain ⟨R, h1, h2⟩ := EnvR.wipe e hf.2
  obtain ⟨R', h3, h4⟩ := h1.wipe1 hf.1
  exact ⟨R', h3, fun b hb => h2 b (h4 b hb)⟩
theorem slr_set_one {v : Option V} {w : Option OV} {R : List Addr} {i : Nat} {τ : Sl} (e : SlR K c.ca F H (τ.set i none) ρ O) (hv : τ[i]? = some v) (hw : w = none ∨ ∃ u x, v = some u ∧ w = some (.d x) ∧ Rp K F u x) :
  ∃ O', SlR K c.ca F H τ (ρ.set i w) O' ∧ (∀ b ∈ O', b ∈ O) ∧ (O.Nodup → O'.Nodup) := by
 have hi : i < (τ.set i none).length := by rw [List.length_set]; exact (List.getElem?_eq_some_iff.mp hv).1
 obtain ⟨R, h1, h2, h3, h4⟩ := e.put (i := i) hi
 have es : (τ.set i none).set i v = τ := by rw [List.set_set, set_self hv]
 rcases hw with rfl | ⟨u, x, rfl, rfl, r⟩
 ·have z := h3 v
  rw [es] at z
  exact ⟨R, z, h1, h2⟩
 ·obtain ⟨O', k1, k2⟩ := h4 u (.d x) [] (.d r)
  rw [es] at k1
  exact ⟨O', k1, fun b hb => h1 b (by simpa using k2.mem_iff.mp hb), fun n => k2.nodup_iff.mpr (by simpa using h2 n)⟩
theorem slr_back {F1 H1 : Hp} {ρ1 : Env} {O1 : List Addr} (a : SlR K c.ca F1 H1 σ ρ1 O1) (s : Same F1 F) : ∀ {vs : List Nat} {ρ2 : Env} {O2 : List Addr}, SlR K c.ca F H (L2.wipe σ vs) ρ2 O2 → dataAt ρ1 vs = true →
  ∃ O3, SlR K c.ca F H σ (backE ρ1 vs ρ2) O3 ∧ (∀ b ∈ O3, b ∈ O2) ∧ (O2.Nodup → O3.Nodup)
 | [], ρ2, O2, e, _ => ⟨O2, e, fun _ h => h, fun h => h⟩
 | v :: vs, ρ2, O2, e, hd => by
  unfold dataAt at hd
  rw [Bool.and_eq_true] at hd
  have e' : SlR K c.ca F H ((L2.wipe σ vs).set v none) ρ2 O2 := e
  by_cases hv : v < (L2.wipe σ vs).length
  ·obtain ⟨O', k1, k2, k3⟩ := slr_set_one (R := []) (w := match ρ1[v]? with
    | some w => w
    | none => none) e' (List.getElem?_eq_getElem hv) (by
    cases q : ρ1[v]? with
    | none => exact .inl rfl
    | some w =>
     cases w with
     | none => exact .inl rfl
     | some o =>
      have hd1 := hd.1
      rw [q] at hd1
      cases o with
      | d x =>
       refine .inr ?_
       obtain ⟨u, A, R, t1, t2, _⟩ := a.at q
       cases t2 with
       | d r =>
        have hn : v ∉ vs := by simpa using hd1
        have z := wipe_out (σ := σ) hn
        rw [t1, List.getElem?_eq_getElem hv] at z
        exact ⟨u, x, Option.some.inj z, rfl, r.mono s⟩
      | lst _ => cases hd1
      | dct _ => cases hd1
      | dctT _ => cases hd1
      | obj _ _ => cases hd1
      | tup _ => cases hd1)
   obtain ⟨O3, m1, m2, m3⟩ := slr_back a s k1 hd.2
   exact ⟨O3, m1, fun b hb => k2 b (m2 b hb), fun n => m3 (k3 n)⟩
  ·have hl := e'.length
   rw [List.length_set] at hl
   rw [List.set_eq_of_length_le (Nat.le_of_not_lt hv)] at e'
   obtain ⟨O3, m1, m2, m3⟩ := slr_back a s e' hd.2
   refine ⟨O3, ?_, m2, m3⟩
   unfold backE
   rw [List.set_eq_of_length_le (by omega)]
   exact m1
theorem wipe_in {i : Nat} : ∀ {vs : List Nat}, i ∈ vs → i < σ.length → (L2.wipe σ vs)[i]? = some none
 | v :: vs, h, hl => by
  unfold L2.wipe
  by_cases e : v = i
  ·subst e
   rw [List.getElem?_set_self (by rw [wipe_length]; exact hl)]
  ·rw [List.getElem?_set_ne e]
   exact wipe_in (by
    rcases List.mem_cons.mp h with h | h
    ·exact absurd h.symm e
    ·exact h) hl
theorem wipe_eq {σ2 : Sl} {vs fb : List Nat} {n : Nat} (hn : σ.length = n) (hl : σ2.length = (L2.wipe σ vs).length) (hall : ((List.range n).all fun i => vs.contains i || fb.contains i) = true) (hf : ∀ i ∈ fb, σ2[i]? = (L2.wipe σ vs)[i]?) : L2.wipe σ2 vs = L2.wipe σ vs := by
 rw [wipe_length] at hl
 refine List.ext_getElem? fun i => ?_
 by_cases hi : i < n
 ·by_cases hm : i ∈ vs
  ·rw [wipe_in hm (by omega), wipe_in hm (by omega)]
  ·rw [wipe_out hm]
   have z := List.all_eq_true.mp hall i (List.mem_range.mpr hi)
   have z : i ∈ fb := by
    rcases Bool.or_eq_true_iff.mp z with z | z
    ·exact absurd (by simpa using z) hm
    ·simpa using z
   exact hf i z
 ·rw [List.getElem?_eq_none (by rw [wipe_length]; omega), List.getElem?_eq_none (by rw [wipe_length]; omega)]
end
def Res.bindN {α β : Type} : Res α → (α → Env → Res β) → Res β
 | .ok a ρ, k => k a ρ
 | .ex _ _, _ => .bad
 | .bad, _ => .bad
theorem post_bindN {α β : Type} {r : Res α} {k : α → Env → Res β} {P : β → Env → Prop} {E : Exc → Env → Prop} (h : (r.bindN k).post P E) : r.post (fun a ρ => (k a ρ).post P E) fun _ _ => False := by
 cases r <;> exact h
def lcGo (vs : List Nat) (t : D → Env → Option Env) (tst : M Bool) (e : M D) : List D → M (List D)
 | [] => fun ρ => .ok [] ρ
 | x :: xs => fun ρ => match t x ρ with
  | none => .bad
  | some ρ1 => (tst ρ1).bindN fun b ρ2 => if b = true then (e ρ2).bindN fun y ρ3 => (lcGo vs t tst e xs (wipeE ρ3 vs)).bindN fun ys ρ4 => .ok (y :: ys) ρ4 else lcGo vs t tst e xs (wipeE ρ2 vs)
def mLc (vs : List Nat) (it : M (List D)) (t : D → Env → Option Env) (tst : M Bool) (e : M D) : M (List D) := fun ρ => (it ρ).bind fun xs ρ1 => if dataAt ρ1 vs = true then (lcGo vs t tst e xs (wipeE ρ1 vs)).bindN fun ys ρ2 => .ok ys (backE ρ1 vs ρ2) else .bad
def mYes : M Bool := fun ρ => .ok true ρ
abbrev Ct.blk (c : Ct) (fb : List Nat) (F H : Hp) (O : List Addr) (σ : Sl) : Ct := ⟨c.ca, F, H, O, fb, σ, fun _ _ _ _ => False⟩
section
variable {X : Cx} {c : Ct} {tg e elt : Expr} {pos : Pos} {pi pt pe : Bool} {mi : M (List D)} {t : D → Env → Option Env} {tst : M Bool} {me : M D} {scope : Scope} {own : List (Str × Nat)} {ifs : List Expr} {fb : List Nat}
theorem st_yes : ∀ {X : Cx} {c : Ct}, PTs X [] (tt X.K c true mYes) := ⟨fun pins s σ H Q I ⟨F, ρ, O, e, h⟩ => pts_nil.run pins s σ H Q I (h F H O e (Same.refl _) fun _ => Same.refl _)⟩
structure Out (K : Frag) (F H : Hp) (D0 : Addr) (O : List Addr) (a : List V) (xs : List D) : Prop where
 at_ : H D0 = some (.lst a)
 rp : RpAll K F a xs
 nf : F D0 = none
 no : D0 ∉ O
theorem Out.step {K : Frag} {cb : Ct} {F H F' H' : Hp} {D0 : Addr} {O O' : List Addr} {σ σ' : Sl} {ρ' : Env} {a : List V} {xs : List D} (o : Out K F H D0 O a xs) (e : EnvR K (cb.at F H O σ) F' H' σ' ρ' O') : Out K F' H' D0 O' a xs := by
 refine ⟨e.h0 _ _ o.at_ o.no, o.rp.mono e.f0, e.n0 D0 (fun z => by have z : H D0 = none := z; rw [o.at_] at z; cases z) o.no o.nf, fun hm => ?_⟩
 rcases (e.ow D0 hm).2 with z | z
 ·exact o.no z
 ·have z : H D0 = none := z
  rw [o.at_] at z
  cases z
theorem pe_len {e : Expr} {t : TE} (h : PE X e t) : PE X e (fun σ H Q => σ.length = X.N.length → t σ H Q) := ⟨fun pins s σ H Q I q => h.run pins s σ H Q I (q I.len)⟩
def ttE (K : Frag) (c : Ct) (fb : List Nat) (pu : Bool) (m : M Bool) : TT := fun σ H Q => ∃ F0 H0 O0 σ0, tt K (c.blk fb F0 H0 O0 σ0) pu m σ H Q
def teE (K : Frag) (c : Ct) (fb : List Nat) (pu : Bool) (m : M D) : TE := fun σ H Q => ∃ F0 H0 O0 σ0, te K (c.blk fb F0 H0 O0 σ0) false pu m σ H Q
def tgB (tg : Expr) (K : Frag) (c : Ct) (fb : List Nat) (t : D → Env → Option Env) : TG := fun v σ H Q => ∃ F0 H0 O0 σ0, tgD tg K (c.blk fb F0 H0 O0 σ0) t v σ H Q
theorem lc_step {n : Nat} {vs : List Nat} {σ : Sl} {H : Hp} {Q : VK} (hlen : σ.length = n) (hvf : (vs.all fun i => fb.all fun j => j != i) = true) (hall : ((List.range n).all fun i => vs.contains i || fb.contains i) = true) (hcf : (vs.all fun i => c.fx.all fun j => j != i) = true)
  (h0 : tn X.K c (pi && (pt && pe)) (mLc vs mi t tst me) σ H Q) : tLc (ti tg X.K c pi mi) (tgB tg X.K c fb t) (ttE X.K c fb pt tst) (teE X.K c fb pe me) vs σ H Q := by
 obtain ⟨F, ρ, O, ev, h⟩ := h0
 refine ⟨F, ρ, O, ev, Res.post_imp (Res.post_bind h) (fun xs ρ1 h1 F1 H1 O1 J e1 s1 p1 it D0 hD => ?_) fun _ _ h => h⟩
 split at h1
 rotate_left
 ·exact h1.elim
 rename_i hda
 -- the block's entry
 obtain ⟨R, ew, hR⟩ := e1.wipe (vs := vs) hcf
 have nD := New.own e1.sub hD (.lst ([] : List V))
 have ew := ew.new nD
 have h2 := post_bindN h1
 have start : EnvR X.K (c.blk fb F1 (upd H1 D0 (.lst [])) (D0 :: R) (L2.wipe σ vs)) F1 (upd H1 D0 (.lst [])) (L2.wipe σ vs) (wipeE ρ1 vs) R :=
  ⟨ew.sub, Same.refl _, fun b o q _ => q, fun b _ _ q => q, ew.sl, ew.nd, fun p hp => ⟨(ew.ow p hp).1, .inl (List.mem_cons_of_mem _ hp)⟩, fun i _ => rfl⟩
 have DR : D0 ∉ R := fun z => e1.sl.there D0 (hR D0 z) hD
 generalize hcb : c.blk fb F1 (upd H1 D0 (.lst [])) (D0 :: R) (L2.wipe σ vs) = cb at start
 have cbat : ∀ F H O σ, cb.at F H O σ = c.blk fb F H O σ := fun F H O σ => by rw [← hcb]
 have cbfx : cb.fx = fb := by rw [← hcb]
 refine ⟨fun i m H' => m = xs.length - i ∧ i ≤ xs.length ∧ ∃ F2 ρ2 O2 a acc, EnvR X.K cb F2 H' (L2.wipe σ vs) ρ2 O2 ∧ Out X.K F2 H' D0 O2 a acc ∧ acc.length ≤ i ∧ ((pt && pe) = true → Same H1 H') ∧
   (lcGo vs t tst me (xs.drop i) ρ2).post (fun ys ρ3 => PN X.K c (pi && (pt && pe)) F H σ Q (acc ++ ys) (backE ρ1 vs ρ3)) (fun _ _ => False),
  ⟨xs.length, by simp, Nat.zero_le _, F1, wipeE ρ1 vs, R, [], [], start, ⟨upd_same, .nil, e1.sub.free hD, DR⟩, Nat.zero_le _, fun _ => nD.hH, h2⟩, ?_⟩
 rintro i m H' ⟨rfl, hil, F2, ρ2, O2, a, acc, e2, out, hacc, pur, h3⟩
 have s2 : Same F1 F2 := by have z := e2.f0; rw [← hcb] at z; exact z
 by_cases hlt : i < xs.length
 ·rw [List.drop_eq_getElem_cons hlt] at h3
  refine .inr ⟨it.go F2 H' s2 e2.sub i hlt, fun H3 => ∃ F3 ρ3 O3 a' acc', EnvR X.K cb F3 H3 (L2.wipe σ vs) ρ3 O3 ∧ Out X.K F3 H3 D0 O3 a' acc' ∧ acc'.length ≤ i + 1 ∧ ((pt && pe) = true → Same H1 H3) ∧
   (lcGo vs t tst me (xs.drop (i + 1)) ρ3).post (fun ys ρ4 => PN X.K c (pi && (pt && pe)) F H σ Q (acc' ++ ys) (backE ρ1 vs ρ4)) (fun _ _ => False), fun H3 ⟨F3, ρ3, O3, a', acc', q1, q2, q3, q4, q5⟩ => ⟨xs.length - (i + 1), by omega, rfl, hlt, F3, ρ3, O3, a', acc', q1, q2, q3, q4, q5⟩, fun x H3 y => ?_⟩
  obtain ⟨F3, dx, n3, hd, r3⟩ := it.yl F2 H' s2 e2.sub i x H3 hlt y
  rw [List.getElem?_eq_getElem hlt] at hd
  cases hd
  have h3' : (match t xs[i] ρ2 with
   | none => Res.bad
   | some ρ1 => (tst ρ1).bindN fun b ρ2 => if b = true then (me ρ2).bindN fun y ρ3 => (lcGo vs t tst me (xs.drop (i + 1)) (wipeE ρ3 vs)).bindN fun ys ρ4 => .ok (y :: ys) ρ4 else lcGo vs t tst me (xs.drop (i + 1)) (wipeE ρ2 vs)).post
    (fun ys ρ3 => PN X.K c (pi && (pt && pe)) F H σ Q (acc ++ ys) (backE ρ1 vs ρ3)) (fun _ _ => False) := h3
  cases htx : t xs[i] ρ2 with
  | none => rw [htx] at h3'; exact h3'.elim
  | some ρ3 =>
   rw [htx] at h3'
   have e3 := e2.new n3
   have out3 : Out X.K F3 H3 D0 O2 a acc := ⟨n3.hH _ _ out.at_, out.rp.mono n3.fF, n3.nw D0 (fun z => by rw [out.at_] at z; cases z) out.nf, out.no⟩
   refine ⟨F3, H3, O2, L2.wipe σ vs, F3, ρ2, O2, _, ρ3, ?_, r3, htx, fun σ4 F4 H4 O4 n4 e4 l4 => ?_⟩
   ·rw [← cbat]; exact e3.self
   ·rw [← cbat] at e4
    have a4 := e3.trans e4
    have out4 := out3.step e4
    refine ⟨wipe_eq hlen l4 hall fun j hj => e4.fx j (by rw [← cbfx] at hj; exact hj), ?_⟩
    have hw : L2.wipe σ4 vs = L2.wipe σ vs := wipe_eq hlen l4 hall fun j hj => e4.fx j (by rw [← cbfx] at hj; exact hj)
    refine ⟨F4, H4, O4, σ4, F4, ρ3, O4, by rw [← cbat]; exact a4.self, Res.post_imp (post_bindN h3') (fun b ρ5 h5 F5 H5 O5 e5 s5 p5 => ?_) fun _ _ h => h.elim⟩
    rw [← cbat] at e5
    have a5 := a4.trans e5
    have out5 := out4.step e5
    cases b with
    | false =>
     rw [if_neg Bool.false_ne_true] at h5 ⊢
     obtain ⟨R5, w5, hR5⟩ := a5.wipe (vs := vs) (by rw [cbfx]; exact hvf)
     rw [hw] at w5
     exact ⟨F5, wipeE ρ5 vs, R5, a, acc, w5, ⟨out5.at_, out5.rp, out5.nf, fun z => out5.no (hR5 _ z)⟩, by omega, fun q => (((pur q).trans n3.hH).trans n4.hH).trans (p5 (Bool.and_eq_true_iff.mp q).1), h5⟩
    | true =>
     rw [if_pos rfl] at h5 ⊢
     refine ⟨F5, H5, O5, σ4, F5, ρ5, O5, by rw [← cbat]; exact a5.self, Res.post_imp (post_bindN h5) (fun yv ρ6 h6 F6 H6 O6 v6 e6 s6 p6 r6 => ?_) fun _ _ h => h.elim⟩
     rw [← cbat] at e6
     have a6 := a5.trans e6
     have out6 := out5.step e6
     obtain ⟨R6, w6, hR6⟩ := a6.wipe (vs := vs) (by rw [cbfx]; exact hvf)
     rw [hw] at w6
     have noR6 : D0 ∉ R6 := fun z => out6.no (hR6 _ z)
     have few := it.few
     refine ⟨a, out6.at_, by rw [out6.rp.length]; omega, F6, wipeE ρ6 vs, R6, a ++ [v6], acc ++ [yv], ?_, ⟨upd_same, out6.rp.append (.one r6), out6.nf, noR6⟩, by rw [List.length_append]; simp; omega, fun q => ?_, ?_⟩
     ·refine ⟨fun b u q => ?_, w6.f0, fun b o q hb => ?_, w6.n0, w6.sl.mono (Same.refl _) fun b hb => upd_ne fun z => noR6 (by rw [← z]; exact hb), w6.nd, w6.ow, w6.fx⟩
      ·rw [upd_ne fun z => by rw [z, out6.nf] at q; cases q]
       exact w6.sub b u q
      ·rw [upd_ne fun z => hb (by rw [z, ← hcb]; exact List.mem_cons_self)]
       exact w6.h0 b o q hb
     ·obtain ⟨q1, q2⟩ := Bool.and_eq_true_iff.mp q
      refine fun b o hb => ?_
      rw [upd_ne fun z => by rw [z, hD] at hb; cases hb]
      exact p6 q2 _ _ (p5 q1 _ _ (n4.hH _ _ (n3.hH _ _ (pur q b o hb))))
     ·have z := post_bindN h6
      refine Res.post_imp z (fun ys ρ7 h7 => ?_) fun _ _ h => h
      have h7 : PN X.K c (pi && (pt && pe)) F H σ Q (acc ++ yv :: ys) (backE ρ1 vs ρ7) := h7
      rw [List.append_assoc]
      exact h7
 ·have ei : i = xs.length := by omega
  subst ei
  rw [List.drop_length] at h3
  have h3 : PN X.K c (pi && (pt && pe)) F H σ Q (acc ++ []) (backE ρ1 vs ρ2) := h3
  rw [List.append_nil] at h3
  obtain ⟨O3, m1, m2, m3⟩ := slr_back (H := H') e1.sl s2 (by have z := e2.sl; rw [← hcb] at z; exact z) hda
  have fin : EnvR X.K c F2 H' σ (backE ρ1 vs ρ2) O3 := by
   rw [← hcb] at e2
   refine ⟨e2.sub, e1.f0.trans s2, fun b o q hb => ?_, fun b q1 q2 q3 => ?_, m1, m3 e2.nd, fun p hp => ?_, e1.fx⟩
   ·have z := e1.h0 b o q hb
    have hbD : b ≠ D0 := fun k => by rw [k, hD] at z; cases z
    refine e2.h0 b o ?_ fun k => ?_
    ·show upd H1 D0 _ b = _
     rw [upd_ne hbD]; exact z
    ·rcases List.mem_cons.mp k with k | k
     ·exact hbD k
     ·rcases (ew.ow b k).2 with k2 | k2
      ·exact hb k2
      ·rw [q] at k2; cases k2
   ·cases q : c.H b with
    | none => exact absurd q q1
    | some o =>
     have z := e1.h0 b o q q2
     have hbD : b ≠ D0 := fun k => by rw [k, hD] at z; cases z
     refine e2.n0 b (fun k => ?_) (fun k => ?_) (e1.n0 b q1 q2 q3)
     ·have k : upd H1 D0 (.lst []) b = none := k
      rw [upd_ne hbD, z] at k; cases k
     ·rcases List.mem_cons.mp k with k | k
      ·exact hbD k
      ·rcases (ew.ow b k).2 with k2 | k2
       ·exact q2 k2
       ·rw [q] at k2; cases k2
   ·have hp2 := m2 p hp
    refine ⟨(e2.ow p hp2).1, ?_⟩
    have hpD : p ≠ D0 := fun k => out.no (by rw [← k]; exact hp2)
    rcases (e2.ow p hp2).2 with k | k
    ·rcases List.mem_cons.mp k with k | k
     ·exact absurd k hpD
     ·exact (ew.ow p k).2
    ·have k : upd H1 D0 (.lst []) p = none := k
     rw [upd_ne hpD] at k
     by_cases hc : p ∈ c.O
     ·exact .inl hc
     ·refine .inr ?_
      cases q : c.H p with
      | none => rfl
      | some o => rw [e1.h0 p o q hc] at k; cases k
  refine .inl ⟨it.st F2 H' s2 e2.sub _ (Nat.le_refl _), h3 F2 H' O3 D0 a fin (s1.trans s2) (fun q => ?_) out.at_ out.rp ⟨?_, fun p hp => ?_⟩⟩
  ·obtain ⟨q1, q2⟩ := Bool.and_eq_true_iff.mp q
   exact (p1 q1).trans (pur q2)
  ·rw [List.singleton_append, List.nodup_cons]
   exact ⟨fun k => out.no (m2 _ k), fin.nd⟩
  ·rw [List.mem_singleton] at hp
   subst hp
   refine ⟨out.nf, ?_⟩
   by_cases hc : p ∈ c.O
   ·exact .inl hc
   ·refine .inr ?_
    cases q : c.H p with
    | none => rfl
    | some o => rw [e1.h0 p o q hc] at hD; cases hD
theorem blk_g (hg : ∀ F H O σ (s : Shared) (Hb : Hp) (C : Addr) (cl : List (Str × Addr)) (fp : List Addr), PG (X.blk s Hb scope (compEnvC scope cl C X.env) fp) tg (tgD tg X.K (c.blk fb F H O σ) t)) : ∀ (s : Shared) (Hb : Hp) (C : Addr) (cl : List (Str × Addr)) (fp : List Addr), PG (X.blk s Hb scope (compEnvC scope cl C X.env) fp) tg (tgB tg X.K c fb t) :=
 fun s H C cl fp => ⟨fun pins s' σ H' v u Q I r ⟨F0, H0, O0, σ0, q⟩ => (hg F0 H0 O0 σ0 s H C cl fp).run pins s' σ H' v u Q I r q⟩
theorem blk_t (ht : ∀ F H O σ (s : Shared) (Hb : Hp) (C : Addr) (cl : List (Str × Addr)) (fp : List Addr), PTs (X.blk s Hb scope (compEnvC scope cl C X.env) fp) ifs (tt X.K (c.blk fb F H O σ) pt tst)) : ∀ (s : Shared) (Hb : Hp) (C : Addr) (cl : List (Str × Addr)) (fp : List Addr), PTs (X.blk s Hb scope (compEnvC scope cl C X.env) fp) ifs (ttE X.K c fb pt tst) :=
 fun s H C cl fp => ⟨fun pins s' σ H' Q I ⟨F0, H0, O0, σ0, q⟩ => (ht F0 H0 O0 σ0 s H C cl fp).run pins s' σ H' Q I q⟩
theorem blk_e (he : ∀ F H O σ (s : Shared) (Hb : Hp) (C : Addr) (cl : List (Str × Addr)) (fp : List Addr), PE (X.blk s Hb scope (compEnvC scope cl C X.env) fp) elt (te X.K (c.blk fb F H O σ) false pe me)) : ∀ (s : Shared) (Hb : Hp) (C : Addr) (cl : List (Str × Addr)) (fp : List Addr), PE (X.blk s Hb scope (compEnvC scope cl C X.env) fp) elt (teE X.K c fb pe me) :=
 fun s H C cl fp => ⟨fun pins s' σ H' Q I ⟨F0, H0, O0, σ0, q⟩ => (he F0 H0 O0 σ0 s H C cl fp).run pins s' σ H' Q I q⟩
theorem n_lc (hc : X.calm = true) (hN : X.N.Nodup) (hi : PI X tg e (ti tg X.K c pi mi)) (ok : BlkOk X.N X.env.scope scope own)
  (hg : ∀ F H O σ (s : Shared) (Hb : Hp) (C : Addr) (cl : List (Str × Addr)) (fp : List Addr), PG (X.blk s Hb scope (compEnvC scope cl C X.env) fp) tg (tgD tg X.K (c.blk fb F H O σ) t))
  (ht : ∀ F H O σ (s : Shared) (Hb : Hp) (C : Addr) (cl : List (Str × Addr)) (fp : List Addr), PTs (X.blk s Hb scope (compEnvC scope cl C X.env) fp) ifs (tt X.K (c.blk fb F H O σ) pt tst))
  (he : ∀ F H O σ (s : Shared) (Hb : Hp) (C : Addr) (cl : List (Str × Addr)) (fp : List Addr), PE (X.blk s Hb scope (compEnvC scope cl C X.env) fp) elt (te X.K (c.blk fb F H O σ) false pe me))
  (hs : ∀ x, foldedSetIterable e X.env x = pure x := by intro _; rfl) (hvf : ((own.map (·.2)).all fun i => fb.all fun j => j != i) = true := by rfl) (hall : ((List.range X.N.length).all fun i => (own.map (·.2)).contains i || fb.contains i) = true := by rfl) (hcf : ((own.map (·.2)).all fun i => c.fx.all fun j => j != i) = true := by rfl) :
  PE X (.ListComp elt [⟨tg, e, ifs, 0⟩] scope pos) (tn X.K c (pi && (pt && pe)) (mLc (own.map (·.2)) mi t tst me)) :=
 (pe_len (pe_lc (pos := pos) hc hN hi ok (blk_g hg) (blk_t ht) (blk_e he) hs)).imp fun σ H Q h hlen => lc_step hlen hvf hall hcf h
theorem sv_setLc {i : Nat} {y : Str} {py spos : Pos} (hc : X.calm = true) (hN : X.N.Nodup) (hi : PI X tg e (ti tg X.K c pi mi)) (ok : BlkOk X.N X.env.scope scope own)
  (hg : ∀ F H O σ (s : Shared) (Hb : Hp) (C : Addr) (cl : List (Str × Addr)) (fp : List Addr), PG (X.blk s Hb scope (compEnvC scope cl C X.env) fp) tg (tgD tg X.K (c.blk fb F H O σ) t))
  (ht : ∀ F H O σ (s : Shared) (Hb : Hp) (C : Addr) (cl : List (Str × Addr)) (fp : List Addr), PTs (X.blk s Hb scope (compEnvC scope cl C X.env) fp) ifs (tt X.K (c.blk fb F H O σ) pt tst))
  (he : ∀ F H O σ (s : Shared) (Hb : Hp) (C : Addr) (cl : List (Str × Addr)) (fp : List Addr), PE (X.blk s Hb scope (compEnvC scope cl C X.env) fp) elt (te X.K (c.blk fb F H O σ) false pe me))
  (hy : X.N[i]? = some y := by rfl) (hyl : X.env.scope.names.lookup y = some .local := by rfl) (hfi : (c.fx.all fun j => j != i) = true := by rfl)
  (hsw : swapsWith (.ListComp elt [⟨tg, e, ifs, 0⟩] scope pos) (some (.Name y py)) spos.line X.env = pure true := by exact sw_true rfl rfl rfl rfl)
  (hs : ∀ x, foldedSetIterable e X.env x = pure x := by intro _; rfl) (hvf : ((own.map (·.2)).all fun i => fb.all fun j => j != i) = true := by rfl) (hall : ((List.range X.N.length).all fun i => (own.map (·.2)).contains i || fb.contains i) = true := by rfl) (hcf : ((own.map (·.2)).all fun i => c.fx.all fun j => j != i) = true := by rfl) :
  PS X (.Assign [.Name y py] (.ListComp elt [⟨tg, e, ifs, 0⟩] scope pos) spos) (ts X.K c (sSet i (mLstF (mLc (own.map (·.2)) mi t tst me)))) := ⟨fun pins s σ H Dn I ⟨F, ρ, O, ev, h⟩ => by
 refine (ps_setLc hc hN hy hyl hsw hi ok (blk_g hg) (blk_t ht) (blk_e he) hs).run pins s σ H Dn I ?_
 refine lc_step I.len hvf hall hcf ⟨F, ρ, O, ev, ?_⟩
 refine Res.post_imp (Res.post_bind (Res.post_bind h)) (fun xs ρ1 h2 F' H' O' p vs e' s' p' h3 h4 h5 => ?_) fun _ _ h F' H' O' cls d => h σ F' H' O' cls d
 have s2 : Same F' (frzF F' H' [p]) := frz_same fun q hq => (h5.ow q hq).1
 obtain ⟨O2, e2⟩ := (e'.frz h5).putD (i := i) (.lst ((frz_in (List.mem_singleton_self _)).trans h3) (h4.mono s2)) (slen hy I) hfi
 exact h2 _ _ H' O2 e2⟩
end
end DL
end
section
namespace DL
open PySem PySem.Spec PyProof.Rows L2
theorem EnvR.write {K : Frag} {c : Ct} {F H : Hp} {σ : Sl} {ρ : Env} {O : List Addr} {i : Nat} {xs ys : List D} {p : Addr} {ws : List V} (e : EnvR K c F H σ ρ O) (h : ρ[i]? = some (some (.lst xs))) (hp : σ[i]? = some (some (.ref p))) (r : RpAll K F ws ys) :
  ∃ O', EnvR K c F (upd H p (.lst ws)) σ (ρ.set i (some (.lst ys))) O' := by
 obtain ⟨v, A, R, h1, h2, h3, h4⟩ := e.sl.at h
 rw [hp] at h1; cases h1
 have hA : A = [p] := by cases h2; rfl
 subst hA
 have nd := h3.nodup_iff.mp e.nd
 have pR : p ∉ R := fun z => (List.nodup_cons.mp nd).1 z
 have pO : p ∈ O := h3.mem_iff.mpr (by simp)
 obtain ⟨_, k2⟩ := h4 F (upd H p (.lst ws)) (Same.refl _) fun b hb => upd_ne fun z => pR (by rw [← z]; exact hb)
 obtain ⟨O', k3, k4⟩ := k2 (.ref p) (.lst ys) [p] (.lst upd_same r)
 rw [set_self hp] at k3
 have hO : O'.Perm O := k4.trans h3.symm
 refine ⟨O', fun b u q => ?_, e.f0, fun b o q hb => ?_, e.n0, k3, hO.nodup_iff.mpr e.nd, fun q hq => e.ow q (hO.mem_iff.mp hq), e.fx⟩
 ·rw [upd_ne fun z => by rw [z, (e.ow p pO).1] at q; cases q]
  exact e.sub b u q
 ·rw [upd_ne fun z => by
   subst z
   rcases (e.ow b pO).2 with w | w
   ·exact hb w
   ·rw [w] at q; cases q]
  exact e.h0 b o q hb
theorem EnvR.lstAt {K : Frag} {c : Ct} {F H : Hp} {σ : Sl} {ρ : Env} {O : List Addr} {i : Nat} {xs : List D} (e : EnvR K c F H σ ρ O) (h : ρ[i]? = some (some (.lst xs))) : ∃ p vs, σ[i]? = some (some (.ref p)) ∧ H p = some (.lst vs) ∧ RpAll K F vs xs := by
 obtain ⟨v, A, h1, h2⟩ := e.var h
 cases h2 with
 | lst h3 h4 => exact ⟨_, _, h1, h3, h4⟩
def mLM (i : Nat) (g : List D → List D → Option (List D × D)) (ms : M (List D)) : M D := fun ρ => match ρ[i]? with
 | some (some (.lst _)) => (ms ρ).bind fun as ρ1 => match ρ1[i]? with
  | some (some (.lst xs)) => match g xs as with
   | some z => .ok z.2 (ρ1.set i (some (.lst z.1)))
   | none => .bad
  | _ => .bad
 | _ => .bad
def rLM (K : Frag) (g : List D → List D → Option (List D × D)) : V → List V → Hp → VK → Prop := fun v vs H Q => ∃ F p ws xs as z, v = .ref p ∧ Same F H ∧ H p = some (.lst ws) ∧ F p = none ∧ RpAll K F ws xs ∧ RpAll K F vs as ∧ g xs as = some z ∧ ∀ ws' u, RpAll K F ws' z.1 → Rp K F u z.2 → Q u (upd H p (.lst ws'))
section
variable {X : Cx} {c : Ct} {e : Expr} {es : List Expr} {pos apos cpos npos : Pos} {pu : Bool} {ms : M (List D)} {g : List D → List D → Option (List D × D)} {x name : Str} {id : String}
theorem lm_step {i : Nat} {to : TE} {t : TA} {σ : Sl} {H : Hp} {Q : VK} {F : Hp} {ρ1 : Env} {O : List Addr} {as : List D} {vs : List V} {p : Addr} (e : EnvR X.K c F H σ ρ1 O) (hp : σ[i]? = some (some (.ref p))) (ra : RpAll X.K F vs as)
  (h : (match ρ1[i]? with
  | some (some (.lst xs)) => match g xs as with
   | some z => Res.ok z.2 (ρ1.set i (some (.lst z.1)))
   | none => .bad
  | _ => .bad).post (fun (x : D) ρ' => ∀ F' H' O' v, EnvR X.K c F' H' σ ρ' O' → Same F F' → Rp X.K F' v x → Q v H') (PX X.K c σ)) : rLM X.K g (.ref p) vs H Q := by
 cases q : ρ1[i]? with
 | none => rw [q] at h; exact h.elim
 | some w =>
  rw [q] at h
  cases w with
  | none => exact h.elim
  | some o =>
   cases o with
   | lst xs =>
    obtain ⟨p', ws, h1, h2, h3⟩ := e.lstAt q
    rw [hp] at h1; cases h1
    cases hg : g xs as with
    | none => simp only [hg] at h; exact h.elim
    | some z =>
     simp only [hg] at h
     have fp : F p = none := by
      obtain ⟨v, A, R, t1, t2, t3, _⟩ := e.sl.at q
      rw [hp] at t1; cases t1
      cases t2
      exact (e.ow p (t3.mem_iff.mpr (by simp))).1
     refine ⟨F, p, ws, xs, as, z, rfl, e.sub, h2, fp, h3, ra, hg, fun ws' u r1 r2 => ?_⟩
     obtain ⟨O', e'⟩ := e.write q hp r1
     exact h F _ O' u e' (Same.refl _) r2
   | d _ => exact h.elim
   | dct _ => exact h.elim
   | dctT _ => exact h.elim
   | obj _ _ => exact h.elim
   | tup _ => exact h.elim
theorem se_lm (i : Nat) (slot : Slot "list" name id) (hty : typeOf (.builtin id) = pure (.type "method_descriptor")) (hm : MtR X id (rLM X.K g)) (ha : SA X c (e :: es) pu ms) (hN : X.N[i]? = some x := by rfl) (hv : Vis X.env.scope x := by first | exact Or.inl rfl | exact Or.inr (Or.inl rfl) | exact Or.inr (Or.inr rfl)) (hd : (x == ("__debug__" : Str)) = false := by decide)
  (hcd : (x == ("__classdict__" : Str)) = false := by decide)
  (hbase : attributeBase (.Name x npos) name X.env (eval (.Name x npos) X.env) = eval (.Name x npos) X.env := by rfl)
  (hfew : ((backTo cpos (starEach (e :: es) X.env)).all (fun x => !x.1) && (backToKw cpos (keywordEach [] X.env)).all (fun x => x.1.isSome)
   && decide ((e :: es).length + ([] : List Keyword).length + (if ([] : List Keyword).isEmpty then 0 else 1) < 30)) = true := by rfl)
  (hline : (apos.endLine == cpos.line) = true := by rfl) (hs : starEach (e :: es) X.env = (false, eval e X.env) :: starEach es X.env := by rfl) (hplain : (backTo cpos (starEach es X.env)).any (·.1) = false := by rfl) :
  PE X (.Call (.Attribute (.Name x npos) name apos) (e :: es) [] cpos) (te X.K c false false (mLM i g ms)) := (pe_bm F.plainAttrs_list slot hty hm (pe_var hN hv hd hcd) ha.pa hbase hfew hline hs hplain).imp fun σ H Q ⟨F, ρ, O, ev, h⟩ => by
 unfold mLM at h
 cases q : ρ[i]? with
 | none => rw [q] at h; exact h.elim
 | some w =>
  rw [q] at h
  cases w with
  | none => exact h.elim
  | some o =>
   cases o with
   | lst xs =>
    obtain ⟨p, vs, h1, h2, _⟩ := ev.lstAt q
    refine ⟨_, h1, .inl ⟨rfl, _, .of h2⟩, ?_⟩
    refine ta_step ev h fun as ρ1 F1 H1 O1 ws _ h3 e1 s1 p1 r1 => ?_
    exact lm_step (i := i) (to := fun _ _ _ => True) (t := fun _ _ _ => True) e1 h1 r1 (Res.post_imp h3 (fun x ρ' k F' H' O' v e' s' r => k F' H' O' v e' (s1.trans s') (fun z => nomatch z) r) fun _ _ k => k)
   | d _ => exact h.elim
   | dct _ => exact h.elim
   | dctT _ => exact h.elim
   | obj _ _ => exact h.elim
   | tup _ => exact h.elim
theorem mt_imp {r r' : V → List V → Hp → VK → Prop} (h : MtR X id r) (k : ∀ v vs H Q, r' v vs H Q → r v vs H Q) : MtR X id r' := fun pins s σ H x xs v us Q I rx rs q => h pins s σ H x xs v us Q I rx rs (k x xs H Q q)
def appendD (xs as : List D) : Option (List D × D) := match as with
 | [a] => if xs.length < sizeLine then some (xs ++ [a], .none) else none
 | _ => none
theorem md_append : MtR X "list.append" (rLM X.K appendD) := mt_imp mt_append fun v vs H Q ⟨F, p, ws, xs, as, z, hv, s, hp, hf, r1, r2, hg, q⟩ => by
 unfold appendD at hg
 split at hg
 ·split at hg
  ·rename_i hl
   cases hg
   cases r2 with
   | cons ra rn =>
    cases rn
    exact ⟨p, ws, _, hv, rfl, hp, by rw [r1.length]; exact hl, q _ _ (r1.append (.one ra)) .non⟩
  ·cases hg
 ·cases hg
def clearD (xs as : List D) : Option (List D × D) := match as with
 | [] => some ([], .none)
 | _ => none
theorem md_clear : MtR X "list.clear" (rLM X.K clearD) := mt_imp mt_clear fun v vs H Q ⟨F, p, ws, xs, as, z, hv, s, hp, hf, r1, r2, hg, q⟩ => by
 unfold clearD at hg
 split at hg
 ·cases hg
  cases r2
  exact ⟨p, ws, hv, rfl, hp, q _ _ .nil .non⟩
 ·cases hg
theorem RpAll.dropLast {K : Frag} {F : Hp} {vs : List V} {xs : List D} (r : RpAll K F vs xs) : RpAll K F vs.dropLast xs.dropLast := by
 rw [List.dropLast_eq_take, List.dropLast_eq_take, r.length]
 exact r.take _
def popD (xs as : List D) : Option (List D × D) := match as with
 | [] => (xs[xs.length - 1]?).map fun y => (xs.dropLast, y)
 | [.int i] => if -(2 ^ 63) ≤ i ∧ i < 2 ^ 63 then (seqIndex? i xs.length).bind fun k => (xs[k]?).map fun y => (xs.eraseIdx k, y) else none
 | _ => none
theorem md_pop : MtR X "list.pop" (rLM X.K popD) := mt_imp (MtR.or mt_pop mt_popAt) fun v vs H Q ⟨F, p, ws, xs, as, z, hv, s, hp, hf, r1, r2, hg, q⟩ => by
 unfold popD at hg
 split at hg
 ·cases r2
  obtain ⟨y, h1, rfl⟩ := Option.map_eq_some_iff.mp hg
  obtain ⟨w, h2, h3⟩ := r1.getD h1
  exact .inl ⟨p, ws, w, hv, rfl, hp, by rw [r1.length]; exact h2, q _ _ r1.dropLast h3⟩
 ·split at hg
  ·rename_i hb
   cases r2 with
   | cons ra rn =>
    cases rn
    cases ra
    obtain ⟨k, hk, hg⟩ := Option.bind_eq_some_iff.mp hg
    obtain ⟨y, h1, rfl⟩ := Option.map_eq_some_iff.mp hg
    obtain ⟨w, h2, h3⟩ := r1.getD h1
    exact .inr ⟨p, ws, _, k, w, hv, rfl, hp, hb.1, hb.2, by rw [r1.length]; exact hk, h2, q _ _ (r1.erase k) h3⟩
  ·cases hg
 ·cases hg
end
end DL
namespace PySem
open PyProof.Rows
theorem dl_extend_tuple (l : Addr) (items : Array Value) (n : Nat) (b : Addr) (items2 : Array Value) (n2 : Nat) (dd : Option Addr) (sl : Array (Option Value)) (hs0 : ¬(!items.isEmpty && Builtin.List.listTooLong (items.size + items2.size)) = true) (hs1 : items.size ≤ sizeLine) (hs2 : items.size + items2.size ≤ sizeLine + 1) :
  Meets (Builtin.«list.extend» ⟨[.ref l, .ref b], []⟩) (fun _ R s => s.heap.get? l = some { cls := .type "list", dict := none, data := .seq items n, slots := #[] } ∧ s.heap.get? b = some { cls := .type "tuple", dict := dd, data := .seq items2 n2, slots := sl } ∧ R (.ok (.ret Value.none)) { s with heap := s.heap.update l (Obj.mapSeq fun x => x ++ items2), toks := s.toks }) :=
 .of_wp fun prog w A R s h => by
  obtain ⟨hp, g, d, tk, os⟩ := s; obtain ⟨hl, hb, h⟩ := h; have f1 := AutoSeq1.idx_int; have f2 := AutoSeq1.sub_tuple_tuple; have f3 := AutoSeq1.sub_list_list; have f4 := AutoSeq1.sub_tuple_list; have f5 := AutoSeq1.sub_list_tuple;
  have hz' : (items ++ items2).size ≤ sizeLine + 1 := by rw [Array.size_append]; exact hs2
  wp_walk using (wpAny_updateSeq hl rfl (hz := hs1) (_hz' := hz')), AutoSeq1.wpAny_loadPart' hl, AutoSeq1.wpAny_loadPart' hb; exact ⟨_, rfl, h⟩
end PySem
namespace DL
open PySem PySem.Spec PyProof.Rows L2
def rExtT (K : Frag) : V → List V → Hp → VK → Prop := fun x vs H Q => ∃ l b xs zs, x = .ref l ∧ vs = [.ref b] ∧ H l = some (.lst xs) ∧ SqT K H b zs ∧ xs.length + zs.length ≤ sizeLine ∧ Q .non (upd H l (.lst (xs ++ zs)))
theorem mt_extendT {X : Cx} : MtR X "list.extend" (rExtT X.K) := by
 intro pins s σ H x vs v us Q I rx rv h
 obtain ⟨l, b, xs, zs, rfl, rfl, hH, hB, hz, q⟩ := h
 cases rx
 obtain ⟨u, rfl, ru⟩ := rv.one
 cases ru
 obtain ⟨z, its, n, r, hl, e⟩ := I.lstM hH
 obtain ⟨its2, r2, pl, hz2⟩ := I.tuple hB
 obtain ⟨o, e2, hc, n2, hd⟩ := pl
 obtain ⟨oc, od, dt, sl⟩ := o
 simp only at hc hd
 subst hc hd
 have hl2 := r2.length
 have hsz : its.toArray.size + its2.toArray.size ≤ sizeLine := by rw [List.size_toArray, List.size_toArray]; omega
 have hlong : ¬ (!its.toArray.isEmpty && Builtin.List.listTooLong (its.toArray.size + its2.toArray.size)) = true := by
  rw [notLongL hsz, Bool.and_false]
  exact Bool.false_ne_true
 refine call_meets F.slot_list_extend ⟨_, e, rfl⟩ F.entry_list_extend (F.args_list_extend_2 _ _) (PySem.dl_extend_tuple l its.toArray n b its2.toArray n2 od sl hlong (by rw [List.size_toArray]; omega) (by omega)) ⟨e, e2, ?_⟩
 refine ⟨.non, _, I.lset (its' := its ++ its2) hH e (by simp) (r.append r2) ?_, rfl, q⟩
 rw [List.length_append]
 omega
def extendD (xs : List D) (a : D) : Option (List D) := match a with
 | .list ys => if xs.length + ys.length ≤ sizeLine then some (xs ++ ys) else none
 | .tuple ys => if xs.length + ys.length ≤ sizeLine then some (xs ++ ys) else none
 | _ => none
def mExtend (i : Nat) (m : M D) : M D := fun ρ => match ρ[i]? with
 | some (some (.lst _)) => (m ρ).bind fun a ρ1 => match ρ1[i]? with
  | some (some (.lst xs)) => match extendD xs a with
   | some z => .ok .none (ρ1.set i (some (.lst z)))
   | none => .bad
  | _ => .bad
 | _ => .bad
section
variable {X : Cx} {c : Ct} {e : Expr} {pos apos cpos npos : Pos} {ka pu : Bool} {me : M D} {x : Str}
theorem se_extend (i : Nat) (ha : PE X e (te X.K c ka pu me)) (hN : X.N[i]? = some x := by rfl) (hv : Vis X.env.scope x := by first | exact Or.inl rfl | exact Or.inr (Or.inl rfl) | exact Or.inr (Or.inr rfl)) (hd : (x == ("__debug__" : Str)) = false := by decide)
  (hcd : (x == ("__classdict__" : Str)) = false := by decide)
  (hbase : attributeBase (.Name x npos) "extend" X.env (eval (.Name x npos) X.env) = eval (.Name x npos) X.env := by rfl)
  (hfew : ((backTo cpos (starEach [e] X.env)).all (fun x => !x.1) && (backToKw cpos (keywordEach [] X.env)).all (fun x => x.1.isSome)
   && decide ([e].length + ([] : List Keyword).length + (if ([] : List Keyword).isEmpty then 0 else 1) < 30)) = true := by rfl)
  (hline : (apos.endLine == cpos.line) = true := by rfl) (hs : starEach [e] X.env = (false, eval e X.env) :: starEach [] X.env := by rfl) (hplain : (backTo cpos (starEach [] X.env)).any (·.1) = false := by rfl) :
  PE X (.Call (.Attribute (.Name x npos) "extend" apos) [e] [] cpos) (te X.K c false false (mExtend i me)) := (pe_bm F.plainAttrs_list F.slot_list_extend F.type_list_extend (MtR.or mt_extend mt_extendT) (pe_var hN hv hd hcd) (sa_1 ha hs) hbase hfew hline hs hplain).imp fun σ H Q ⟨F, ρ, O, ev, h⟩ => by
 unfold mExtend at h
 cases q : ρ[i]? with
 | none => rw [q] at h; exact h.elim
 | some w =>
  rw [q] at h
  cases w with
  | none => exact h.elim
  | some o =>
   cases o with
   | d _ => exact h.elim
   | dct _ => exact h.elim
   | dctT _ => exact h.elim
   | obj _ _ => exact h.elim
   | tup _ => exact h.elim
   | lst xs =>
    obtain ⟨p, vs, h1, h2, _⟩ := ev.lstAt q
    refine ⟨_, h1, .inl ⟨rfl, _, .of h2⟩, ?_⟩
    refine ⟨F, ρ, O, ev, Res.post_imp (Res.post_bind h) (fun a ρ1 h3 F1 H1 O1 v e1 s1 p1 r1 => ?_) fun _ _ h => h⟩
    cases q1 : ρ1[i]? with
    | none => rw [q1] at h3; exact h3.elim
    | some w =>
     rw [q1] at h3
     cases w with
     | none => exact h3.elim
     | some o =>
      cases o with
      | d _ => exact h3.elim
      | dct _ => exact h3.elim
      | dctT _ => exact h3.elim
      | obj _ _ => exact h3.elim
      | tup _ => exact h3.elim
      | lst xs =>
       obtain ⟨p', ws, k1, k2, k3⟩ := e1.lstAt q1
       rw [h1] at k1; cases k1
       simp only at h3
       cases hg : extendD xs a with
       | none => rw [hg] at h3; exact h3.elim
       | some z =>
        rw [hg] at h3
        have fin : ∀ ws', RpAll X.K F1 ws' z → Q .non (upd H1 p (.lst ws')) := fun ws' r => by
         obtain ⟨O', e'⟩ := e1.write q1 h1 r
         exact h3 F1 _ O' .non e' s1 (fun z => nomatch z) .non
        unfold extendD at hg
        split at hg
        ·split at hg
         ·rename_i hl
          cases hg
          obtain ⟨b, zs, rfl, g2, g3⟩ := inv_list e1.sub r1
          exact .inl ⟨p, b, ws, zs, rfl, rfl, k2, g2, by rw [k3.length, g3.length]; exact hl, fin _ (k3.append g3)⟩
         ·cases hg
        ·split at hg
         ·rename_i hl
          cases hg
          obtain ⟨b, zs, rfl, g2, g3⟩ := inv_tup r1
          exact .inr ⟨p, b, ws, zs, rfl, rfl, k2, sq_t e1.sub g2.seq, by rw [k3.length, g3.length]; exact hl, fin _ (k3.append g3)⟩
         ·cases hg
        ·cases hg
end
def sPut (i : Nat) (mi mv : M D) : M Fl := fun ρ => (mv ρ).bind fun v ρ1 => match ρ1[i]? with
 | some (some (.lst _)) => (mi ρ1).bind fun k ρ2 => match ρ2[i]?, k with
  | some (some (.lst xs)), .int j => match ixN xs.length j with
   | some n => .ok .nx (ρ2.set i (some (.lst (xs.set n v))))
   | none => .bad
  | _, _ => .bad
 | _ => .bad
section
variable {X : Cx} {c : Ct} {e o ix : Expr} {pos spos npos : Pos} {p1 p2 : Bool} {mi mv : M D} {x : Str}
theorem sv_put (i : Nat) (hN' : X.N[i]? = some x := by rfl) (hix : PE X ix (te X.K c false p1 mi)) (he : PE X e (te X.K c false p2 mv)) (hv : Vis X.env.scope x := by first | exact Or.inl rfl | exact Or.inr (Or.inl rfl) | exact Or.inr (Or.inr rfl)) (hd : (x == ("__debug__" : Str)) = false := by decide)
  (hcd : (x == ("__classdict__" : Str)) = false := by decide)
  (ha : ∀ v, assign (.Subscript (.Name x npos) ix spos) X.env v = (do
   let ov ← holding [v] (eval (.Name x npos) X.env)
   let iv ← holding [v, ov] (eval ix X.env)
   standAt spos
   holding [v, ov, iv] (setItem ov iv v)
   release [v, ov, iv] []) := by intro _; rfl)
  (hs : swapsWithSole [.Subscript (.Name x npos) ix spos] e pos.line X.env = pure false := by rfl) (hw : swappedStores [.Subscript (.Name x npos) ix spos] e X.env = pure none := by rfl)
  (h1 : (assignEach [.Subscript (.Name x npos) ix spos] X.env).map (·.2) = [assign (.Subscript (.Name x npos) ix spos) X.env] := by rfl) :
  PS X (.Assign [.Subscript (.Name x npos) ix spos] e pos) (ts X.K c (sPut i mi mv)) := (ps_asg he (pg_sub (pe_var hN' hv hd hcd) hix set_list ha) hs hw h1).imp fun Dn σ H ⟨F, ρ, O, ev, h⟩ => by
 refine te_stepS ev h fun v ρ1 F1 H1 O1 vv h1 e1 s1 q1 v1 => ?_
 cases k : ρ1[i]? with
 | none => rw [k] at h1; exact h1.elim
 | some w =>
  rw [k] at h1
  cases w with
  | none => exact h1.elim
  | some o =>
   cases o with
   | d _ => exact h1.elim
   | dct _ => exact h1.elim
   | dctT _ => exact h1.elim
   | obj _ _ => exact h1.elim
   | tup _ => exact h1.elim
   | lst xs0 =>
    obtain ⟨p, ws0, g1, _, _⟩ := e1.lstAt k
    refine ⟨_, g1, ?_⟩
    refine te_stepS e1 h1 fun kx ρ2 F2 H2 O2 kv h2 e2 s2 q2 v2 => ?_
    cases k2 : ρ2[i]? with
    | none => simp only [k2] at h2; exact h2.elim
    | some w =>
     simp only [k2] at h2
     cases w with
     | none => exact h2.elim
     | some o =>
      cases o with
      | d _ => exact h2.elim
      | dct _ => exact h2.elim
      | dctT _ => exact h2.elim
      | obj _ _ => exact h2.elim
      | tup _ => exact h2.elim
      | lst xs =>
       cases kx with
       | int j =>
        obtain ⟨p', ws, g2, g3, g4⟩ := e2.lstAt k2
        rw [g1] at g2; cases g2
        simp only at h2
        cases hj : ixN xs.length j with
        | none => rw [hj] at h2; exact h2.elim
        | some n =>
         rw [hj] at h2
         obtain ⟨O', e'⟩ := e2.write k2 g1 (g4.set (Rp.mono s2 v1) n)
         exact ⟨p, ws, j, n, rfl, inv_int v2.up0, g3, by rw [g4.length]; exact hj, h2 σ F2 _ O' e'⟩
       | _ => exact h2.elim
end
end DL
end
section
namespace DL
open PySem PySem.Spec PyProof.Rows L2
inductive Ty where
 | str | int | bool | tup | lst | dct
def Ty.nm : Ty → String
 | .str => "str" | .int => "int" | .bool => "bool" | .tup => "tuple" | .lst => "list" | .dct => "dict"
def isT : Ty → D → Option Bool
 | t, .dict kvs => match cells kvs with
  | some _ => none
  | none => some (match t with | .dct => true | _ => false)
 | t, x => some (match t, x with
  | .str, .str _ => true
  | .int, .int _ => true
  | .int, .bool _ => true
  | .bool, .bool _ => true
  | .tup, .tuple _ => true
  | .lst, .list _ => true
  | _, _ => false)
def tyN : D → String
 | .none => "NoneType" | .bool _ => "bool" | .int _ => "int" | .str _ => "str" | .list _ => "list" | .tuple _ => "tuple" | .dict _ => "dict"
theorem sqT_ty {K : Frag} {H : Hp} {p : Addr} {vs : List V} (h : SqT K H p vs) : TyX K H (.ref p) (.type "tuple") := by
 rcases h with (h | ⟨o, h⟩) | ⟨o, _, _, h1, h2, _⟩
 ·exact .base (.tup h)
 ·exact .fTuple h
 ·exact .kTuple h1 h2
theorem ty_of {K : Frag} {F H : Hp} {v : V} {x : D} {t : Ty} {b : Bool} (s : Same F H) (r : RpB K F H v x) (h : isT t x = some b) : TyX K H v (.type (tyN x)) := by
 cases x with
 | none => rw [inv_none r]; exact .base .non
 | bool b => rw [inv_bool r]; exact .base (.bl b)
 | int i => rw [inv_int r]; exact .base (.int i)
 | str z => rw [inv_str r]; exact .base (.str z)
 | list xs =>
  obtain ⟨p, vs, rfl, h1, _⟩ := inv_list s r
  exact .base (.lst h1)
 | tuple xs =>
  obtain ⟨p, vs, rfl, h1, _⟩ := inv_tup r
  exact sqT_ty (sq_t s h1.seq)
 | dict kvs =>
  rcases inv_dict s r with ⟨p, vs, ds, rfl, e, _⟩ | ⟨p, kws, ds, rfl, h1, _⟩
  ·subst e
   cases h
  ·rcases h1 with h1 | ⟨o, h1⟩
   ·exact .base (.dK h1)
   ·exact .fDict h1
theorem kt_NoneType (t : Ty) : kitB "NoneType" t.nm = some (false) := by cases t <;> decide +kernel
theorem kt_bool (t : Ty) : kitB "bool" t.nm = some (match t with | .int => true | .bool => true | _ => false) := by cases t <;> decide +kernel
theorem kt_int (t : Ty) : kitB "int" t.nm = some (match t with | .int => true | _ => false) := by cases t <;> decide +kernel
theorem kt_str (t : Ty) : kitB "str" t.nm = some (match t with | .str => true | _ => false) := by cases t <;> decide +kernel
theorem kt_list (t : Ty) : kitB "list" t.nm = some (match t with | .lst => true | _ => false) := by cases t <;> decide +kernel
theorem kt_tuple (t : Ty) : kitB "tuple" t.nm = some (match t with | .tup => true | _ => false) := by cases t <;> decide +kernel
theorem kt_dict (t : Ty) : kitB "dict" t.nm = some (match t with | .dct => true | _ => false) := by cases t <;> decide +kernel
theorem kit_nm {K : Frag} {t : Ty} {x : D} {b : Bool} (h : isT t x = some b) : PySem.W.kitOne K (.type (tyN x)) (.type t.nm) = some b := by
 have tab : ∀ (a c : String) (r : Bool), kitB a c = some r → PySem.W.kitOne K (.type a) (.type c) = some r := fun a c r q => kit_ty q
 cases x with
 | dict kvs =>
  unfold isT at h
  simp only at h
  split at h
  ·cases h
  ·cases h
   exact tab _ _ _ (kt_dict t)
 | none => cases t <;> cases h <;> exact tab _ _ _ (kt_NoneType _)
 | bool _ => cases t <;> cases h <;> exact tab _ _ _ (kt_bool _)
 | int _ => cases t <;> cases h <;> exact tab _ _ _ (kt_int _)
 | str _ => cases t <;> cases h <;> exact tab _ _ _ (kt_str _)
 | list _ => cases t <;> cases h <;> exact tab _ _ _ (kt_list _)
 | tuple _ => cases t <;> cases h <;> exact tab _ _ _ (kt_tuple _)
def isiD (t : Ty) (x : D) : Option D := (isT t x).map .bool
section
variable {X : Cx} {c : Ct} {e : Expr} {pos p p2 : Pos} {ka pu : Bool} {me : M D} {t : Ty} {x : Str}
theorem se_isi (t : Ty) (hm : X.mg "isinstance" = none) (hm2 : X.mg x = none) (ha : PE X e (te X.K c ka pu me)) (hv2 : bootBuiltins x = some (.type t.nm) := by decide +kernel) (hg : Gl X "isinstance" := by rfl) (hg2 : Gl X x := by rfl) (hn2 : x ≠ "__name__" := by decide) (hd2 : (x == ("__debug__" : Str)) = false := by decide)
  (hs : starEach [e, .Name x p2] X.env = (false, eval e X.env) :: starEach [.Name x p2] X.env := by rfl) (hs2 : starEach [.Name x p2] X.env = (false, eval (.Name x p2) X.env) :: starEach [] X.env := by rfl) (hpl : (backTo pos (starEach [.Name x p2] X.env)).any (·.1) = false := by rfl) :
  PE X (.Call (.Name "isinstance" p) [e, .Name x p2] [] pos) (te X.K c false pu (mF1 (isiD t) me)) :=
 (pe_callB call_isi hg hm boot_isinstance (pa_cons ha (pa_cons (pe_bltn (v := .ty t.nm) hg2 hm2 hv2 rfl hn2 hd2) pa_nil hs2) hs) (by decide) (by decide) hs hpl).imp fun σ H Q ⟨F, ρ, O, ev, h⟩ => by
  refine te_step ev h fun y ρ1 F1 H1 O1 v h1 e1 s1 q1 v1 => ?_
  obtain ⟨z, hz, h2⟩ := post_ofO h1
  obtain ⟨b, hb, rfl⟩ := Option.map_eq_some_iff.mp hz
  exact ⟨v, .ty t.nm, _, _, b, rfl, .ty _, ty_of e1.sub v1.up0 hb, kit_nm hb, h2 F1 H1 O1 _ e1 s1 q1 (.bl b)⟩
end
def sPar (i j : Nat) (m : M (List D)) : M Fl := fun ρ => (m ρ).bind fun xs ρ1 => match xs with
 | [x, y] => .ok .nx ((ρ1.set i (some (.d x))).set j (some (.d y)))
 | _ => .bad
section
variable {X : Cx} {c : Ct} {e a b : Expr} {pos : Pos} {pu : Bool} {me : M D} {ms : M (List D)} {x y : Str}
theorem ta_stepS {K : Frag} {α : Type} {F H : Hp} {σ : Sl} {ρ : Env} {O : List Addr} {m : M (List D)} {k : List D → Env → Res α} {P : α → Env → Prop} {Q : List V → Hp → Prop} (e : EnvR K c F H σ ρ O) (h : ((m ρ).bind k).post P (PXs K c))
  (q : ∀ x ρ1 F1 H1 O1 v, (k x ρ1).post P (PXs K c) → EnvR K c F1 H1 σ ρ1 O1 → Same F F1 → (pu = true → Same H H1) → RpAll K F1 v x → Q v H1) : ta K c pu m σ H Q :=
 ⟨F, ρ, O, e, Res.post_imp (Res.post_bind h) (fun x ρ1 h1 F1 H1 O1 v e1 s1 p1 r1 => q x ρ1 F1 H1 O1 v h1 e1 s1 p1 r1) fun _ _ h F' H' O' cls d => h σ F' H' O' cls d⟩
theorem sv_par {i j : Nat} {px py pt pt2 : Pos} {kt k2 : Nat} (hc : X.calm = true) (hN : X.N.Nodup) (ha : SA X c [a, b] pu ms) (hi : X.N[i]? = some x := by rfl) (hj : X.N[j]? = some y := by rfl) (hij : i ≠ j := by decide) (hx : X.env.scope.names.lookup x = some .local := by rfl) (hy : X.env.scope.names.lookup y = some .local := by rfl)
  (hfi : (c.fx.all fun k => k != i) = true := by rfl) (hfj : (c.fx.all fun k => k != j) = true := by rfl)
  (hs : swapsWithSole [.Tuple [.Name x px, .Name y py] kt pt] (.Tuple [a, b] k2 pt2) pos.line X.env = pure false := by rfl)
  (hw : swappedStores [.Tuple [.Name x px, .Name y py] kt pt] (.Tuple [a, b] k2 pt2) X.env = pure (some [x, y]) := by rfl) :
  PS X (.Assign [.Tuple [.Name x px, .Name y py] kt pt] (.Tuple [a, b] k2 pt2) pos) (ts X.K c (sPar i j ms)) := ⟨fun pins s σ H Dn I ⟨F, ρ, O, ev, h⟩ => by
 refine (ps_par hc hN hi hj hij hx hy ha.pa hw hs).run pins s σ H Dn I ?_
 refine ta_stepS ev h fun xs ρ1 F1 H1 O1 vs h1 e1 s1 q1 r1 => ?_
 split at h1
 ·cases r1 with
  | cons ra r1 =>
   cases r1 with
   | cons rb r1 =>
    cases r1
    obtain ⟨O2, e2⟩ := e1.putD ra (slen hi I) hfi
    obtain ⟨O3, e3⟩ := e2.putD rb (by rw [List.length_set]; exact slen hj I) hfj
    exact ⟨_, _, rfl, h1 _ F1 H1 O3 e3⟩
 ·exact h1.elim⟩
def sTgt (t : D → Env → Option Env) (m : M D) : M Fl := fun ρ => (m ρ).bind fun x ρ1 => match t x ρ1 with
 | some ρ2 => .ok .nx ρ2
 | none => .bad
theorem sv_tgt {tg : Expr} {t : D → Env → Option Env} (he : PE X e (te X.K c false pu me)) (hg : PG X tg (tgD tg X.K c t)) (hs : swapsWithSole [tg] e pos.line X.env = pure false := by rfl) (hw : swappedStores [tg] e X.env = pure none := by rfl)
  (h1 : (assignEach [tg] X.env).map (·.2) = [assign tg X.env] := by rfl) : PS X (.Assign [tg] e pos) (ts X.K c (sTgt t me)) := (ps_asg he hg hs hw h1).imp fun Dn σ H ⟨F, ρ, O, ev, h⟩ => by
 refine te_stepS ev h fun x ρ1 F1 H1 O1 v h1 e1 s1 q1 v1 => ?_
 cases ht : t x ρ1 with
 | none => rw [ht] at h1; exact h1.elim
 | some ρ2 =>
  rw [ht] at h1
  exact ⟨F1, ρ1, O1, x, ρ2, e1, Rp.i v1, ht, fun σ' F' H' O' _ e' _ => h1 σ' F' H' O' e'⟩
end
def sAug (g : D → D → Option D) (i : Nat) (m : M D) : M Fl := fun ρ => match ρ[i]? with
 | some (some (.d x)) => (m ρ).bind fun y ρ1 => match g x y with
  | some z => .ok .nx (ρ1.set i (some (.d z)))
  | none => .bad
 | _ => .bad
section
variable {X : Cx} {c : Ct} {e : Expr} {pos npos : Pos} {pu : Bool} {me : M D} {x : Str}
end
end DL
end
section
namespace DL
open PySem PySem.Spec PyProof.Rows L2 PySem.W
section
variable {κ : Type} [DecidableEq κ] {P : Program} {w : World} {knd : KeyKind P w κ}
theorem each_perm {α β : Type} {R : α → β → Prop} {l l' : List α} (p : l'.Perm l) : ∀ {m : List β}, EachIs R l m → ∃ m', EachIs R l' m' ∧ m'.Perm m := by
 induction p with
 | nil => intro m h; exact ⟨m, h, .refl _⟩
 | cons x _ ih =>
  intro m h
  cases h with
  | cons h1 h2 =>
   obtain ⟨m', k1, k2⟩ := ih h2
   exact ⟨_, .cons h1 k1, k2.cons _⟩
 | swap x y l =>
  intro m h
  cases h with
  | cons h1 h2 =>
   cases h2 with
   | cons h3 h4 => exact ⟨_, .cons h3 (.cons h1 h4), .swap ..⟩
 | trans _ _ ih1 ih2 =>
  intro m h
  obtain ⟨m1, k1, k2⟩ := ih2 h
  obtain ⟨m2, k3, k4⟩ := ih1 k1
  exact ⟨m2, k3, k4.trans k2⟩
theorem each_len {α β : Type} {R : α → β → Prop} : ∀ {l : List α} {m : List β}, EachIs R l m → l.length = m.length
 | _, _, .nil => rfl
 | _, _, .cons _ t => by rw [List.length_cons, List.length_cons, each_len t]
theorem each_at {α β : Type} {R : α → β → Prop} : ∀ {l : List α} {m : List β} {x : α}, EachIs R l m → x ∈ l → ∃ y ∈ m, R x y
 | _, _, x, .nil, h => by simp at h
 | _, _, x, .cons h1 t, h => by
  rcases List.mem_cons.mp h with h | h
  ·subst h; exact ⟨_, List.mem_cons_self, h1⟩
  ·obtain ⟨y, hy, r⟩ := each_at t h
   exact ⟨y, List.mem_cons_of_mem _ hy, r⟩
theorem each_back {α β : Type} {R : α → β → Prop} : ∀ {l : List α} {m : List β} {y : β}, EachIs R l m → y ∈ m → ∃ x ∈ l, R x y
 | _, _, x, .nil, h => by simp at h
 | _, _, x, .cons h1 t, h => by
  rcases List.mem_cons.mp h with h | h
  ·subst h; exact ⟨_, List.mem_cons_self, h1⟩
  ·obtain ⟨y, hy, r⟩ := each_back t h
   exact ⟨y, List.mem_cons_of_mem _ hy, r⟩
def Ent (knd : KeyKind P w κ) (e : Int × Value) (k : κ) : Prop := knd.is k e.2 = true ∧ e.1 = knd.hash k ∧ e.2.scannable = true
theorem ents_elems {l : List (Int × Value)} {ks : List κ} (h : EachIs (Ent knd) l ks) : ElemsOf knd l := fun e he => by
 obtain ⟨k, _, h1, h2, h3⟩ := each_at h he
 exact ⟨⟨k, h1, h2⟩, h3⟩
structure Rows (knd : KeyKind P w κ) (es : Array (Int × Value)) (t : SetTable) (ks : List κ) : Prop where
 ent : EachIs (Ent knd) es.toList ks
 nd : ks.Nodup
 low : es.size < scanBound
 fit : t.fits es.size = true
 ris : Ris t.place.toList
 led : w.params.followText "set-order" = true ∨ t.led = true
def SK (knd : KeyKind P w κ) (h : Heap) (a : Addr) (ks : List κ) : Prop := ∃ o es ep t, h.get? a = some o ∧ o.ExactSet ∧ o.data = .set es ep t ∧ Rows knd es t ks
theorem SK.keep {h h' : Heap} {a : Addr} {ks : List κ} (R : SK knd h a ks) (k : ∀ o, h.get? a = some o → h'.get? a = some o) : SK knd h' a ks := by
 obtain ⟨o, es, ep, t, ho, r⟩ := R
 exact ⟨o, es, ep, t, k o ho, r⟩
theorem SK.setOf {h : Heap} {a : Addr} {ks : List κ} (R : SK knd h a ks) : h.SetOf knd a (fun k => decide (k ∈ ks)) ks.length := by
 obtain ⟨o, es, ep, t, ho, hx, hd, r⟩ := R
 refine ⟨o, es, ep, t, ho, hx, hd, ents_elems r.ent, fun k => ?_, r.low, r.fit, by rw [← Array.length_toList, each_len r.ent]⟩
 rw [decide_eq_true_eq]
 constructor
 ·intro hk
  obtain ⟨e, he, q⟩ := each_back r.ent hk
  exact ⟨e, he, q.1⟩
 ·rintro ⟨e, he, q⟩
  obtain ⟨k', hk', q'⟩ := each_at r.ent he
  rw [knd.inj _ _ _ q q'.1]
  exact hk'
theorem sk_store {h : Heap} {a : Addr} {o : Obj} {es0 es : Array (Int × Value)} {ep : Nat} {t0 t : SetTable} {ks : List κ} (ho : h.get? a = some o) (hx : o.ExactSet) (hd : o.data = .set es0 ep t0) (r : Rows knd es t ks) :
  (∃ o', (h.update a (Obj.putSet es t)).get? a = some o' ∧ o'.ExactSet ∧ o'.data = .set es (ep + 1) t) ∧ SK knd (h.update a (Obj.putSet es t)) a ks := by
 have e := Heap.get?_update_self (Obj.putSet es t) ho (by rw [putSet_of es t hd]; rfl)
 rw [putSet_of es t hd] at e
 exact ⟨⟨_, e, hx, rfl⟩, ⟨_, es, ep + 1, t, e, hx, rfl, r⟩⟩
section
variable {A : Around} {E : Value → Shared → Prop} {s : Shared} {a : Addr} {ks : List κ}
theorem rows_relaid {es : Array (Int × Value)} {t : SetTable} (r : Rows knd es t ks) (n : Nat) : ∃ ks', ks'.Perm ks ∧ Rows knd (relayAll t es n).1 (relayAll t es n).2.1 ks' := by
 have p := relayAll_perm t es n
 obtain ⟨ks', h1, h2⟩ := each_perm p r.ent
 have hz : (relayAll t es n).1.size = es.size := by rw [← Array.length_toList, p.length_eq, Array.length_toList]
 exact ⟨ks', h2, h1, h2.nodup_iff.mpr r.nd, by rw [hz]; exact r.low, relayAll_fits t es n, relayAll_ris t es n, r.led.imp id fun z => by rw [relayAll_led]; exact z⟩
theorem rows_new {es : Array (Int × Value)} {t : SetTable} (r : Rows knd es t ks) {k : κ} {x : Value} (hk : knd.is k x = true) (hs : x.scannable = true) (hn : k ∉ ks) (room : ks.length + 1 < scanBound) :
  ∃ ks', ks'.Perm (k :: ks) ∧ Rows knd (layNew t es (knd.hash k) x).1 (layNew t es (knd.hash k) x).2.1 ks' := by
 have p := layNew_perm t es (knd.hash k) x
 rw [Array.toList_push] at p
 have p2 := p.trans (List.perm_append_singleton (knd.hash k, x) es.toList)
 obtain ⟨ks', h1, h2⟩ := each_perm p2 (.cons (R := Ent knd) ⟨hk, rfl, hs⟩ r.ent)
 have hz : (layNew t es (knd.hash k) x).1.size = ks.length + 1 := by rw [← Array.length_toList, each_len h1, h2.length_eq, List.length_cons]
 exact ⟨ks', h2, h1, h2.nodup_iff.mpr (List.nodup_cons.mpr ⟨hn, r.nd⟩), by rw [hz]; exact room, layNew_fits t es (knd.hash k) x, layNew_ris t es (knd.hash k) x r.ris, r.led.imp id fun z => by rw [layNew_led]; exact z⟩
theorem rows_off {es : Array (Int × Value)} {t : SetTable} (r : Rows knd es t ks) : Rows knd es { t with plain := false } ks := ⟨r.ent, r.nd, r.low, SetTable.fits_plain_off r.fit, r.ris, r.led⟩
theorem sk_tail {g : Bool → Sem Unit} (hg : ∀ (b : Bool) (s₁ : Shared) (Q' : Unit → Shared → Prop), Q' () s₁ → wpAny (model P w) A (g b) Q' E s₁) {o : Obj} {es0 es : Array (Int × Value)} {ep : Nat} {t0 t : SetTable} (c : Bool)
  (ho : s.heap.get? a = some o) (hx : o.ExactSet) (hd : o.data = .set es0 ep t0) (r : Rows knd es t ks) {R : Option Bool → Shared → Prop}
  (hR : ∀ h' ks', ks'.Perm ks → Heap.SameBut a s.heap h' → SK knd h' a ks' → R (some true) { s with heap := h' }) :
  wpAny (model P w) A (do
   storeSet a es t
   if c = true then
    g (relayAll t es (SetTable.grown es.size)).2.2
    storeSet a (relayAll t es (SetTable.grown es.size)).1 (relayAll t es (SetTable.grown es.size)).2.1
    pure (some true)
   else pure (some true)) R E s := by
 obtain ⟨⟨o1, e1, x1, d1⟩, k1⟩ := sk_store ho hx hd r
 refine wpAny_bind (wpAny_storeSet_of ho hd ?_ (fits_of_scanBound r.low))
 cases c with
 | false => exact wpAny_pure (hR _ ks (.refl _) (Heap.SameBut.update ..) k1)
 | true =>
  rw [if_pos rfl]
  obtain ⟨ks', p, r'⟩ := rows_relaid r (SetTable.grown es.size)
  obtain ⟨_, k2⟩ := sk_store e1 x1 d1 r'
  exact wpAny_bind (hg _ _ _ (wpAny_bind (wpAny_storeSet_of e1 d1 (wpAny_pure (hR _ ks' p ((Heap.SameBut.update ..).trans (Heap.SameBut.update ..)) k2)) (fits_of_scanBound r'.low))))
theorem sk_add {k : κ} {x : Value} {Q : Bool → Shared → Prop} (R : SK knd s.heap a ks) (hk : knd.is k x = true) (hs : x.scannable = true) (room : ks.length + 1 < scanBound)
  (hQ : ∀ h' ks' b, ks'.Perm (if k ∈ ks then ks else k :: ks) → Heap.SameBut a s.heap h' → SK knd h' a ks' → Q b { s with heap := h' }) : wpAny (model P w) A (setAddHashed a x (knd.hash k)) Q E s := by
 have R0 := R
 obtain ⟨o, es, ep, t, ho, hx, hd, r⟩ := R
 have el := ents_elems r.ent
 unfold setAddHashed setAddHashedIn
 refine wpAny_holding (wpAny_bind (wpAny_setState_of ho hd r.fit ?_))
 simp only [byScan_of hs r.low el, if_true]
 unfold setAddByScan
 refine wpAny_bind (wpAny_bind (wpAny_rule (wpAny_bind (wpAny_setScan_of hk ho hd r.fit el ?_))))
 cases hf : List.findIdx? (fun e => knd.is k e.2) es.toList with
 | some j =>
  obtain ⟨hj, pj, _⟩ := List.findIdx?_eq_some_iff_getElem.mp hf
  obtain ⟨k', hk', q⟩ := each_at r.ent (List.getElem_mem hj)
  have ek : k = k' := knd.inj _ _ _ pj q.1
  refine wpAny_pure (wpAny_pure (hQ s.heap ks false ?_ (Heap.SameBut.refl a s.heap) R0))
  rw [if_pos (by rw [ek]; exact hk')]
 | none =>
  have hn : k ∉ ks := fun z => by
   obtain ⟨e, he, q⟩ := each_back r.ent z
   have c := List.findIdx?_eq_none_iff.mp hf e he
   rw [q.1] at c
   cases c
  obtain ⟨ks1, p1, r1⟩ := rows_new r hk hs hn room
  dsimp only
  generalize layNew t es (knd.hash k) x = Z at r1 ⊢
  obtain ⟨es1, t1, wd, gv⟩ := Z
  dsimp only at r1 ⊢
  have fin : ∀ h' ks', ks'.Perm ks1 → Heap.SameBut a s.heap h' → SK knd h' a ks' → Q true { s with heap := h' } := fun h' ks' p sb k' => hQ h' ks' true (by rw [if_neg hn]; exact p.trans p1) sb k'
  have gw : ∀ (b : Bool) {s₁ : Shared} {Q' : Unit → Shared → Prop}, Q' () s₁ → wpAny (model P w) A (match b with | true => rule "set.scan.the-table-gave-way" | false => pure ()) Q' E s₁ :=
   fun b s₁ Q' q => by cases b with
    | false => exact wpAny_pure q
    | true => exact wpAny_rule q
  refine wpAny_bind (gw gv ?_)
  have last : ∀ (t2 : SetTable), Rows knd es1 t2 ks1 → wpAny (model P w) A (do
    storeSet a es1 t2
    if (!wd && t2.tooFull) = true then
     (match (relayAll t2 es1 (SetTable.grown es1.size)).2.2 with | true => rule "set.scan.the-table-gave-way" | false => pure ())
     storeSet a (relayAll t2 es1 (SetTable.grown es1.size)).1 (relayAll t2 es1 (SetTable.grown es1.size)).2.1
     pure (some true)
    else pure (some true)) (fun r s' => wpAny (model P w) A (match r with | some added => pure added | none => setAddHashedIn a x (knd.hash k) 99999) Q E s') E s := fun t2 r2 =>
   sk_tail (fun b _ _ q => gw b q) _ ho hx hd r2 fun h' ks' p sb k' => wpAny_pure (fin h' ks' p sb k')
  split
  ·refine wpAny_bind ?_
   rw [hashByValue_scannable 8 hs]
   refine wpAny_pure ?_
   cases plainKind x with
   | true => exact last _ r1
   | false => exact last _ (rows_off r1)
  ·exact wpAny_bind (wpAny_pure (last _ r1))
end
section
variable {A : Around} {R : Result → Shared → Prop} {I S : Addr} {fp wr : List Addr} {G : Array GenState → Array GenState → Prop} {n : Nat} {Pv : Nat → Value → Prop} {St : Nat → Shared → Prop}
theorem sk_loop (W : WalksS P w A.in1 I fp wr G n Pv St) (hSf : S ∉ fp) (val : Nat → κ) (hval : ∀ i v, Pv i v → knd.is (val i) v = true ∧ v.scannable = true) (low : n + 1 < scanBound) :
  ∀ (m i : Nat) (s : Shared) (ks : List κ), m + i = n → St i s → SK knd s.heap S ks → (∀ x, x ∈ ks ↔ ∃ j, j < i ∧ val j = x) → ks.length ≤ i →
   (∀ s' ks', Moved (S :: wr) G s s' → SK knd s'.heap S ks' → (∀ x, x ∈ ks' ↔ ∃ j, j < n ∧ val j = x) → ks'.length ≤ n → R (.ok (.ret .none)) s') →
   codeAny (model P w) A (.builtin "set.update.loop" ⟨[.ref S, .ref I], []⟩) R s := by
 have out : S ∉ wr := fun z => hSf (W.sub _ z)
 have inc : ∀ b ∈ wr, b ∈ S :: wr := fun b hb => List.mem_cons_of_mem _ hb
 intro m
 induction m with
 | zero =>
  intro i s ks hm st hS hks hlen fin
  rw [Nat.zero_add] at hm
  subst hm
  refine codeAny_builtin F.entry_set_update_loop ?_
  rw [Around.under_plainId F.plain_set_update_loop _]
  show wpAny _ A.in1 (pyNext (.ref I) >>= _) _ _ s
  refine wpAny_bind (W.done s _ _ st fun s' mv => ?_)
  exact wpAny_pure (fin s' ks (mv.mono inc) (hS.keep fun o q => mv.heap S o out q) hks hlen)
 | succ m ih =>
  intro i s ks hm st hS hks hlen fin
  have hi : i < n := by omega
  refine codeAny_builtin F.entry_set_update_loop ?_
  rw [Around.under_plainId F.plain_set_update_loop _]
  show wpAny _ A.in1 (pyNext (.ref I) >>= _) _ _ s
  refine wpAny_bind (W.item i s _ _ hi st fun v s1 hv st1 mv => ?_)
  obtain ⟨hk, hs⟩ := hval i v hv
  have hS1 : SK knd s1.heap S ks := hS.keep fun o q => mv.heap S o out q
  show wpAny _ A.in1 (holding [v] (setAdd S v) >>= _) _ _ s1
  unfold setAdd
  refine wpAny_bind (wpAny_holding (wpAny_holding (wpAny_bind (knd.pyHash hk ?_))))
  refine sk_add (s := { s1 with toks := s1.toks + 1 }) hS1 hk hs (by omega) fun h' ks' b p sb hS2 => ?_
  have mem' : ∀ x, x ∈ ks' ↔ ∃ j, j < i + 1 ∧ val j = x := fun x => by
   rw [p.mem_iff]
   have base : (x ∈ (if val i ∈ ks then ks else val i :: ks)) ↔ (x ∈ ks ∨ val i = x) := by
    split
    ·rename_i hin
     exact ⟨.inl, fun z => z.elim id fun z => z ▸ hin⟩
    ·rw [List.mem_cons]
     exact ⟨fun z => z.elim (fun z => .inr z.symm) .inl, fun z => z.elim .inr fun z => .inl z.symm⟩
   rw [base, hks x]
   constructor
   ·rintro (⟨j, hj, e⟩ | e)
    ·exact ⟨j, by omega, e⟩
    ·exact ⟨i, by omega, e⟩
   ·rintro ⟨j, hj, e⟩
    by_cases z : j = i
    ·exact .inr (by rw [← z]; exact e)
    ·exact .inl ⟨j, by omega, e⟩
  have len' : ks'.length ≤ i + 1 := by
   rw [p.length_eq]
   split
   ·omega
   ·rw [List.length_cons]; omega
  refine wpAny_pure ⟨plainId_quiet F.plain_set_update_loop _, ih (i + 1) _ ks' (by omega) (W.frame _ s1 _ _ st1 (Nat.le_succ _) fun b hb o q => ?_) hS2 mem' len' fun s3 ks3 mv3 hS3 hm3 hl3 => ?_⟩
  ·rw [sb.2 b (fun z => hSf (by rw [← z]; exact hb))]; exact q
  ·refine fin s3 ks3 (Moved.trans W.gtrans ((mv.mono inc).then_heap (Nat.le_succ _) fun b o hb q => ?_) mv3) hS3 hm3 hl3
   rw [sb.2 b (fun z => hb (by rw [z]; exact List.mem_cons_self))]; exact q
end
end
def fSet (w : World) : Obj := { cls := .type "set", dict := none, data := .set #[] 0 (.fresh 0 0 (!w.params.followText "set-order")) }
section
variable {κ : Type} [DecidableEq κ] {P : Program} {w : World} {knd : KeyKind P w κ} {A : Around} {E : Value → Shared → Prop} {s : Shared}
theorem sk_fresh {h : Heap} {a : Addr} (e : h.get? a = some (fSet w)) : SK knd h a [] := by
 refine ⟨fSet w, #[], 0, _, e, ⟨rfl, rfl, rfl⟩, rfl, .nil, .nil, by decide, rfl, List.Pairwise.nil, ?_⟩
 show _ ∨ (!w.params.followText "set-order") = true
 cases w.params.followText "set-order" with
 | false => exact .inr rfl
 | true => exact .inl rfl
theorem set_new1 (x : Value) {Q : Value → Shared → Prop} (h : Q (.ref s.heap.objs.size) { s with heap := s.heap.push (fSet w) }) : codeAny (model P w) A (.call (.builtin "set.__new__") ⟨[.type "set", x], []⟩) (wants Q E) s := by
 refine codeAny_of_tree ?_
 show wpAny _ A.in1 (checkBuiltinCall "set.__new__" ⟨[.type "set", x], []⟩ >>= fun _ => again (.builtin "set.__new__" ⟨[.type "set", x], []⟩)) _ _ s
 refine wpAny_bind (wpAny_of_eq (F.newCall_set_1 x) (wpAny_pure ⟨plainId_quiet F.plain_set_new _, codeAny_builtin F.entry_set_new ?_⟩))
 rw [Around.under_plainId F.plain_set_new _]
 unfold Builtin.«set.__new__» Builtin.Frozenset.newClass
 have k := sub_set_self
 obtain ⟨h0, g0, d0, t0, o0⟩ := s
 dsimp only
 wp_walk
 refine wpAny_askSetting (wpAny_pure ?_)
 simp only [newObj]
 exact wpAny_bind (wpAny_alloc (wpAny_pure (wpAny_pure h)))
structure Seq1 (T : String) : Prop where
 s1 : isSubtype (.type T) (.type "set") = pure false
 s2 : isSubtype (.type T) (.type "frozenset") = pure false
 ne : (Value.type T == Value.type "dict") = false
theorem seq_l : Seq1 "list" := ⟨F.sub_list_set, F.sub_list_frozenset, by decide⟩
theorem seq_t : Seq1 "tuple" := ⟨by rw [isSubtype_type]; kernel_rfl, by rw [isSubtype_type]; kernel_rfl, by decide⟩
theorem call_set1 {T : String} (C : Seq1 T) {l : Addr} {ol : Obj} {n : Nat} {Pv : Nat → Value → Prop} (val : Nat → κ) {Q : Value → Shared → Prop} (hl : s.heap.get? l = some ol) (hc : ol.cls = .type T) (low : n + 1 < scanBound) (hval : ∀ i v, Pv i v → knd.is (val i) v = true ∧ v.scannable = true)
  (hit : ∀ (A' : Around) (s1 : Shared) (E' : Value → Shared → Prop) (Q' : Value → Shared → Prop), s1.heap.get? l = some ol → (∀ (I : Addr) (h' : Heap), I = s1.heap.objs.size → (∀ b o, s1.heap.get? b = some o → h'.get? b = some o) →
    (∀ A2 : Around, A2.handled = A.handled → ∃ St : Nat → Shared → Prop, WalksS P w A2 I [I, l] [I] (fun g g' => g' = g) n Pv St ∧ St 0 { s1 with heap := h' }) → Q' (.ref I) { s1 with heap := h' }) → wpAny (model P w) A' (pyIter (.ref l)) Q' E' s1)
  (h : ∀ (s' : Shared) (ks : List κ), SK knd s'.heap s.heap.objs.size ks → (∀ x, x ∈ ks ↔ ∃ j, j < n ∧ val j = x) → ks.length ≤ n → (∀ b o, s.heap.get? b = some o → s'.heap.get? b = some o) → s'.gens = s.gens → s'.drawn = s.drawn → s'.os = s.os → Q (.ref s.heap.objs.size) s') :
  wpAny (model P w) A (call (.type "set") [.ref l]) Q E s := by
 obtain ⟨c0, tl, hmro⟩ := F.called_set.mro
 have m1 := F.called_set.made
 have m2 := F.called_set.sub
 refine wpAny_call (codeAny_of_tree ?_)
 show wpAny _ _ (callAny (.type "set") _) _ _ _
 refine wpAny_pure ⟨Code.quiet_builtin _ (by decide +kernel), codeAny_builtin F.entry_type_call ?_⟩
 rw [Around.under_plain (weight_type_call_type "set" [.ref l] []) rfl]
 have m3 := F.called_set.notType
 have m4 := F.called_set.canCreate
 have m5 := F.typeCall_set_1 (.ref l)
 repeat (any_goals (first | assumption | wp_step))
 refine codeAny_mono (set_new1 (.ref l) (E := E) (Q := fun obj s1 => obj = .ref s.heap.objs.size ∧ s1 = { s with heap := s.heap.push (fSet w) }) ⟨rfl, rfl⟩) fun r s1 hr => ?_
 cases r with
 | error e => exact hr
 | ok fl =>
  cases fl with
  | ret obj =>
   obtain ⟨rfl, rfl⟩ := hr
   have e0 : (s.heap.push (fSet w)).get? s.heap.objs.size = some (fSet w) := Heap.get?_push_size _ rfl
   have hT : Shared.TypeIs { s with heap := s.heap.push (fSet w) } (.ref s.heap.objs.size) "set" := ⟨_, e0, rfl⟩
   have m6 := F.called_set.init.lookup
   have m7 := F.called_set.init.bind (.ref s.heap.objs.size)
   repeat (any_goals (first | assumption | wp_step))
   refine codeAny_mono (codeAny_call_builtin (R := wants (fun r s2 => r = .none ∧ ∃ ks, SK knd s2.heap s.heap.objs.size ks ∧ (∀ x, x ∈ ks ↔ ∃ j, j < n ∧ val j = x) ∧ ks.length ≤ n ∧ (∀ b o, s.heap.get? b = some o → s2.heap.get? b = some o) ∧ s2.gens = s.gens ∧ s2.drawn = s.drawn ∧ s2.os = s.os) E)
    F.called_set.init.plain F.entry_set_init (check_set_init_1 hT ?_)) fun r2 s2 hr2 => ?_
   ·obtain ⟨oc, od, dt, sl⟩ := ol
    simp only at hc
    subst hc
    have e1 : (s.heap.push (fSet w)).get? l = some { cls := .type T, dict := od, data := dt, slots := sl } := Heap.get?_push_of_some _ hl
    have k1 := C.s1
    have k2 := C.s2
    have k3 := C.ne
    have hls : l < s.heap.objs.size := Heap.lt_size hl
    unfold Builtin.«set.__init__» noKeywords Builtin.Frozenset.updateFrom
    generalize hPI : pyIter = PI
    wp_walk
    subst hPI
    refine hit _ _ _ _ e1 fun I h' hI kp W => ?_
    refine wpAny_bind (wpAny_runValue ?_)
    obtain ⟨St, W1, st⟩ := W A.in1.in1.in1 rfl
    have eI : I = s.heap.objs.size + 1 := by rw [hI]; exact Heap.size_push ..
    refine sk_loop W1 (fun z => ?_) val hval low n 0 _ [] (by omega) st (sk_fresh (kp _ _ e0)) (fun x => by simp) (Nat.zero_le _) fun s' ks mv hS hm hlen => ?_
    ·rcases List.mem_cons.mp z with z | z
     ·exact absurd (z.trans eI) (Nat.ne_of_lt (Nat.lt_succ_self _))
     ·exact absurd (List.mem_singleton.mp z) (Nat.ne_of_gt hls)
    ·show wpAny _ _ _ _ _ _
     refine wpAny_pure ?_
     show wpAny _ _ (ret Value.none) _ _ _
     refine wpAny_pure ⟨rfl, ks, hS, hm, hlen, fun b o q => ?_, mv.gens, mv.drawn, mv.os⟩
     have hb := Heap.lt_size q
     refine mv.heap b o (fun z => ?_) (kp b o (Heap.get?_push_of_some _ q))
     rcases List.mem_cons.mp z with z | z
     ·exact absurd z (Nat.ne_of_lt hb)
     ·exact absurd ((List.mem_singleton.mp z).trans eI) (Nat.ne_of_lt (Nat.lt_succ_of_lt hb))
   ·cases r2 with
    | error e => exact hr2
    | ok f2 =>
     cases f2 with
     | ret r =>
      obtain ⟨rfl, ks, q1, q2, q3, q4, q5, q6, q7⟩ := hr2
      repeat (any_goals (first | assumption | wp_step))
      exact h _ ks q1 q2 q3 q4 q5 q6 q7
     | _ => exact hr2.elim
  | _ => exact hr.elim
end
end DL
end
section
namespace DL
open PySem PySem.Spec PyProof.Rows L2 PySem.W
theorem line_units {n : Nat} {A : Around} (h : A.units + 66 < cLine) (hn : n ≤ 64) : A.units + 2 + n < cLine := by omega
def sortOk (xs : List D) : Bool := (xs.all fun x => xs.all fun y => alike x y) && ((xs.all fun x => match x with
 | .tuple (_ :: _) => true
 | _ => false) || (xs.all fun x => match x with
 | .tuple _ => false
 | .none => false
 | _ => true)) && SeqAt.shaped (.list xs)
def sortL (xs : List D) : List D := xs.mergeSort (dataLe false id)
def sortO : D → Option (List D)
 | .list xs => if sortOk xs = true then some (sortL xs) else none
 | _ => none
theorem depth_le {x : D} : ∀ {xs : List D}, x ∈ xs → x.depth ≤ PyData.depthAll xs
 | y :: ys, h => by
  rw [PyData.depthAll]
  rcases List.mem_cons.mp h with h | h
  ·subst h; exact Nat.le_max_left _ _
  ·exact Nat.le_trans (depth_le h) (Nat.le_max_right _ _)
theorem rows_each {X : Cx} {pins : List (Addr × Obj)} {σ : Sl} {H F : Hp} {s : Shared} (I : L2.Inv X pins σ H s) (sm : Same F H) : ∀ {vs : List V} {xs : List D} {us : List Value}, RpAll X.K F vs xs → Vals vs us → PyData.canLayAll0 xs = true →
  EachIs (fun v b => ∃ u, RelV u v ∧ Rp X.K F u b) us xs ∧ EachIs (fun v b => ∃ as, Reads s.heap v b as) us xs
 | _, _, _, .nil, .nil, _ => ⟨.nil, .nil⟩
 | _, _, _, .cons h r, .cons q t, hc => by
  obtain ⟨c1, c2⟩ : _ ∧ _ := by simpa [PyData.canLayAll0] using hc
  obtain ⟨k1, k2⟩ := rows_each I sm r t c2
  exact ⟨.cons ⟨_, q, h⟩ k1, .cons (Dp.reads I _ _ _ ((h.mono sm).dp c1) q) k2⟩
theorem each_rows {K : Frag} {F : Hp} : ∀ {us : List Value} {xs : List D}, EachIs (fun v b => ∃ u, RelV u v ∧ Rp K F u b) us xs → ∃ ws, Vals ws us ∧ RpAll K F ws xs
 | _, _, .nil => ⟨[], .nil, .nil⟩
 | _, _, .cons ⟨u, h1, h2⟩ t => by
  obtain ⟨ws, k1, k2⟩ := each_rows t
  exact ⟨u :: ws, .cons h1 k1, .cons h2 k2⟩
theorem map_id' (xs : List D) : xs.map (id : D → D) = xs := List.map_id xs
theorem cd_sorted {X : Cx} (hu : X.A.units + 66 < cLine) : CallR X (.builtin "sorted") (rN1 X.K sortO) := by
 intro pins s σ H vs us Q I rv ⟨F, v, x, z, hv, sm, rx, hz, q⟩
 subst hv
 unfold sortO at hz
 split at hz
 ·split at hz
  ·rename_i xs hk
   cases hz
   obtain ⟨p, ws, rfl, h1, r1⟩ := inv_list sm rx
   rw [Vals.ref1 rv]
   obtain ⟨its, ri, hl, hz⟩ := I.list (.of h1)
   unfold sortOk at hk
   simp only [Bool.and_eq_true] at hk
   obtain ⟨⟨k1, k2⟩, k3⟩ := hk
   have cl : PyData.canLayAll0 xs = true := by simpa [PyData.canLay0] using SeqAt.canLay_of_shaped k3
   have dp := SeqAt.depth_of_shaped k3
   obtain ⟨e1, e2⟩ := rows_each I sm r1 ri cl
   have hlen : its.length = xs.length := each_len e1
   have hL : xs.length ≤ sizeLine := by rw [← r1.length]; exact hz
   refine sorted_data (enc := id) (R := fun v b => ∃ u, RelV u v ∧ Rp X.K F u b) hl.isList e1 e2 ?_ ?_ hL ?_ fun out ho eo => ?_
   ·rw [map_id']
    intro d hd d' hd'
    exact List.all_eq_true.mp (List.all_eq_true.mp k1 d hd) d' hd'
   ·rw [map_id']
    rcases Bool.or_eq_true_iff.mp k2 with k | k
    ·refine .inl fun d hd => ?_
     have c := List.all_eq_true.mp k d hd
     split at c
     ·exact ⟨_, _, rfl⟩
     ·cases c
    ·refine .inr fun d hd => ?_
     have c := List.all_eq_true.mp k d hd
     split at c
     ·cases c
     ·cases c
     ·rename_i n1 n2
      exact ⟨n2, fun ys => n1 ys⟩
   ·intro b hb
    have : b.depth ≤ 64 := Nat.le_trans (depth_le hb) (by rw [PyData.depth] at dp; omega)
    exact line_units hu this
   ·obtain ⟨ws', v1, v2⟩ := each_rows eo
    obtain ⟨ep, he⟩ := PyProof.Rows.sortedAll_at s.heap its out.toArray
    have hl' : ws'.length ≤ sizeLine := by rw [v1.length, ho]; exact hL
    have fr := I.hok.fresh (a := s.heap.objs.size + 1) (Nat.le_succ _)
    refine ⟨.ref _, upd H (s.heap.objs.size + 1) (.lst ws'), I.laid (t' := s.toks) (fun _ _ => PyProof.Rows.sortedAll_old) (Nat.le_succ _) ⟨hl', out, ep, v1, he⟩, rfl, ?_⟩
    exact q _ _ ws' fr (New.own sm fr _) upd_same v2
  ·cases hz
 ·cases hz
def leS (a b : Str) : Bool := decide (a.cps.toList ≤ b.cps.toList)
def sortS (l : List Str) : List Str := l.mergeSort leS
def onceS : List Str → List Str
 | [] => []
 | x :: r => if x ∈ r then onceS r else x :: onceS r
theorem once_mem {x : Str} : ∀ {l : List Str}, x ∈ onceS l ↔ x ∈ l
 | [] => Iff.rfl
 | y :: r => by
  unfold onceS
  split
  ·rename_i h
   rw [once_mem (l := r), List.mem_cons]
   exact ⟨.inr, fun z => z.elim (fun z => z ▸ h) id⟩
  ·rw [List.mem_cons, List.mem_cons, once_mem (l := r)]
theorem once_nd : ∀ l : List Str, (onceS l).Nodup
 | [] => .nil
 | y :: r => by
  unfold onceS
  split
  ·exact once_nd r
  ·rename_i h
   exact List.nodup_cons.mpr ⟨fun z => h (once_mem.mp z), once_nd r⟩
theorem once_len : ∀ l : List Str, (onceS l).length ≤ l.length
 | [] => Nat.le_refl _
 | y :: r => by
  unfold onceS
  split
  ·exact Nat.le_succ_of_le (once_len r)
  ·exact Nat.succ_le_succ (once_len r)
theorem cps_inj {a b : Str} (h : a.cps.toList = b.cps.toList) : a = b := by
 cases a; cases b
 have : (⟨_⟩ : Str).cps = _ := Array.toList_inj.mp h
 simp_all
theorem leS_trans (a b c : Str) (h1 : leS a b = true) (h2 : leS b c = true) : leS a c = true := by
 unfold leS at *
 rw [decide_eq_true_eq] at *
 exact List.le_trans h1 h2
theorem leS_total (a b : Str) : (leS a b || leS b a) = true := by
 unfold leS
 rw [Bool.or_eq_true, decide_eq_true_eq, decide_eq_true_eq]
 exact List.le_total _ _
theorem leS_anti {a b : Str} (h1 : leS a b = true) (h2 : leS b a = true) : a = b := by
 unfold leS at *
 rw [decide_eq_true_eq] at *
 exact cps_inj (List.le_antisymm h1 h2)
theorem sort_same {k l : List Str} (h : k.Nodup) (e : ∀ x, x ∈ k ↔ x ∈ l) : sortS k = sortS (onceS l) := by
 have p : k.Perm (onceS l) := (List.perm_ext_iff_of_nodup h (once_nd l)).mpr fun x => (e x).trans once_mem.symm
 have p2 : (sortS k).Perm (sortS (onceS l)) := (List.mergeSort_perm k leS).trans (p.trans (List.mergeSort_perm _ leS).symm)
 exact p2.eq_of_pairwise (le := fun a b => leS a b = true) (fun a b _ _ => leS_anti) (List.pairwise_mergeSort leS_trans leS_total k) (List.pairwise_mergeSort leS_trans leS_total _)
section
variable {P : Program} {w : World} {A : Around} {E : Value → Shared → Prop} {s : Shared} {a : Addr} {ks : List Str}
theorem sk_vals {vs : List Value} {ks' : List Str} (h : EachIs (fun v k => (strKind P w).is k v = true) vs ks') : EachIs (fun v k => ∃ t, v = Value.str k t) vs ks' := by
 induction h with
 | nil => exact .nil
 | cons h _ ih => exact .cons (Value.isStrOf_shape h) ih
theorem sorted_sk {Q : Value → Shared → Prop} (R : SK (strKind P w) s.heap a ks) (hh : A.handled = none) (hu : A.units + 66 < cLine)
  (h : ∀ (s' : Shared) (p : Addr) (out : List Value) (c : Nat), (∀ b o, s.heap.get? b = some o → s'.heap.get? b = some o) → s'.gens = s.gens → s'.os = s.os → s.heap.objs.size ≤ p → s'.heap.get? p = some (seqObj "list" out.toArray c) → EachIs (fun v k => ∃ t, v = Value.str k t) out (sortS ks) → Q (.ref p) s') :
  wpAny (model P w) A (call (.builtin "sorted") [.ref a]) Q E s := by
 obtain ⟨o, es, ep, t, ho, hx, hd, r⟩ := R
 refine Calls.call_function_entry kind_sorted plain_sorted entry_sorted (args_sorted1 _) ?_
 unfold Builtin.«sorted»
 refine wpAny_bind (m := checkCount "sorted" 1 1 _) (wpAny_pure (wpAny_bind ?_))
 refine collect_set (A := A.in1) hh ⟨o, ho, hx.1, hd⟩ r.fit r.low r.ris r.led fun s1 vs k1 z1 g1 o1 pm => ?_
 have ent : EachIs (fun v k => (strKind P w).is k v = true) (es.toList.map (·.2)) ks := by
  have gen : ∀ {l : List (Int × Value)} {m : List Str}, EachIs (Ent (strKind P w)) l m → EachIs (fun v k => (strKind P w).is k v = true) (l.map (·.2)) m := fun {l m} q => by
   induction q with
   | nil => exact .nil
   | cons q _ ih => exact .cons q.1 ih
  exact gen r.ent
 obtain ⟨k', e1, p1⟩ := each_perm pm ent
 have e2 := sk_vals e1
 have hl1 : vs.length = ks.length := (each_len e1).trans p1.length_eq
 have hl2 : ks.length ≤ sizeLine := by
  have := fits_of_scanBound r.low
  rw [← each_len r.ent, Array.length_toList]; exact this
 refine wpAny_bind (wpAny_newList ?_ (by rw [hl1]; exact hl2))
 have oL : (s1.heap.push (seqObj "list" vs.toArray 0)).get? s1.heap.objs.size = some (seqObj "list" vs.toArray 0) := Heap.get?_push_size _ rfl
 have hnd : k'.Nodup := p1.nodup_iff.mpr r.nd
 refine wpAny_bind (wpAny_holding (list_sort_data (s := { s1 with heap := s1.heap.push (seqObj "list" vs.toArray 0) }) (enc := fun b : Str => PyData.str b) (R := fun v k => ∃ t, v = Value.str k t) oL e2 (e2.mono fun v k ⟨t, q⟩ => ⟨[], by subst q; exact .str _ _, by simp⟩) (AllAlike.of fun _ _ => rfl) (Sortable.others fun b => ⟨(by intro z; cases z), fun xs z => by cases z⟩) (by rw [p1.length_eq]; exact hl2) (fun b _ => ?_) fun out ho eo => ?_))
 ·show A.in1.units + 1 + PyData.depth (.str b) < cLine
  have : A.in1.units ≤ A.units + 1 := by first | exact Nat.le_refl _ | simp [Around.in1]
  rw [PyData.depth]
  omega
 ·rw [dataLe_str] at eo
  obtain ⟨c, hc⟩ := PyProof.Rows.sortedHeap_at (vs := vs) (out := out.toArray) oL
  refine wpAny_pure ⟨_, rfl, h _ s1.heap.objs.size out c (fun b u q => ?_) g1 o1 z1 hc ?_⟩
  ·have q1 := k1 b u q
   have hlt := Heap.lt_size q1
   show (PyProof.Rows.sortedHeap (s1.heap.push (seqObj "list" vs.toArray 0)) s1.heap.objs.size vs out.toArray).get? b = some u
   rw [PyProof.Rows.sortedHeap_old (Nat.ne_of_lt hlt) (Nat.lt_of_lt_of_eq (Nat.lt_succ_of_lt hlt) (Heap.size_push ..).symm)]
   exact Heap.get?_push_of_some _ q1
  ·have es : k'.mergeSort (fun a b => decide (a.cps.toList ≤ b.cps.toList)) = sortS ks := by
    show sortS k' = sortS ks
    rw [sort_same hnd (l := ks) fun x => p1.mem_iff, sort_same r.nd (l := ks) fun x => Iff.rfl]
   rw [← es]
   exact eo
end
end DL
end
section
namespace DL
open PySem PySem.Spec PyProof.Rows L2 PySem.W
abbrev TK := Sl → Hp → (List Str → Hp → Prop) → Prop
structure PSt (X : Cx) (e : Expr) (t : TK) : Prop where
 run : ∀ (pins : List (Addr × Obj)) (s : Shared) (σ : Sl) (H : Hp) (Q : List Str → Hp → Prop), L2.Inv X pins σ H s → t σ H Q →
  wpAny (model X.prog X.w) X.A (eval e X.env) (fun v s' => ∃ a ks H', v = Value.ref a ∧ SK (strKind X.prog X.w) s'.heap a ks ∧ L2.Inv X pins σ H' s' ∧ Q ks H') X.xe s
def PKx (K : Frag) (c : Ct) (pu : Bool) (F H : Hp) (σ : Sl) (Q : List Str → Hp → Prop) (l : List Str) (ρ' : Env) : Prop :=
 ∀ F' H' O' ks, EnvR K c F' H' σ ρ' O' → Same F F' → (pu = true → Same H H') → ks.Nodup → (∀ x, x ∈ ks ↔ x ∈ l) → Q ks H'
def tk (K : Frag) (c : Ct) (pu : Bool) (m : M (List Str)) : TK := fun σ H Q => ∃ F ρ O, EnvR K c F H σ ρ O ∧ (m ρ).post (PKx K c pu F H σ Q) (PX K c σ)
def textsD (x : D) : Option (List Str) := match x with
 | .list xs => (allStr xs).bind fun l => if l.length + 1 < scanBound then some l else none
 | .tuple xs => (allStr xs).bind fun l => if l.length + 1 < scanBound then some l else none
 | _ => none
def mSetOf (m : M D) : M (List Str) := fun ρ => (m ρ).bind fun x ρ1 => ofO (textsD x) ρ1
def mSortK (m : M (List Str)) : M (List D) := fun ρ => (m ρ).bind fun l ρ1 => .ok ((sortS (onceS l)).map .str) ρ1
def mLenK (m : M (List Str)) : M D := fun ρ => (m ρ).bind fun l ρ1 => .ok (.int ((onceS l).length : Nat)) ρ1
theorem vals_str : ∀ {l : List Str} {us : List Value}, Vals (l.map V.str) us → ∀ i (v : Value), us[i]? = some v → ∃ t, v = .str (l.getD i Str.empty) t
 | [], _, .nil, i, v, h => by simp at h
 | x :: l, _, .cons r t, 0, v, h => by
  obtain ⟨k, rfl⟩ := r
  simp at h
  exact ⟨k, h.symm⟩
 | x :: l, _, .cons r t, i + 1, v, h => by
  obtain ⟨k, e⟩ := vals_str t i v (by simpa using h)
  exact ⟨k, by rw [e]; rfl⟩
theorem mem_idx {l : List Str} {x : Str} : (∃ j, j < l.length ∧ l.getD j Str.empty = x) ↔ x ∈ l := by
 constructor
 ·rintro ⟨j, hj, rfl⟩
  rw [List.getD_eq_getElem?_getD, List.getElem?_eq_getElem hj]
  exact List.getElem_mem hj
 ·intro h
  obtain ⟨j, hj, e⟩ := List.getElem_of_mem h
  exact ⟨j, hj, by rw [List.getD_eq_getElem?_getD, List.getElem?_eq_getElem hj, e]; rfl⟩
theorem SK.nd {κ : Type} [DecidableEq κ] {P : Program} {w : World} {knd : KeyKind P w κ} {h : Heap} {a : Addr} {ks : List κ} (R : SK knd h a ks) : ks.Nodup := by
 obtain ⟨_, _, _, _, _, _, _, r⟩ := R
 exact r.nd
theorem set_texts {X : Cx} {pins : List (Addr × Obj)} {σ : Sl} {H : Hp} {s : Shared} {p : Addr} {l : List Str} {Q : Value → Shared → Prop} {E : Value → Shared → Prop} (hc : X.calm = true) (I : L2.Inv X pins σ H s) (hp : SqL X.K H p (l.map V.str) ∨ SqT X.K H p (l.map V.str)) (low : l.length + 1 < scanBound)
  (h : ∀ a ks s', SK (strKind X.prog X.w) s'.heap a ks → (∀ x, x ∈ ks ↔ x ∈ l) → L2.Inv X pins σ H s' → Q (.ref a) s') : wpAny (model X.prog X.w) X.A (call (.type "set") [.ref p]) Q E s := by
 have hh := I.ok.hd hc
 have done : ∀ {us : List Value}, Vals (l.map V.str) us → us.toArray.size = l.length → ∀ (s' : Shared) (ks : List Str), SK (strKind X.prog X.w) s'.heap s.heap.objs.size ks → (∀ x, x ∈ ks ↔ ∃ j, j < l.length ∧ l.getD j Str.empty = x) → (∀ b o, s.heap.get? b = some o → s'.heap.get? b = some o) → s'.gens = s.gens → s'.drawn = s.drawn → s'.os = s.os → Q (.ref s.heap.objs.size) s' := fun r e s' ks q1 q2 q3 q4 q5 q6 => by
  have es : s' = { s with heap := s'.heap, toks := s'.toks } := by
   cases s'
   cases s
   cases q4; cases q5; cases q6
   rfl
  refine h _ ks s' q1 (fun x => (q2 x).trans mem_idx) ?_
  rw [es]
  exact I.kept q3
 rcases hp with hp | hp
 ·obtain ⟨us, r, pl, _⟩ := I.list hp
  obtain ⟨o, n, e, oc, od, dt⟩ := pl
  have hl : us.toArray.size = l.length := by rw [List.size_toArray, ← r.length, List.length_map]
  refine call_set1 (knd := strKind X.prog X.w) seq_l (n := l.length) (Pv := fun i v => us.toArray[i]? = some v) (fun i => l.getD i Str.empty) e oc low (fun i v hv => ?_) (fun A' s1 E' Q' e1 k => ?_) fun s' ks q1 q2 _ q3 q4 q5 q6 => done r hl s' ks q1 q2 q3 q4 q5 q6
  ·obtain ⟨t, rfl⟩ := vals_str r i v (by simpa using hv)
   exact ⟨strKind_is _ _ _ _, rfl⟩
  ·have il : s1.heap.IsList p us.toArray := ⟨o, e1, oc, n, dt⟩
   have ne : p ≠ s1.heap.objs.size := Nat.ne_of_lt (Heap.lt_size e1)
   refine wpAny_pyIter_list il (k _ _ rfl (fun b u q => Heap.get?_push_of_some _ q) fun A2 h2 => ?_)
   have W := (Walks.list (prog := X.prog) (w := X.w) (A := A2) (h2.trans hh) s1.heap.objs.size p ne us.toArray).toS
   rw [hl] at W
   exact ⟨_, W, ⟨⟨_, Heap.get?_push_size _ rfl, rfl, rfl⟩, il.push _⟩⟩
 ·obtain ⟨us, r, pl, _⟩ := I.tuple hp
  obtain ⟨o, e, oc, n, dt⟩ := pl
  have hl : us.toArray.size = l.length := by rw [List.size_toArray, ← r.length, List.length_map]
  refine call_set1 (knd := strKind X.prog X.w) seq_t (n := l.length) (Pv := fun i v => us.toArray[i]? = some v) (fun i => l.getD i Str.empty) e oc low (fun i v hv => ?_) (fun A' s1 E' Q' e1 k => ?_) fun s' ks q1 q2 _ q3 q4 q5 q6 => done r hl s' ks q1 q2 q3 q4 q5 q6
  ·obtain ⟨t, rfl⟩ := vals_str r i v (by simpa using hv)
   exact ⟨strKind_is _ _ _ _, rfl⟩
  ·have il : s1.heap.IsTuple p us.toArray := ⟨o, e1, oc, n, dt⟩
   have ne : p ≠ s1.heap.objs.size := Nat.ne_of_lt (Heap.lt_size e1)
   refine wpAny_pyIter_tuple il (k _ _ rfl (fun b u q => Heap.get?_push_of_some _ q) fun A2 h2 => ?_)
   have W := (Walks.tuple (prog := X.prog) (w := X.w) (A := A2) (h2.trans hh) s1.heap.objs.size p ne us.toArray).toS
   rw [hl] at W
   exact ⟨_, W, ⟨⟨_, Heap.get?_push_size _ rfl, rfl, rfl⟩, il.push _⟩⟩
section
variable {X : Cx} {c : Ct} {e : Expr} {pos p : Pos} {ka pu : Bool} {me : M D} {mk : M (List Str)}
theorem sk_set (hc : X.calm = true) (hm : X.mg "set" = none) (ha : PE X e (te X.K c ka pu me)) (hg : Gl X "set" := by rfl) (na : starEach [e] X.env = (false, eval e X.env) :: starEach [] X.env := by rfl) : PSt X (.Call (.Name "set" p) [e] [] pos) (tk X.K c pu (mSetOf me)) := ⟨fun pins s σ H Q I ⟨F, ρ, O, ev, h⟩ => by
 refine Call_ (ld_blt I hg hm boot_set ?_)
 refine PyProof.Rows.callWith_type1 (PyProof.Rows.args_cons (thn (ha.run pins s σ H (fun v H1 => ∃ F1 ρ1 O1 l p, EnvR X.K c F1 H1 σ ρ1 O1 ∧ Same F F1 ∧ (pu = true → Same H H1) ∧ v = .ref p ∧ (SqL X.K H1 p (l.map V.str) ∨ SqT X.K H1 p (l.map V.str)) ∧ l.length + 1 < scanBound ∧ PKx X.K c pu F H σ Q l ρ1) I ?_) fun v s1 ⟨x, H1, I1, r1, q1⟩ => PyProof.Rows.args_nil ?_) na) na rfl
 ·refine te_step ev h fun y ρ1 F1 H1 O1 v h1 e1 s1 p1 v1 => ?_
  obtain ⟨l, hl, h2⟩ := post_ofO h1
  unfold textsD at hl
  split at hl
  ·obtain ⟨l', hs, hl⟩ := Option.bind_eq_some_iff.mp hl
   split at hl
   ·rename_i low
    cases hl
    obtain ⟨p, vs, rfl, k1, k2⟩ := inv_list e1.sub v1.up0
    have ev2 := allStr_ok hs k2
    subst ev2
    exact ⟨F1, ρ1, O1, l, p, e1, s1, p1, rfl, .inl (.of k1), low, h2⟩
   ·cases hl
  ·obtain ⟨l', hs, hl⟩ := Option.bind_eq_some_iff.mp hl
   split at hl
   ·rename_i low
    cases hl
    obtain ⟨p, vs, rfl, k1, k2⟩ := inv_tup v1.up0
    have ev2 := allStr_ok hs k2
    subst ev2
    exact ⟨F1, ρ1, O1, l, p, e1, s1, p1, rfl, .inr (sq_t e1.sub k1.seq), low, h2⟩
   ·cases hl
  ·cases hl
 ·obtain ⟨F1, ρ1, O1, l, p, e1, s1', p1, rfl, k1, low, h2⟩ := q1
  cases r1
  exact set_texts hc I1 k1 low fun a ks s' hS hks I' => ⟨a, ks, H1, rfl, hS, I', h2 F1 H1 O1 ks e1 s1' p1 hS.nd hks⟩⟩
theorem n_sortK (hc : X.calm = true) (hu : X.A.units + 66 < cLine) (hm : X.mg "sorted" = none) (ha : PSt X e (tk X.K c pu mk)) (hg : Gl X "sorted" := by rfl) (na : starEach [e] X.env = (false, eval e X.env) :: starEach [] X.env := by rfl) : PE X (.Call (.Name "sorted" p) [e] [] pos) (tn X.K c pu (mSortK mk)) := ⟨fun pins s σ H Q I ⟨F, ρ, O, ev, h⟩ => by
 refine Call_ (ld_blt I hg hm boot_sorted ?_)
 refine PyProof.Rows.callWith_builtin1 (PyProof.Rows.args_cons (thn (ha.run pins s σ H (fun ks H1 => ∃ F1 ρ1 O1 l, EnvR X.K c F1 H1 σ ρ1 O1 ∧ Same F F1 ∧ (pu = true → Same H H1) ∧ ks.Nodup ∧ (∀ x, x ∈ ks ↔ x ∈ l) ∧ PN X.K c pu F H σ Q ((sortS (onceS l)).map .str) ρ1) I ?_) fun v s1 ⟨a, ks, H1, hv, hS, I1, q1⟩ => PyProof.Rows.args_nil ?_) na) na rfl
 ·exact ⟨F, ρ, O, ev, Res.post_imp (Res.post_bind h) (fun l ρ1 h1 F1 H1 O1 ks e1 s1 p1 nd hk => ⟨F1, ρ1, O1, l, e1, s1, p1, nd, hk, h1⟩) fun _ _ h => h⟩
 ·obtain ⟨F1, ρ1, O1, l, e1, s1', p1, nd, hk, h2⟩ := q1
  subst hv
  refine sorted_sk hS (I1.ok.hd hc) hu fun s' q out cc keep hg' ho' hq hget eo => ?_
  have hn : H1 q = none := I1.hok.fresh hq
  have vl : ∀ {us : List Value} {zs : List Str}, EachIs (fun v k => ∃ t, v = Value.str k t) us zs → Vals (zs.map V.str) us := fun {us zs} q => by
   induction q with
   | nil => exact .nil
   | cons q _ ih => exact .cons q ih
  have vs := vl eo
  have hz : ((sortS ks).map V.str).length ≤ sizeLine := by
   have hp := (List.mergeSort_perm ks leS).length_eq
   have : ks.length ≤ sizeLine := by
    obtain ⟨_, es, _, _, _, _, _, r⟩ := hS
    rw [← each_len r.ent, Array.length_toList]
    exact fits_of_scanBound r.low
   rw [List.length_map]
   show (ks.mergeSort leS).length ≤ _
   rw [hp]
   exact this
  have J : L2.Inv X pins σ (upd H1 q (.lst ((sortS ks).map V.str))) { s1 with heap := s'.heap, gens := s'.gens, drawn := s'.drawn, toks := s'.toks } :=
   I1.call (ch := []) (Un.laid keep hq hn) (I1.hok.laid keep hq ⟨hz, out, cc, vs, hget⟩) (by rw [hg']; exact I1.bare) (fun _ z => nomatch z)
  have es : s' = { s1 with heap := s'.heap, gens := s'.gens, drawn := s'.drawn, toks := s'.toks } := by
   cases s'
   cases s1
   cases ho'
   rfl
  rw [es]
  have n1 := New.own e1.sub hn (.lst ((sortS ks).map V.str))
  refine ⟨.ref q, _, J, rfl, h2 F1 _ O1 q _ (e1.new n1) s1' (fun z => (p1 z).trans n1.hH) upd_same ?_ (e1.apart hn)⟩
  rw [sort_same nd hk]
  generalize sortS (onceS l) = zs
  induction zs with
  | nil => exact .nil
  | cons z zs ih => exact .cons (.str z) ih⟩
end
end DL
end
section
namespace DL
open PySem PySem.Spec PyProof.Rows L2
theorem kb_of {K : Frag} {x qual : Str} {params : Arguments} {body : List Stmt} {scope : Scope} {kws : List (Str × V)} {f : Addr} {fd : FuncData} {ps ks : List Str} {n : Nat} {g : {α : Type} → List α → List α → List α} (F : FunD K x qual params body scope [] kws f fd)
  (hrel : ∀ {vs zs : List V} {us ws : List Value}, Vals vs us → Vals zs ws → Vals (g vs zs) (g us ws))
  (h : ∀ (kV doc pm : Value) (an : Option Addr) (cdv ct : Value) (us ws : List Value), us.length = n → ws.length = ks.length → bindArgs (PySem.W.fnOf x qual params body scope .none kV doc pm an cdv ct) ⟨us, ks.zip ws⟩ = pure (ps.zip (g us ws))) : KBn K fd ps n ks (fun us ws => g us ws) (fun vs zs => g vs zs) := by
 obtain ⟨oc, od, dV, kV, doc, pm, an, cdv, ct, osl, rfl, lk, hcd, hD, hK⟩ := F.ex
 rcases hD with ⟨_, rfl⟩ | ⟨e, _⟩
 ·exact ⟨fun s us ws _ l1 l2 => .of_eq (h kV doc pm an cdv ct us ws l1 l2), fun r1 r2 => hrel r1 r2⟩
 ·exact absurd rfl e
def gSnd {α : Type} (_ ws : List α) : List α := ws
section
variable {X : Cx} {c : Ct} {k : Nat} {f : Addr} {fd : FuncData} {ps ks : List Str} {fn : Fn} {x : Str} {p pos kpos : Pos} {e : Expr} {es : List Expr} {kws : List Keyword} {ms : M (List AV)} {me : M D} {p1 : Bool} {nm : Option Str} {g : List Value → List Value → List Value}
theorem pk_imp {t t' : TA} (h : L2.PK X kws t) (q : ∀ σ H Q, t' σ H Q → t σ H Q) : L2.PK X kws t' := ⟨fun pos pins s σ H Q I z => h.run pos pins s σ H Q I (q σ H Q z)⟩
theorem sk_nil : L2.PK X [] (tg X.K c gNil) := pk_imp pk_nil fun σ H Q ⟨F, ρ, O, e, h⟩ => h F H O [] e (Same.refl _) .nil
theorem sk_d (ha : PE X e (te X.K c false p1 me)) (hr : L2.PK X kws (tg X.K c ms)) : L2.PK X (⟨nm, e, kpos⟩ :: kws) (tg X.K c (gD me ms)) :=
 pk_imp (pk_cons ha hr) fun σ H Q ⟨F, ρ, O, e, h⟩ => te_step e h fun x ρ1 F1 H1 O1 v h1 e1 s1 q1 v1 => tg_step e1 h1 fun xs ρ2 F2 H2 O2 vs h2 e2 s2 v2 => h2 F2 H2 O2 _ e2 (s1.trans s2) (.d (Rp.mono s2 v1) v2)
theorem so_callK0 (G : FnOk X.prog X.w X.K X.mg X.base (L2.CX X.prog X.w) k f fd ps (spF X.K c.ca fn)) (hr : Room k X.A) (hm : X.mg x = some (.ref f)) (hk : PySem.W.keepIn X.K (.ref f) = true) (hb : KBn X.K fd ps 0 ks (fun us ws => gSnd us ws) (fun vs zs => gSnd vs zs)) (tk : Takes X c.W) (hl : ∀ ρ as ρ', ms ρ = .ok as ρ' → as.length = ks.length)
  (hkw : L2.PK X kws (tg X.K c ms)) (hg : Gl X x := by rfl) (hdb : (x == ("__debug__" : Str)) = false := by decide) (hall : (backToKw pos (keywordEach kws X.env)).all (·.1.isSome) = true := by rfl) (hks : (backToKw pos (keywordEach kws X.env)).filterMap (·.1) = ks := by rfl)
  (hpl : ((backTo pos (starEach [] X.env)).any (·.1) || (backToKw pos (keywordEach kws X.env)).any (·.1.isNone)) = false := by rfl) : PE X (.Call (.Name x p) [] kws pos) (to X.K c (mCall fn ms)) := ⟨fun pins s σ H Q I ⟨F, ρ, O, ev, h⟩ => by
 refine wpAny_Call_Name_kw (ld_glob I hg hm ?_ hdb)
 refine PySem.W.callWith_KW0 (h₀ := X.base) I.ok.mod.kin hk hall ?_ hpl
 refine thn (hkw.run pos pins s σ H (fun vs H1 => ∃ as ρ1 F1 O1, as.length = ks.length ∧ EnvR X.K c F1 H1 σ ρ1 O1 ∧ Same F F1 ∧ AvAll X.K F1 σ vs as ∧ (callEnd fn as (gather ρ1 as)).post (PO X.K c F H σ Q) (PX X.K c σ)) I ?_) fun ws s2 ⟨zs, H2, I2, rz, as, ρ1, F1, O1, la, e1, s1, av, h1⟩ => ⟨I2.kIn, ?_⟩
 ·refine ⟨F, ρ, O, ev, ?_⟩
  have z := Res.post_bind h
  cases r : ms ρ with
  | ok as ρ1 => rw [r] at z; exact fun F1 H1 O1 vs e1 s1 av => ⟨as, ρ1, F1, O1, hl _ _ _ r, e1, s1, av, z⟩
  | ex ξ ρ1 => rw [r] at z; exact z
  | bad => rw [r] at z; exact z
 ·rw [hks]
  have lz : zs.length = ks.length := by
   have gen : ∀ {vs : List V} {as : List AV}, AvAll X.K F1 σ vs as → vs.length = as.length := fun {vs as} q => by
    induction q with
    | nil => rfl
    | d _ _ ih => rw [List.length_cons, List.length_cons, ih]
    | o _ _ ih => rw [List.length_cons, List.length_cons, ih]
   exact (gen av).trans la
  have sp := call_in (Q := Q) e1 av h1 fun o ρ' F' H' O' A v hp e' s' ow ap => hp F' H' O' A v e' (s1.trans s') ow ap
  refine wpAny_call (codeAny_mono (G.run X.A X.stack s2 H2 ⟨[] ++ [], ks.zip ws⟩ (gSnd [] ws) zs Q (WE c.W σ) hr I2.env0 (hb.to s2 [] ws I2.kIn rfl (rz.length.symm.trans lz)) rz sp) fun r s' hq => ?_)
  cases r with
  | error e => exact passAt tk σ pins H2 s2 e s' I2 hq
  | ok fl =>
   cases fl with
   | ret u => exact I2.after hq
   | next => exact False.elim hq
   | brk => exact False.elim hq
   | cont => exact False.elim hq⟩
end
theorem gD_len {m : M D} {ms : M (List AV)} {n : Nat} (h : ∀ ρ as ρ', ms ρ = .ok as ρ' → as.length = n) : ∀ ρ as ρ', gD m ms ρ = .ok as ρ' → as.length = n + 1 := fun ρ as ρ' e => by
 unfold gD at e
 cases h1 : m ρ with
 | ok x ρ1 =>
  rw [h1] at e
  have e : ((ms ρ1).bind fun xs ρ2 => .ok (.d x :: xs) ρ2) = .ok as ρ' := e
  cases h2 : ms ρ1 with
  | ok ys ρ2 =>
   rw [h2] at e
   have e : Res.ok (.d x :: ys) ρ2 = .ok as ρ' := e
   cases e
   rw [List.length_cons, h _ _ _ h2]
  | ex _ _ => rw [h2] at e; cases e
  | bad => rw [h2] at e; cases e
 | ex _ _ => rw [h1] at e; cases e
 | bad => rw [h1] at e; cases e
theorem gNil_len : ∀ ρ as ρ', gNil ρ = .ok as ρ' → as.length = 0 := fun ρ as ρ' e => by cases e; rfl
def sRaise (x : Str) : M Fl := fun ρ => .ex ⟨.own x, []⟩ ρ
section
variable {X : Cx} {c : Ct} {C : Addr} {bmB : List Value} {B newId initId : String} {x y m : Str} {j : Nat} {p p2 pos pos' : Pos}
theorem sv_raise (hc : X.calm = true) (tk : Takes X c.W) (F : ExcBaseFacts B newId initId bmB) (q : PySem.W.excIn X.K C bmB newId = true) (gC : X.mg x = some (.ref C)) (kC : PySem.W.keepIn X.K (.ref C) = true) (r : Raises X (.ref C)) (hca : c.ca y = C) (hg : Gl X x := by rfl) (hdb : (x == ("__debug__" : Str)) = false := by decide) :
  PS X (.Raise (some (.Call (.Name x p) [.Constant (.str m) j p2] [] pos)) none pos') (ts X.K c (sRaise y)) := (ps_raise hc tk (pmk_own F q gC kC r hg hdb)).imp fun Dn σ H ⟨F, ρ, O, ev, h⟩ => by
 exact h σ F H O (.ref C) none ev ⟨by show _ = Value.ref (c.ca y); rw [hca], fun z => absurd rfl z⟩
end
def noEx {α : Type} : Res α → Res α
 | .ex _ _ => .bad
 | r => r
structure Hd where
 cv : Value
 isa : ECls → Option Bool
 m : M Fl
def tryH : List ((ECls → Option Bool) × M Fl) → Exc → M Fl
 | [], ξ => fun ρ => .ex ξ ρ
 | h :: r, ξ => fun ρ => match h.1 ξ.c with
  | some true => noEx (h.2 ρ)
  | some false => tryH r ξ ρ
  | none => .bad
def Hd.p (h : Hd) : (ECls → Option Bool) × M Fl := (h.isa, h.m)
def sTry (b : M Fl) (hs : List ((ECls → Option Bool) × M Fl)) : M Fl := fun ρ => match b ρ with
 | .ok f ρ1 => .ok f ρ1
 | .ex ξ ρ1 => tryH hs ξ ρ1
 | .bad => .bad
inductive HsOk (X : Cx) (c : Ct) : List ExceptHandler → List Hd → Prop
 | nil : HsOk X c [] []
 | cons {x : Str} {h : Hd} {b₀ : Stmt} {suite : List Stmt} {np pos' : Pos} {hds : List ExceptHandler} {l : List Hd} (hc : Names X x h.cv) (hi : ∀ e b, h.isa e = some b → PySem.W.exmOne X.K (ecV c.ca e) h.cv = some b)
   (hsu : ∀ (a : Addr) (pn : List (Addr × Obj)), PSs (X.suite a pn) (b₀ :: suite) (ts X.K c.nox h.m)) (r : HsOk X c hds l) : HsOk X c (.ExceptHandler (some (.Name x np)) none (b₀ :: suite) pos' :: hds) (h :: l)
section
variable {X : Cx} {c : Ct} {body : List Stmt} {hds : List ExceptHandler} {h₀ : ExceptHandler} {l : List Hd} {b : M Fl} {pos : Pos}
end
end DL
end
section
namespace DL
open PySem PySem.Spec PyProof.Rows L2
section
variable {X : Cx} {c : Ct} {es es' : List Expr} {pos : Pos} {t : TGs}
def tStar (k : Nat) (u : List D → Env → Option Env) : D → Env → Option Env := fun x ρ => match x with
 | .tuple xs => if k ≤ xs.length then u (xs.take k ++ [.list (xs.drop k)]) ρ else none
 | .list xs => if k ≤ xs.length then u (xs.take k ++ [.list (xs.drop k)]) ρ else none
 | _ => none
end
end DL
end
section
namespace DL
open PySem PySem.Spec PyProof.Rows L2
abbrev KD := List (Key × D)
def dK (kds : KD) : D := .dict (kds.map fun p => (kD p.1, p.2))
def keyOf : D → Option Key
 | .int i => some (.inl i)
 | .str x => some (.inr x)
 | _ => none
inductive RpK (K : Frag) (F : Hp) : List (Key × V) → KD → Prop
 | nil : RpK K F [] []
 | cons {k : Key} {v : V} {x : D} {r : List (Key × V)} {s : KD} : Rp K F v x → RpK K F r s → RpK K F ((k, v) :: r) ((k, x) :: s)
section
variable {K : Frag} {F F' H H' : Hp}
end
def putKD (kds : KD) (k : Key) (x : D) : KD := if (kds.any fun p => decide (p.1 = k)) = true then kds.map (fun p => if p.1 = k then (p.1, x) else p) else kds ++ [(k, x)]
def mergeKD (kds more : KD) : KD := more.foldl (fun acc p => putKD acc p.1 p.2) kds
section
variable {K : Frag} {F : Hp}
end
def mNilP : M KD := fun ρ => .ok [] ρ
def mConsP (k v : M D) (r : M KD) : M KD := fun ρ => (k ρ).bind fun x ρ1 => (v ρ1).bind fun y ρ2 => match keyOf x with
 | some j => (r ρ2).bind fun l ρ3 => .ok ((j, y) :: l) ρ3
 | none => .bad
def PPx (K : Frag) (c : Ct) (F H : Hp) (σ : Sl) (Q : List (V × V) → Hp → Prop) (kds : KD) (ρ' : Env) : Prop :=
 ∀ F' H' O' kvs, EnvR K c F' H' σ ρ' O' → Same F F' → RpK K F' kvs kds → Q (kvs.map fun p => (kV p.1, p.2)) H'
structure SP (X : Cx) (c : Ct) (pos : Pos) (keys : List (Option Expr)) (values : List Expr) (m : M KD) : Prop where
 trs : ∃ trs, PPs X pos keys values trs ∧ ∀ F0 H0 O0 σ0 σ H Q, (∃ F ρ O, EnvR X.K (c.at F0 H0 O0 σ0) F H σ ρ O ∧ (m ρ).post (PPx X.K (c.at F0 H0 O0 σ0) F H σ Q) (PX X.K (c.at F0 H0 O0 σ0) σ)) → tPairs trs σ H Q
 len : ∀ ρ l ρ', m ρ = .ok l ρ' → l.length = keys.length
section
variable {X : Cx} {c : Ct} {pos : Pos} {keys : List (Option Expr)} {values : List Expr} {m : M KD} {k v : Expr} {p1 p2 : Bool} {mk mv : M D}
def mDict (m : M KD) : M D := fun ρ => (m ρ).bind fun l ρ1 => .ok (dK (mergeKD [] l)) ρ1
def mDictO (m : M KD) : M OV := fun ρ => (m ρ).bind fun l ρ1 => .ok (.dct ((mergeKD [] l).map fun p => (kD p.1, p.2))) ρ1
end
end DL
end
section
namespace DL
open PySem PySem.Spec PyProof.Rows L2
section
variable {X : Cx} {c : Ct} {e : Expr} {es : List Expr} {pos : Pos} {ka pu : Bool} {me : M D}
end
def visB (sc : Scope) (x : Str) : Bool := match sc.names.lookup x with
 | some .local => true
 | some .cell => true
 | some .free => true
 | _ => false
theorem vis_of {sc : Scope} {x : Str} (h : visB sc x = true) : Vis sc x := by
 unfold visB at h
 split at h
 ·rename_i q; exact .inl q
 ·rename_i q; exact .inr (.inl q)
 ·rename_i q; exact .inr (.inr q)
 ·cases h
def locB (sc : Scope) (x : Str) : Bool := match sc.names.lookup x with
 | some .local => true
 | some .cell => true
 | _ => false
theorem loc_of {sc : Scope} {x : Str} (h : locB sc x = true) : Loc sc x := by
 unfold locB at h
 split at h
 ·rename_i q; exact .inl q
 ·rename_i q; exact .inr q
 ·cases h
def nmB (x : Str) : Bool := !(x == ("__debug__" : Str)) && !(x == ("__classdict__" : Str))
structure NmOk (N : List Str) (sc : Scope) (us : List Nat) : Prop where
 vis : (us.all fun i => match N[i]? with
  | some x => visB sc x && nmB x
  | none => false) = true
theorem u64 {k : Nat} {A : Around} (h : Room k A) : A.units + 64 < cLine := by have := h.un; omega
theorem u65 {k : Nat} {A : Around} (h : Room k A) : A.units + 65 < cLine := by have := h.un; omega
theorem u66 {k : Nat} {A : Around} (h : Room k A) : A.units + 66 < cLine := by have := h.un; omega
theorem gl_of {X : Cx} {x : Str} (h : X.env.scope.names.lookup x = some .globalImplicit) : Gl X x := h
theorem ground {P : Program} {w : World} {K : Frag} {mg : Str → Option Value} {base : Heap} {k : Nat} {f : Addr} {fd : FuncData} {ps : List Str} {sp sp' : Sp} (G : FnOk P w K mg base (L2.CX P w) k f fd ps sp) (h : ∀ vs H Q E, sp' vs H Q E → sp vs H Q fun _ _ _ => False) : FnOk P w K mg base (fun _ _ _ _ _ _ => False) k f fd ps sp' where
 len := fun vs H Q E q => G.len vs H Q _ (h vs H Q E q)
 run := fun A outer s H args us vs Q E hr he hb hv q => codeAny_mono (G.run A outer s H args us vs Q _ hr he hb hv (h vs H Q E q)) fun r s' z => by
  cases r with
  | ok fl => cases fl <;> exact z
  | error e =>
   obtain ⟨_, _, _, _, _, _, _, _, _, _, _, _, c⟩ := z
   exact c.elim
def scrD (ns : List Int) : D := .dict [(.none, .list (ns.map .int))]
theorem rpAll_ints {K : Frag} {F : Hp} : ∀ ns : List Int, RpAll K F (ns.map V.int) (ns.map PyData.int)
 | [] => .nil
 | n :: ns => .cons (.int n) (rpAll_ints ns)
def spLaw (K : Frag) : Sp := fun vs H Q _ => ∃ (a : Addr) (ns : List Int), vs = [.ref a] ∧ ns.length ≤ 63 ∧ SqL K H a (ns.map V.int) ∧ ∀ H', Q (.bl true) H'
theorem law_in {K : Frag} {ca : Str → Addr} {f : Fn} (hf : ∀ ns : List Int, ns.length ≤ 63 → ∃ outs, f [.d (scrD ns)] = .ok (.d (.bool true)) outs) (vs : List V) (H : Hp) (Q : VK) (E : XK) (h : spLaw K vs H Q E) : spF K ca f vs H Q fun _ _ _ => False := by
 obtain ⟨a, ns, rfl, hl, hS, q⟩ := h
 refine ⟨H, [.d (scrD ns)], [], Same.refl _, .so (A := []) (.d (.scr hS (rpAll_ints ns))) .nil, .nil, fun p hp => by simp at hp, ?_⟩
 obtain ⟨outs, e⟩ := hf ns hl
 rw [e]
 intro F' H' v A B _ _ r _ _
 cases r with
 | d r => cases r; exact q H'
end DL
end
section
namespace DL
open PySem PySem.Spec PyProof.Rows L2
section
variable {α β : Type} {ρ : Env} {ξ : Exc}
@[simp] theorem bind_ok (a : α) (ρ : Env) (k : α → Env → Res β) : (Res.ok a ρ).bind k = k a ρ := rfl
@[simp] theorem bind_ex (ξ : Exc) (ρ : Env) (k : α → Env → Res β) : (Res.ex ξ ρ : Res α).bind k = .ex ξ ρ := rfl
@[simp] theorem bind_bad (k : α → Env → Res β) : (Res.bad : Res α).bind k = .bad := rfl
@[simp] theorem bindN_ok (a : α) (ρ : Env) (k : α → Env → Res β) : (Res.ok a ρ).bindN k = k a ρ := rfl
@[simp] theorem ofO_some (a : α) (ρ : Env) : ofO (some a) ρ = .ok a ρ := rfl
@[simp] theorem ofO_none (ρ : Env) : (ofO none ρ : Res α) = .bad := rfl
@[simp] theorem mVar_d (i : Nat) (ρ : Env) : mVar i ρ = match ρ[i]? with
 | some (some (.d x)) => .ok x ρ
 | _ => .bad := rfl
@[simp] theorem mC_d (x : D) (ρ : Env) : mC x ρ = .ok x ρ := rfl
@[simp] theorem mLook_d (i : Nat) (ρ : Env) : mLook i ρ = match ρ[i]? with
 | some (some o) => ofO o.look ρ
 | _ => .bad := rfl
@[simp] theorem look_d (x : D) : (OV.d x).look = some x := rfl
@[simp] theorem look_l (x : List D) : (OV.lst x).look = some (.list x) := rfl
@[simp] theorem frz_d (x : D) : (OV.d x).frz = some x := rfl
@[simp] theorem frz_l (x : List D) : (OV.lst x).frz = some (.list x) := rfl
@[simp] theorem mBin_d (g : D → D → Option D) (a b : M D) (ρ : Env) : mBin g a b ρ = (a ρ).bind fun x ρ1 => (b ρ1).bind fun y ρ2 => ofO (g x y) ρ2 := rfl
@[simp] theorem mB_d (m : M D) (ρ : Env) : mB m ρ = (m ρ).bind fun x ρ1 => match x with
 | .bool b => .ok b ρ1
 | _ => .bad := rfl
@[simp] theorem mChain_d (g g' : D → D → Option D) (a b d : M D) (ρ : Env) : mChain g g' a b d ρ = (a ρ).bind fun x ρ1 => (b ρ1).bind fun y ρ2 => match g x y with
 | some (.bool true) => (d ρ2).bind fun z ρ3 => ofO (g' y z) ρ3
 | some (.bool false) => .ok (.bool false) ρ2
 | _ => .bad := rfl
@[simp] theorem mAnd_d (a b : M Bool) (ρ : Env) : mAnd a b ρ = (a ρ).bind fun x ρ1 => if x = true then b ρ1 else .ok false ρ1 := rfl
@[simp] theorem mOr_d (a b : M Bool) (ρ : Env) : mOr a b ρ = (a ρ).bind fun x ρ1 => if x = true then .ok true ρ1 else b ρ1 := rfl
@[simp] theorem mNot_d (a : M Bool) (ρ : Env) : mNot a ρ = (a ρ).bind fun x ρ1 => .ok (!x) ρ1 := rfl
@[simp] theorem mAndV_d (a b : M D) (ρ : Env) : mAndV a b ρ = (a ρ).bind fun x ρ1 => match x with
 | .bool true => b ρ1
 | .bool false => .ok (.bool false) ρ1
 | _ => .bad := rfl
@[simp] theorem mOrV_d (a b : M D) (ρ : Env) : mOrV a b ρ = (a ρ).bind fun x ρ1 => match x with
 | .bool true => .ok (.bool true) ρ1
 | .bool false => b ρ1
 | _ => .bad := rfl
@[simp] theorem mNotV_d (a : M D) (ρ : Env) : mNotV a ρ = (a ρ).bind fun x ρ1 => match x with
 | .bool b => .ok (.bool (!b)) ρ1
 | _ => .bad := rfl
@[simp] theorem mIf_d (t : M Bool) (a b : M α) (ρ : Env) : mIf t a b ρ = (t ρ).bind fun x ρ1 => if x = true then a ρ1 else b ρ1 := rfl
@[simp] theorem mNil_d (ρ : Env) : mNil ρ = .ok [] ρ := rfl
@[simp] theorem mCons_d (a : M D) (r : M (List D)) (ρ : Env) : mCons a r ρ = (a ρ).bind fun x ρ1 => (r ρ1).bind fun xs ρ2 => .ok (x :: xs) ρ2 := rfl
@[simp] theorem mTup_d (m : M (List D)) (ρ : Env) : mTup m ρ = (m ρ).bind fun xs ρ1 => .ok (.tuple xs) ρ1 := rfl
@[simp] theorem mLst_d (m : M (List D)) (ρ : Env) : mLst m ρ = (m ρ).bind fun xs ρ1 => .ok (.lst xs) ρ1 := rfl
@[simp] theorem mLstF_d (m : M (List D)) (ρ : Env) : mLstF m ρ = (m ρ).bind fun xs ρ1 => .ok (.list xs) ρ1 := rfl
@[simp] theorem mFrz_d (m : M OV) (ρ : Env) : mFrz m ρ = (m ρ).bind fun o ρ1 => ofO o.frz ρ1 := rfl
@[simp] theorem mFrzV_d (i : Nat) (ρ : Env) : mFrzV i ρ = match ρ[i]? with
 | some (some o) => match o.frz with
  | some x => .ok x (ρ.set i (some (.d x)))
  | none => .bad
 | _ => .bad := rfl
@[simp] theorem mMove_d (i : Nat) (ρ : Env) : mMove i ρ = match ρ[i]? with
 | some (some o) => .ok o (ρ.set i none)
 | _ => .bad := rfl
@[simp] theorem mD_d (m : M D) (ρ : Env) : mD m ρ = (m ρ).bind fun x ρ1 => .ok (.d x) ρ1 := rfl
@[simp] theorem gNil_d (ρ : Env) : gNil ρ = .ok [] ρ := rfl
@[simp] theorem gD_d (a : M D) (r : M (List AV)) (ρ : Env) : gD a r ρ = (a ρ).bind fun x ρ1 => (r ρ1).bind fun xs ρ2 => .ok (.d x :: xs) ρ2 := rfl
@[simp] theorem gO_d (i : Nat) (r : M (List AV)) (ρ : Env) : gO i r ρ = match ρ[i]? with
 | some (some _) => (r ρ).bind fun xs ρ2 => .ok (.o i :: xs) ρ2
 | _ => .bad := rfl
@[simp] theorem mCall_d (f : Fn) (m : M (List AV)) (ρ : Env) : mCall f m ρ = (m ρ).bind fun avs ρ1 => callEnd f avs (gather ρ1 avs) := rfl
@[simp] theorem gather_nil (ρ : Env) : gather ρ [] = some ([], ρ) := rfl
@[simp] theorem gather_d (ρ : Env) (x : D) (r : List AV) : gather ρ (.d x :: r) = (gather ρ r).map fun z => (.d x :: z.1, z.2) := rfl
@[simp] theorem gather_o (ρ : Env) (i : Nat) (r : List AV) : gather ρ (.o i :: r) = match ρ[i]? with
 | some (some o) => (gather (ρ.set i none) r).map fun z => (o :: z.1, z.2)
 | _ => none := rfl
@[simp] theorem callEnd_some (f : Fn) (avs : List AV) (os : List OV) (ρ : Env) : callEnd f avs (some (os, ρ)) = callRf avs ρ (f os) := rfl
@[simp] theorem callRf_ok (avs : List AV) (ρ : Env) (r : OV) (outs : Env) : callRf avs ρ (.ok r outs) = .ok r (putBack ρ avs outs) := rfl
@[simp] theorem callRf_ex (avs : List AV) (ρ : Env) (ξ : Exc) : callRf avs ρ (.ex ξ) = .ex ξ ρ := rfl
@[simp] theorem putBack_nil (ρ outs : Env) : putBack ρ [] outs = ρ := by cases outs <;> rfl
@[simp] theorem putBack_d (ρ : Env) (x : D) (r : List AV) (o : Option OV) (s : Env) : putBack ρ (.d x :: r) (o :: s) = putBack ρ r s := rfl
@[simp] theorem putBack_o (ρ : Env) (i : Nat) (r : List AV) (o : Option OV) (s : Env) : putBack ρ (.o i :: r) (o :: s) = putBack (ρ.set i o) r s := rfl
@[simp] theorem sSeq_d (a b : M Fl) (ρ : Env) : sSeq a b ρ = (a ρ).bind fun f ρ1 => match f with
 | .nx => b ρ1
 | f => .ok f ρ1 := rfl
@[simp] theorem sNil_d (ρ : Env) : sNil ρ = .ok .nx ρ := rfl
@[simp] theorem sSet_d (i : Nat) (m : M D) (ρ : Env) : sSet i m ρ = (m ρ).bind fun x ρ1 => .ok .nx (ρ1.set i (some (.d x))) := rfl
@[simp] theorem sSetO_d (i : Nat) (m : M OV) (ρ : Env) : sSetO i m ρ = (m ρ).bind fun o ρ1 => .ok .nx (ρ1.set i (some o)) := rfl
@[simp] theorem sRet_d (m : M OV) (ρ : Env) : sRet m ρ = (m ρ).bind fun o ρ1 => .ok (.rt o) ρ1 := rfl
@[simp] theorem sDrop_d (m : M OV) (ρ : Env) : sDrop m ρ = (m ρ).bind fun _ ρ1 => .ok .nx ρ1 := rfl
@[simp] theorem mF1_d (g : D → Option D) (m : M D) (ρ : Env) : mF1 g m ρ = (m ρ).bind fun x ρ1 => ofO (g x) ρ1 := rfl
@[simp] theorem mFN_d (g : D → Option (List D)) (m : M D) (ρ : Env) : mFN g m ρ = (m ρ).bind fun x ρ1 => ofO (g x) ρ1 := rfl
@[simp] theorem bNo_d (ρ : Env) : bNo ρ = .ok none ρ := rfl
@[simp] theorem bTo_d (m : M D) (ρ : Env) : bTo m ρ = (m ρ).bind fun x ρ1 => match x with
 | .int i => .ok (some i) ρ1
 | _ => .bad := rfl
@[simp] theorem mSl_d (a : M D) (l u : M (Option Int)) (ρ : Env) : mSl a l u ρ = (a ρ).bind fun x ρ1 => (l ρ1).bind fun i ρ2 => (u ρ2).bind fun j ρ3 => ofO (slD x i j) ρ3 := rfl
@[simp] theorem mItems_d (m : M D) (ρ : Env) : mItems m ρ = (m ρ).bind fun x ρ1 => ofO (itemsD x) ρ1 := rfl
@[simp] theorem mRange1_d (a : M D) (ρ : Env) : mRange1 a ρ = (a ρ).bind fun x ρ1 => ofO (range1 x) ρ1 := rfl
@[simp] theorem mRange2_d (a b : M D) (ρ : Env) : mRange2 a b ρ = (a ρ).bind fun x ρ1 => (b ρ1).bind fun y ρ2 => ofO (range2 x y) ρ2 := rfl
@[simp] theorem mZip_d (a b : M D) (ρ : Env) : mZip a b ρ = (a ρ).bind fun x ρ1 => (b ρ1).bind fun y ρ2 => ofO (zipD x y) ρ2 := rfl
@[simp] theorem mEnum_d (a : M D) (ρ : Env) : mEnum a ρ = (a ρ).bind fun x ρ1 => ofO (enumO x) ρ1 := rfl
@[simp] theorem tName_d (i : Nat) (x : D) (ρ : Env) : tName i x ρ = some (ρ.set i (some (.d x))) := rfl
@[simp] theorem tsNil_d (ρ : Env) : tsNil [] ρ = some ρ := rfl
@[simp] theorem tsCons_d (t : D → Env → Option Env) (u : List D → Env → Option Env) (x : D) (r : List D) (ρ : Env) : tsCons t u (x :: r) ρ = (t x ρ).bind fun ρ1 => u r ρ1 := rfl
@[simp] theorem tTup_d (n : Nat) (u : List D → Env → Option Env) (xs : List D) (ρ : Env) : tTup n u (.tuple xs) ρ = if xs.length = n then u xs ρ else none := rfl
@[simp] theorem forGo_nil (tg : D → Env → Option Env) (b : M Fl) (ρ : Env) : forGo tg b [] ρ = .ok .nx ρ := rfl
theorem forGo_cons (tg : D → Env → Option Env) (b : M Fl) (x : D) (xs : List D) (ρ : Env) : forGo tg b (x :: xs) ρ = match tg x ρ with
  | none => .bad
  | some ρ1 => (b ρ1).bind fun f ρ2 => match f with
   | .nx => forGo tg b xs ρ2
   | .ct => forGo tg b xs ρ2
   | .bk => .ok .nx ρ2
   | .rt o => .ok (.rt o) ρ2 := rfl
@[simp] theorem sFor_d (it : M (List D)) (tg : D → Env → Option Env) (b : M Fl) (ρ : Env) : sFor it tg b ρ = (it ρ).bind fun xs ρ1 => forGo tg b xs ρ1 := rfl
@[simp] theorem mLc_d (vs : List Nat) (it : M (List D)) (t : D → Env → Option Env) (tst : M Bool) (e : M D) (ρ : Env) : mLc vs it t tst e ρ = (it ρ).bind fun xs ρ1 => if dataAt ρ1 vs = true then (lcGo vs t tst e xs (wipeE ρ1 vs)).bindN fun ys ρ2 => .ok ys (backE ρ1 vs ρ2) else .bad := rfl
@[simp] theorem mYes_d (ρ : Env) : mYes ρ = .ok true ρ := rfl
@[simp] theorem mLM_d (i : Nat) (g : List D → List D → Option (List D × D)) (ms : M (List D)) (ρ : Env) : mLM i g ms ρ = match ρ[i]? with
 | some (some (.lst _)) => (ms ρ).bind fun as ρ1 => match ρ1[i]? with
  | some (some (.lst xs)) => match g xs as with
   | some z => .ok z.2 (ρ1.set i (some (.lst z.1)))
   | none => .bad
  | _ => .bad
 | _ => .bad := rfl
@[simp] theorem mExtend_d (i : Nat) (m : M D) (ρ : Env) : mExtend i m ρ = match ρ[i]? with
 | some (some (.lst _)) => (m ρ).bind fun a ρ1 => match ρ1[i]? with
  | some (some (.lst xs)) => match extendD xs a with
   | some z => .ok .none (ρ1.set i (some (.lst z)))
   | none => .bad
  | _ => .bad
 | _ => .bad := rfl
@[simp] theorem sPut_d (i : Nat) (mi mv : M D) (ρ : Env) : sPut i mi mv ρ = (mv ρ).bind fun v ρ1 => match ρ1[i]? with
 | some (some (.lst _)) => (mi ρ1).bind fun k ρ2 => match ρ2[i]?, k with
  | some (some (.lst xs)), .int j => match ixN xs.length j with
   | some n => .ok .nx (ρ2.set i (some (.lst (xs.set n v))))
   | none => .bad
  | _, _ => .bad
 | _ => .bad := rfl
@[simp] theorem sPar_d (i j : Nat) (m : M (List D)) (ρ : Env) : sPar i j m ρ = (m ρ).bind fun xs ρ1 => match xs with
 | [x, y] => .ok .nx ((ρ1.set i (some (.d x))).set j (some (.d y)))
 | _ => .bad := rfl
@[simp] theorem sRaise_d (x : Str) (ρ : Env) : sRaise x ρ = .ex ⟨.own x, []⟩ ρ := rfl
@[simp] theorem mSetOf_d (m : M D) (ρ : Env) : mSetOf m ρ = (m ρ).bind fun x ρ1 => ofO (textsD x) ρ1 := rfl
@[simp] theorem mSortK_d (m : M (List Str)) (ρ : Env) : mSortK m ρ = (m ρ).bind fun l ρ1 => .ok ((sortS (onceS l)).map .str) ρ1 := rfl
@[simp] theorem mLenK_d (m : M (List Str)) (ρ : Env) : mLenK m ρ = (m ρ).bind fun l ρ1 => .ok (.int ((onceS l).length : Nat)) ρ1 := rfl
@[simp] theorem wipeE_nil (ρ : Env) : wipeE ρ [] = ρ := rfl
@[simp] theorem wipeE_cons (ρ : Env) (v : Nat) (vs : List Nat) : wipeE ρ (v :: vs) = (wipeE ρ vs).set v none := rfl
end
@[simp] theorem add_i (i j : Int) : addD (.int i) (.int j) = some (.int (i + j)) := rfl
@[simp] theorem sub_i (i j : Int) : subD (.int i) (.int j) = some (.int (i - j)) := rfl
theorem mul_i {i j : Int} (h : CMulW i j) : mulD (.int i) (.int j) = some (.int (i * j)) := if_pos h
theorem div_i {i j : Int} (h : CDivW i j) : divD (.int i) (.int j) = some (.int (i / j)) := if_pos h
theorem mod_i {i j : Int} (h : 0 < j) : modD (.int i) (.int j) = some (.int (i % j)) := if_pos h
theorem CDivW.of {i j : Int} (h : 0 < j) (h2 : j < 2 ^ 900) : CDivW i j := ⟨h, by
 have : j.natAbs < 2 ^ 900 := by omega
 have h0 : j.natAbs ≠ 0 := by omega
 have := (Nat.log2_lt h0).mpr this
 omega⟩
theorem log_lt {n k : Nat} (h : n < 2 ^ k) (hk : 0 < k) : n.log2 < k := by
 by_cases h0 : n = 0
 ·subst h0; simpa using hk
 ·exact (Nat.log2_lt h0).mpr h
theorem CMulW.of {i j : Int} (h : i.natAbs < 2 ^ 400) (h2 : j.natAbs < 2 ^ 400) : CMulW i j := by
 have a := log_lt h (by decide)
 have b := log_lt h2 (by decide)
 show i.natAbs.log2 + j.natAbs.log2 < 1000000
 omega
theorem eq_i (i j : Int) : eqD (.int i) (.int j) = some (.bool (decide (i = j))) := by
 have h : eqD (.int i) (.int j) = if SeqAt.shaped (.int i) = true ∧ SeqAt.shaped (.int j) = true then some (.bool (PyData.eqv (.int i) (.int j))) else none := rfl
 rw [h, if_pos ⟨rfl, rfl⟩]
 have e : (i == j) = decide (i = j) := by by_cases z : i = j <;> simp [z]
 simp [PyData.eqv, e]
theorem div_p {i j : Int} (h : 0 < j) (h2 : j < 2 ^ 64) : divD (.int i) (.int j) = some (.int (i / j)) := div_i (CDivW.of h (by
 have : (2 : Int) ^ 64 < 2 ^ 900 := by decide
 omega))
theorem mul_p {i j : Int} (h : -(2 ^ 64) < i ∧ i < 2 ^ 64) (h2 : -(2 ^ 64) < j ∧ j < 2 ^ 64) : mulD (.int i) (.int j) = some (.int (i * j)) := mul_i (CMulW.of (by
 have : (2 : Nat) ^ 64 < 2 ^ 400 := by decide
 omega) (by
 have : (2 : Nat) ^ 64 < 2 ^ 400 := by decide
 omega))
theorem mul_b {i j : Int} (h : i.natAbs < 2 ^ 900) (h2 : j.natAbs < 2 ^ 900) : mulD (.int i) (.int j) = some (.int (i * j)) := mul_i (by
 have a := log_lt h (by decide)
 have b := log_lt h2 (by decide)
 show i.natAbs.log2 + j.natAbs.log2 < 1000000
 omega)
theorem forGo_inv {t : D → Env → Option Env} {b : M Fl} : ∀ {xs : List D} {ρ : Env} (Pv : Nat → Env → Prop), Pv 0 ρ → (∀ i x ρ, xs[i]? = some x → Pv i ρ → ∃ ρ1 ρ2, t x ρ = some ρ1 ∧ b ρ1 = .ok .nx ρ2 ∧ Pv (i + 1) ρ2) → ∃ ρ', forGo t b xs ρ = .ok .nx ρ' ∧ Pv xs.length ρ'
 | [], ρ, Pv, h0, _ => ⟨ρ, rfl, h0⟩
 | x :: xs, ρ, Pv, h0, hs => by
  obtain ⟨ρ1, ρ2, h1, h2, h3⟩ := hs 0 x ρ rfl h0
  obtain ⟨ρ', h4, h5⟩ := forGo_inv (xs := xs) (ρ := ρ2) (fun i => Pv (i + 1)) h3 fun i y ρ hy hp => hs (i + 1) y ρ (by simpa using hy) hp
  refine ⟨ρ', ?_, h5⟩
  rw [forGo_cons, h1]
  simp only [h2, bind_ok]
  exact h4
theorem lcGo_pure {vs : List Nat} {t : D → Env → Option Env} {tst : M Bool} {e : M D} {p : D → Bool} {g : D → D} {ρ : Env} : ∀ {xs : List D}, (∀ x ∈ xs, ∃ ρ1 ρ2, t x ρ = some ρ1 ∧ tst ρ1 = .ok (p x) ρ2 ∧ (p x = false → wipeE ρ2 vs = ρ) ∧ (p x = true → ∃ ρ3, e ρ2 = .ok (g x) ρ3 ∧ wipeE ρ3 vs = ρ)) → lcGo vs t tst e xs ρ = .ok ((xs.filter p).map g) ρ
 | [], _ => rfl
 | x :: xs, h => by
  obtain ⟨ρ1, ρ2, h1, h2, h3, h4⟩ := h x List.mem_cons_self
  have ih := lcGo_pure (xs := xs) fun y hy => h y (List.mem_cons_of_mem _ hy)
  have hd : lcGo vs t tst e (x :: xs) ρ = match t x ρ with
   | none => .bad
   | some ρ1 => (tst ρ1).bindN fun b ρ2 => if b = true then (e ρ2).bindN fun y ρ3 => (lcGo vs t tst e xs (wipeE ρ3 vs)).bindN fun ys ρ4 => .ok (y :: ys) ρ4 else lcGo vs t tst e xs (wipeE ρ2 vs) := rfl
  rw [hd, h1]
  simp only [h2, bindN_ok]
  cases hp : p x with
  | false =>
   rw [if_neg Bool.false_ne_true, h3 hp, ih, List.filter_cons_of_neg (by simp [hp])]
  | true =>
   obtain ⟨ρ3, h5, h6⟩ := h4 hp
   rw [if_pos rfl, h5, List.filter_cons_of_pos hp]
   simp only [bindN_ok, h6, ih, List.map_cons]
theorem atI_nat {α : Type} {xs : List α} {i : Int} (h0 : 0 ≤ i) (h1 : i < xs.length) : ∃ x, atI xs i = some x ∧ xs[i.toNat]? = some x := by
 have hl : i.toNat < xs.length := by omega
 refine ⟨xs[i.toNat], ?_, by simp [hl]⟩
 unfold atI ixN
 rw [if_pos h0, if_pos h1]
 simp [hl]
end DL
end
section
namespace DL
open PySem PySem.Spec PyProof.Rows L2 PySem.W
abbrev cTests (ifs : List Expr) (env : PySem.Env) : Sem Bool := forIn ifs true fun c r => if r = true then (isTrue c env (eval c env) >>= fun k => pure (ForInStep.yield k)) else pure (ForInStep.yield r)
def TurnIs (e : Expr) (k : Nat) (tg iter : Expr) (ifs : List Expr) (env : PySem.Env) (acc : Value) (body : Sem Unit) : Prop :=
 ∀ it, compTurn e k it acc env = (standAt iter.pos >>= fun _ => pyNext it >>= fun r => match r with
  | none => pure (.done .next)
  | some v => letOwnedTupleGo tg it v >>= fun _ => assign tg env v >>= fun _ => cTests ifs env >>= fun ok => if ok = true then (body >>= fun _ => again (.compLoop e k it acc env)) else again (.compLoop e k it acc env))
structure PlainC (e : Expr) : Prop where
 d1 : ∀ (P : Program) (w : World) k it acc env, (model P w).den (.compLoop e k it acc env) = (compTurn e k it acc env).onRaise (fun x => noteFrame x env >>= fun _ => theTreesLotGoes x)
 d2 : ∀ (P : Program) (w : World) k it acc env, (model P w).den (.compStart e k it acc env) = (compStart e k it acc env).onRaise (fun x => noteFrame x env >>= fun _ => standAt theWindowsPlace)
 u1 : ∀ (A : Around) k it acc env, A.under (.compLoop e k it acc env) = A
 u2 : ∀ (A : Around) k it acc env, A.under (.compStart e k it acc env) = A
 q1 : ∀ k it acc env, (Code.compLoop e k it acc env).quiet = true
theorem plainC_set {elt : Expr} {gs : List Comprehension} {scope : Scope} {pos : Pos} : PlainC (.SetComp elt gs scope pos) := ⟨fun _ _ _ _ _ _ => rfl, fun _ _ _ _ _ _ => rfl, fun _ _ _ _ _ => rfl, fun _ _ _ _ _ => rfl, fun _ _ _ _ => rfl⟩
section
variable {prog : Program} {w : World} {A : Around} {R : Result → Shared → Prop} {s : Shared} {e tg iter : Expr} {k : Nat} {ifs : List Expr} {it acc : Value} {env : PySem.Env} {body : Sem Unit}
theorem loop_any (hp : PlainC e) (hT : TurnIs e k tg iter ifs env acc body) (I : Nat → Shared → Prop)
  (turn : ∀ n s, I n s → wpAny (model prog w) A (pyNext it) (fun r s1 => match r with
   | none => R (.ok .next) s1
   | some v => wpAny (model prog w) A (letOwnedTupleGo tg it v) (fun _ s2 => wpAny (model prog w) A (assign tg env v) (fun _ s3 =>
     wpAny (model prog w) A (cTests ifs env) (fun ok s4 =>
      if ok = true then wpAny (model prog w) A body (fun _ s5 => ∃ m, m < n ∧ I m s5) (notedBy (model prog w) A env fun x s' => R (.error x) s') s4
      else ∃ m, m < n ∧ I m s4) (notedBy (model prog w) A env fun x s' => R (.error x) s') s3) (notedBy (model prog w) A env fun x s' => R (.error x) s') s2) (notedBy (model prog w) A env fun x s' => R (.error x) s') s1) (notedBy (model prog w) A env fun x s' => R (.error x) s') s)
  (n : Nat) (h : I n s) : codeAny (model prog w) A (.compLoop e k it acc env) R s := by
 refine codeAny_loop (hp.q1 _ _ _ _) I (fun n s hI => ?_) n h
 rw [hp.u1, hp.d1]
 refine wpAny_noted ?_
 rw [hT it]
 refine wpAny_bind (wpAny_standAt (wpAny_bind (wpAny_mono (turn n s hI) (fun r s1 h1 => ?_) fun _ _ h' => h')))
 cases r with
 | none => exact wpAny_pure h1
 | some v =>
  refine wpAny_bind (wpAny_mono h1 (fun _ s2 h2 => ?_) fun _ _ h' => h')
  refine wpAny_bind (wpAny_mono h2 (fun _ s3 h3 => wpAny_bind (wpAny_mono h3 (fun ok s4 h4 => ?_) fun _ _ h' => h')) fun _ _ h' => h')
  cases ok with
  | false => exact wpAny_pure ⟨rfl, h4⟩
  | true =>
   rw [if_pos rfl] at h4 ⊢
   exact wpAny_bind (wpAny_mono h4 (fun _ s5 h5 => wpAny_pure ⟨rfl, h5⟩) fun _ _ h' => h')
theorem start_any {g : Comprehension} (hp : PlainC e) (hg : (clausesOf e)[k]? = some g) (ha : g.is_async = 0) (h0 : codeAny (model prog w) A (.compLoop e k it acc env) R s)
  (h : wpAny (model prog w) A (pyIter it) (fun it' s' => codeAny (model prog w) A (.compLoop e k it' acc env) R s') (notedBy (model prog w) A env fun x s' => R (.error x) s') s) :
  codeAny (model prog w) A (.compStart e k it acc env) R s := by
 refine codeAny_of_tree ?_
 rw [hp.u2, hp.d2]
 refine wpAny_notedAt ?_
 unfold compStart
 rw [hg]
 simp only [Option.elim, ha]
 show wpAny _ _ (ask >>= _) _ _ s
 refine wpAny_bind (wpAny_askSetting (wpAny_ite ?_))
 split
 ·first
   | exact wpAny_bind (wpAny_pure (wpAny_pure (And.intro (hp.q1 _ _ _ _) h0)))
   | exact wpAny_pure (And.intro (hp.q1 _ _ _ _) h0)
 ·first
   | exact wpAny_bind (wpAny_rule (wpAny_bind (wpAny_standAt (wpAny_bind (wpAny_mono h (fun it' s' h' => wpAny_pure (And.intro (hp.q1 _ _ _ _) h')) fun _ _ x => x)))))
   | (refine wpAny_bind (wpAny_rule ?_); show wpAny _ _ (standAt g.iter.pos >>= _) _ _ s; exact wpAny_bind (wpAny_standAt (wpAny_bind (wpAny_mono h (fun it' s' h' => wpAny_pure (And.intro (hp.q1 _ _ _ _) h')) fun _ _ x => x))))
end
structure Cl where
 wi : TI
 g : TG
 tt : TT
 vs : List Nat
abbrev Below := Sl → Hp → (Hp → Prop) → Prop
def ClW (c : Cl) (below : Below) (σ : Sl) (J : It) (H1 : Hp) (Nx : Hp → Prop) : Prop :=
 ∃ W : Nat → Nat → Hp → Prop, (∃ m, W 0 m H1) ∧ ∀ i m H, W i m H → (J.stop i H ∧ Nx H) ∨ (J.go i H ∧ ∃ Nx' : Hp → Prop, (∀ H', Nx' H' → ∃ m', m' < m ∧ W (i + 1) m' H') ∧
  ∀ x H', J.yld i H x H' → c.g x (L2.wipe σ c.vs) H' fun σ2 H2 => L2.wipe σ2 c.vs = L2.wipe σ c.vs ∧ c.tt σ2 H2 fun b H3 => if b = true then below σ2 H3 Nx' else Nx' H3)
def ClIn (c : Cl) (below : Below) : Below := fun σ H Nx => c.wi σ H fun J H1 => ClW c below σ J H1 Nx
section
variable {X : Cx} {s0 : Shared} {H0 : Hp} {scope : Scope} {ce : PySem.Env} {ex : List Addr}
def BodyOk (X : Cx) (vs : List Nat) (body : Sem Unit) (below : Below) : Prop :=
 ∀ pins s σ H Nx, L2.Inv X pins σ H s → below σ H Nx → wpAny (model X.prog X.w) X.A body (fun _ s' => ∃ H', L2.Inv X pins (L2.wipe σ vs) H' s' ∧ Nx H') (fun _ _ => False) s
theorem loop_ok {pins : List (Addr × Obj)} {s : Shared} {σ : Sl} {H : Hp} {e tg iter : Expr} {k : Nat} {ifs : List Expr} {acc : Value} {body : Sem Unit} {c : Cl} {below : Below} {vs' : List Nat} {it : Addr} {fp : List Addr} {tn : Nat → Heap → Prop} {J : It} {Nx : Hp → Prop}
  (hp : PlainC e) (hc : X.calm = true) (hT : TurnIs e k tg iter ifs ce acc body) (pg : PG (X.blk s0 H0 scope ce ex) tg c.g) (pt : PTs (X.blk s0 H0 scope ce ex) ifs c.tt) (pb : BodyOk (X.blk s0 H0 scope ce ex) vs' body below) (hv : ∀ i ∈ vs', i ∈ c.vs)
  (I : L2.Inv (X.blk s0 H0 scope ce ex) pins (L2.wipe σ c.vs) H s) (T : Turn X.prog X.w X.K tg J fp it tn) (st : tn 0 s.heap) (f : ∀ b ∈ fp, FpOk (X.blk s0 H0 scope ce ex) pins H b) (q : ClW c below σ J H Nx) :
  codeAny (model X.prog X.w) X.A (.compLoop e k (.ref it) acc ce) (fun r s' => match r with
   | .ok fl => fl = .next ∧ ∃ H', L2.Inv (X.blk s0 H0 scope ce ex) pins (L2.wipe σ c.vs) H' s' ∧ Nx H'
   | .error _ => False) s := by
 obtain ⟨W, ⟨m0, w0⟩, turn⟩ := q
 have stat : ∀ {H' : Hp}, (∀ b ∈ fp, H' b = none) → ∀ b ∈ fp, FpOk (X.blk s0 H0 scope ce ex) pins H' b := fun hn b hb => ⟨hn b hb, (f b hb).2⟩
 refine loop_any hp hT (fun n s' => ∃ j H', L2.Inv (X.blk s0 H0 scope ce ex) pins (L2.wipe σ c.vs) H' s' ∧ tn j s'.heap ∧ (∀ b ∈ fp, H' b = none) ∧ W j n H') ?_ m0 ⟨0, H, I, st, fun b hb => (f b hb).1, w0⟩
 rintro n s5 ⟨i, H5, I5, st5, n5, w5⟩
 rcases turn i n H5 w5 with ⟨stop, qq⟩ | ⟨go, Nx', hNx, step⟩
 ·refine thnF (T.done (X.blk s0 H0 scope ce ex) rfl rfl rfl hc i _ s5 _ H5 (fun _ _ => False) I5 (stat n5) st5 stop) fun r s6 ⟨hr, I6⟩ => ?_
  subst hr
  exact ⟨rfl, H5, I6, qq⟩
 ·refine thnF (T.item (X.blk s0 H0 scope ce ex) rfl rfl rfl hc i _ s5 _ H5 (fun _ _ => False) I5 (stat n5) st5 go) fun r s6 ⟨u, hr, h6⟩ => ?_
  subst hr
  refine thnF h6 fun _ s7 ⟨x, H7, I7, r7, y7, st7, n7⟩ => ?_
  have I7' := I7.pinned (stat n7) (T.obj _ _ st7)
  refine thnF (pg.run _ s7 _ H7 x u _ I7' r7 (step x H7 y7)) fun _ s8 ⟨σ8, H8, I8, hw8, q8⟩ => ?_
  refine thnF (pt.run _ s8 σ8 H8 _ I8 q8) fun b s9 ⟨H9, I9, q9⟩ => ?_
  have fin : ∀ {σ' : Sl} {s' : Shared} {H' : Hp}, L2.Inv (X.blk s0 H0 scope ce ex) (pins ++ pinsAt fp s7.heap) σ' H' s' → (L2.wipe σ c.vs).length = σ'.length → (∀ (j : Nat) v, (L2.wipe σ c.vs)[j]? = some (some v) → σ'[j]? = some (some v)) → Nx' H' →
    ∃ m, m < n ∧ ∃ i H', L2.Inv (X.blk s0 H0 scope ce ex) pins (L2.wipe σ c.vs) H' s' ∧ tn i s'.heap ∧ (∀ b ∈ fp, H' b = none) ∧ W i m H' := fun {σ' s' H'} I' hl hk nx => by
   obtain ⟨m', hm, w'⟩ := hNx H' nx
   have pin' : ∀ b ∈ fp, ∀ o, s7.heap.get? b = some o → s'.heap.get? b = some o ∧ H' b = none := fun b hb o z =>
    let y := I'.pin (b, o) (List.mem_append_right _ (List.mem_append_right _ (mem_pinsAt hb z)))
    ⟨y.1, y.2.1⟩
   refine ⟨m', hm, i + 1, H', I'.unpinned.weak hl hk, T.keep _ _ _ st7 fun b hb o z => (pin' b hb o z).1, fun b hb => ?_, w'⟩
   obtain ⟨o, z, _⟩ := T.obj _ _ st7 b hb
   exact (pin' b hb o z).2
  have hl8 : (L2.wipe σ c.vs).length = σ8.length := by rw [← hw8, wipe_length]
  have hk8 : ∀ (j : Nat) v, (L2.wipe σ c.vs)[j]? = some (some v) → σ8[j]? = some (some v) := fun j v z => by
   rw [← hw8] at z
   exact (wipe_some z).1
  have hk9 : ∀ (j : Nat) v, (L2.wipe σ c.vs)[j]? = some (some v) → (L2.wipe σ8 vs')[j]? = some (some v) := fun j v z => by
   rw [← hw8] at z
   obtain ⟨e1, e2⟩ := wipe_some z
   rw [wipe_out fun y => e2 (hv j y)]
   exact e1
  cases b with
  | false =>
   simp only [Bool.false_eq_true, if_false] at q9 ⊢
   exact fin I9 hl8 hk8 q9
  | true =>
   simp only [if_true] at q9 ⊢
   exact thnF (pb _ s9 σ8 H9 Nx' I9 q9) fun _ s10 ⟨H10, I10, nx⟩ => fin I10 (hl8.trans (wipe_length σ8 vs').symm) hk9 nx
abbrev inBody (e : Expr) (k : Nat) (iter : Expr) (acc : Value) (env : PySem.Env) : Sem Unit :=
 eval iter env >>= fun x => standAt iter.pos >>= fun _ => foldedSetIterable iter env x >>= fun x => holding [x] (pyIter x) >>= fun i => runOwn (.compStart e k i acc env) env >>= fun _ => pure ()
theorem body_in {e tg iter : Expr} {k : Nat} {ifs : List Expr} {acc : Value} {body : Sem Unit} {c : Cl} {below : Below} {vs' : List Nat} {g : Comprehension}
  (hp : PlainC e) (hc : X.calm = true) (hg : (clausesOf e)[k]? = some g) (ha : g.is_async = 0) (hs : ∀ env x, foldedSetIterable iter env x = pure x) (hT : TurnIs e k tg iter ifs ce acc body) (pi : PI (X.blk s0 H0 scope ce ex) tg iter c.wi) (pg : PG (X.blk s0 H0 scope ce ex) tg c.g) (pt : PTs (X.blk s0 H0 scope ce ex) ifs c.tt) (pb : BodyOk (X.blk s0 H0 scope ce ex) vs' body below) (hv : ∀ i ∈ vs', i ∈ c.vs) :
  BodyOk (X.blk s0 H0 scope ce ex) c.vs (inBody e k iter acc ce) (ClIn c below) := by
 intro pins s σ H Nx I h
 refine wpAny_bind (thnF (pi.run pins s σ H _ I h) fun xv s1 h1 => ?_)
 refine wpAny_bind (wpAny_standAt (wpAny_bind (wpAny_of_eq (hs _ xv) (wpAny_bind (wpAny_holding (thnF h1 fun itv s2 h2 => ?_))))))
 obtain ⟨it, fp, tn, J, H2, e1, I2, T, st2, f2, q⟩ := h2
 subst e1
 refine wpAny_bind (wpAny_runOwn ?_)
 rw [Around.mark_none]
 have lp := loop_ok (σ := σ) hp hc hT pg pt pb hv (I2.weak (wipe_length _ _) (fun j v z => (wipe_some z).1)) T st2 f2 q
 refine codeAny_mono (start_any hp hg ha lp (T.self X.A 0 _ _ _ st2 lp)) fun r s' hr => ?_
 cases r with
 | ok fl =>
  obtain ⟨e2, H', I', nx⟩ := hr
  first
   | exact wpAny_pure ⟨H', I', nx⟩
   | exact wpAny_bind (wpAny_pure (wpAny_pure ⟨H', I', nx⟩))
 | error x => exact hr.elim
end
end DL
end
section
namespace DL
open PySem PySem.Spec PyProof.Rows L2 PySem.W
def SKO (P : Program) (w : World) (a : Addr) (ks : List Str) : HO := .ext fun h => SK (strKind P w) h a ks
theorem sko_ok {P : Program} {w : World} {H : Hp} {h : Heap} {a : Addr} {ks : List Str} (R : SK (strKind P w) h a ks) : ObjOk P w H h a (SKO P w a ks) := by
 have ⟨o, _, _, _, ho, _⟩ := R
 exact ⟨R, ⟨o, ho⟩, fun h1 h2 p k => SK.keep p k⟩
section
variable {X : Cx} {pins : List (Addr × Obj)} {σ : Sl} {H : Hp} {s : Shared} {D : Addr} {ks : List Str} {Q E : Value → Shared → Prop}
theorem sko_get (I : L2.Inv X pins σ H s) (ha : H D = some (SKO X.prog X.w D ks)) : SK (strKind X.prog X.w) s.heap D ks := (I.hok D _ ha).1
theorem set_add1 {P : Program} {w : World} {A : Around} {z : Str} {t : Tok} (R : SK (strKind P w) s.heap D ks) (room : ks.length + 1 < scanBound)
  (hQ : ∀ h' t' ks', ks'.Perm (if z ∈ ks then ks else z :: ks) → Heap.SameBut D s.heap h' → SK (strKind P w) h' D ks' → Q .none { s with heap := h', toks := t' }) :
  wpAny (model P w) A (call (.builtin "set.add") [.ref D, .str z t]) Q E s := by
 refine wpAny_call_entry F.slot_set_add R.setOf.typeIs F.entry_set_add ?_ (F.args_set_add_2 _ _)
 unfold Builtin.«set.add» Builtin.Frozenset.oneOther Builtin.Frozenset.addrOf setAdd
 simp only [List.isEmpty_nil, bind_assoc]
 refine wpAny_bind (wpAny_pure (wpAny_bind (wpAny_pure ?_)))
 refine wpAny_bind (wpAny_holding (wpAny_bind ((strKind P w).pyHash (strKind_is _ _ _ _) ?_)))
 refine sk_add (s := { s with toks := s.toks + 1 }) R (strKind_is _ _ _ _) rfl room fun h' ks' b p sb r => ?_
 show wpAny _ _ (ret _) _ _ _
 exact wpAny_pure ⟨_, rfl, hQ h' (s.toks + 1) ks' p sb r⟩
theorem sko_add {z : Str} {v : Value} (I : L2.Inv X pins σ H s) (hD : H D = some (SKO X.prog X.w D ks)) (room : ks.length + 1 < scanBound) (r : RelV (.str z) v)
  (h : ∀ ks' s', ks'.Perm (if z ∈ ks then ks else z :: ks) → L2.Inv X pins σ (upd H D (SKO X.prog X.w D ks')) s' → Q .none s') : wpAny (model X.prog X.w) X.A (call (.builtin "set.add") [.ref D, v]) Q E s := by
 obtain ⟨t, rfl⟩ := r
 refine set_add1 (sko_get I hD) room fun h' t' ks' p sb new => ?_
 have there : ∃ u, h'.get? D = some u := by
  have ⟨o, _, _, _, ho, _⟩ := new
  exact ⟨o, ho⟩
 exact h ks' _ p (I.write (e := D) (t' := t') (by rw [hD]; trivial) (.inl rfl) (fun b u hb hu => (sb.2 b hb).trans hu) there (sko_ok new))
end
structure PSk (X : Cx) (e : Expr) (t : Sl → Hp → (Addr → List Str → Hp → Prop) → Prop) : Prop where
 run : ∀ (pins : List (Addr × Obj)) (s : Shared) (σ : Sl) (H : Hp) (Q : Addr → List Str → Hp → Prop), L2.Inv X pins σ H s → t σ H Q →
  wpAny (model X.prog X.w) X.A (eval e X.env) (fun v s' => ∃ a ks H', v = Value.ref a ∧ H' a = some (SKO X.prog X.w a ks) ∧ L2.Inv X pins σ H' s' ∧ Q a ks H') X.xe s
abbrev setEnd (elt : Expr) (acc : Value) (env : PySem.Env) : Sem Unit := eval elt env >>= fun v => standAt elt.pos >>= fun _ => call (.builtin "set.add") [acc, v] >>= fun _ => pure ()
def setBelow (P : Program) (w : World) (D : Addr) (t : TE) : Below := fun σ H Nx => t σ H fun y H1 => ∃ z ks, y = .str z ∧ H1 D = some (SKO P w D ks) ∧ ks.length + 1 < scanBound ∧ ∀ ks', ks'.Perm (if z ∈ ks then ks else z :: ks) → Nx (upd H1 D (SKO P w D ks'))
section
variable {X : Cx} {s0 : Shared} {H0 : Hp} {scope : Scope} {ce : PySem.Env} {ex : List Addr} {elt : Expr} {D : Addr} {t : TE}
theorem body_set (pe : PE (X.blk s0 H0 scope ce ex) elt t) : BodyOk (X.blk s0 H0 scope ce ex) [] (setEnd elt (.ref D) ce) (setBelow X.prog X.w D t) := by
 intro pins s σ H Nx I h
 refine wpAny_bind (thnF (pe.run pins s σ H _ I h) fun v s1 ⟨y, H1, I1, r1, z, ks, ey, hD, room, nx⟩ => wpAny_bind (wpAny_standAt (wpAny_bind ?_)))
 subst ey
 exact sko_add (X := X.blk s0 H0 scope ce ex) I1 hD room r1 fun ks' s2 p I2 => wpAny_pure ⟨_, I2, nx ks' p⟩
end
section
variable {X : Cx} {elt tg iter : Expr} {ifs : List Expr} {rest : List Comprehension} {scope : Scope} {own : List (Str × Nat)} {pos : Pos} {wi : TI} {g : TG} {tt : TT} {vs' : List Nat}
def tScG (P : Program) (w : World) (c : Cl) (below : Addr → Below) : Sl → Hp → (Addr → List Str → Hp → Prop) → Prop := fun σ H Q => c.wi σ H fun J H1 => ∀ D, H1 D = none → ClW c (below D) σ J (upd H1 D (SKO P w D [])) fun H' => ∃ ks, H' D = some (SKO P w D ks) ∧ Q D ks H'
theorem psk_sc {body : Addr → PySem.Env → Sem Unit} {below : Addr → Below} (hc : X.calm = true) (hN : X.N.Nodup) (hi : PI X tg iter wi) (ok : BlkOk X.N X.env.scope scope own)
  (hT : ∀ (D : Addr) (ce : PySem.Env), TurnIs (.SetComp elt (⟨tg, iter, ifs, 0⟩ :: rest) scope pos) 0 tg iter ifs ce (.ref D) (body D ce))
  (hg : ∀ (s : Shared) (Hb : Hp) (C : Addr) (cl : List (Str × Addr)) (fp : List Addr), PG (X.blk s Hb scope (compEnvC scope cl C X.env) fp) tg g)
  (ht : ∀ (s : Shared) (Hb : Hp) (C : Addr) (cl : List (Str × Addr)) (fp : List Addr), PTs (X.blk s Hb scope (compEnvC scope cl C X.env) fp) ifs tt)
  (hb : ∀ (D : Addr) (s : Shared) (Hb : Hp) (C : Addr) (cl : List (Str × Addr)) (fp : List Addr), BodyOk (X.blk s Hb scope (compEnvC scope cl C X.env) fp) vs' (body D (compEnvC scope cl C X.env)) (below D)) (hv : ∀ i ∈ vs', i ∈ own.map (·.2))
  (hs : ∀ x, foldedSetIterable iter X.env x = pure x) : PSk X (.SetComp elt (⟨tg, iter, ifs, 0⟩ :: rest) scope pos) (tScG X.prog X.w ⟨wi, g, tt, own.map (·.2)⟩ below) := ⟨fun pins s σ H Q I h => by
 have hfree : ∀ y ∈ scope.names, y.2 = .free → ∃ c, X.env.cells.lookup y.1 = some c := fun y hy z => (ok.free y hy z).elim (fun k => I.ok.has _ (.inl k)) fun k => I.ok.has _ (.inr k)
 show wpAny _ _ (comprehension (.SetComp elt (⟨tg, iter, ifs, 0⟩ :: rest) scope pos) scope X.env (firstIterPos (⟨tg, iter, ifs, 0⟩ :: rest) pos) (newSet (.type "set")) (firstAsync (⟨tg, iter, ifs, 0⟩ :: rest)) (firstIter (⟨tg, iter, ifs, 0⟩ :: rest) X.env)) _ _ s
 refine wpAny_comprehension_free (use := none) rfl hs (closure_ok hfree) ok.kind (fun y hy z => by rw [ok.uniq y hy, z]) (thn (hi.run pins s σ H _ I h) fun xv s1 hx => thn hx fun itv s2 h2 => ?_)
 obtain ⟨it, fp, tn, J, H2, e, I2, T, st2, f2, q⟩ := h2
 subst e
 refine PpSet.newSet_ok (newEnv_comp ?_)
 generalize hD : s2.heap.objs.size = D
 have hDn : H2 D = none := I2.hok.fresh (Nat.le_of_eq hD)
 have q := q D hDn
 generalize hs3 : ({ s2 with heap := s2.heap.push ({ cls := .type "set", dict := none, data := .set #[] 0 (.fresh 0 0 (!X.w.params.followText "set-order")) } : Obj) } : Shared) = s3
 have h3 : s3.heap = s2.heap.push (fSet X.w) := by rw [← hs3] <;> rfl
 have I3 : L2.Inv X pins σ (upd H2 D (SKO X.prog X.w D [])) s3 := by
  rw [← hs3]
  refine I2.laid (t' := s2.toks) (fun b o z => Heap.get?_push_of_some _ z) (Nat.le_of_eq hD) (sko_ok (sk_fresh ?_))
  rw [← hD]
  exact Heap.get?_push_size _ rfl
 have sz : ∀ b ∈ fp, b < s2.heap.objs.size := fun b hb => by
  obtain ⟨o, z, _⟩ := T.obj _ _ st2 b hb
  exact Heap.lt_size z
 generalize hH3 : upd H2 D (SKO X.prog X.w D []) = H3 at I3 q
 have f3 : ∀ b ∈ fp, FpOk X pins H3 b ∧ b < s3.heap.objs.size := fun b hb => by
  have hlt := sz b hb
  refine ⟨⟨?_, (f2 b hb).2⟩, by rw [h3, Heap.size_push]; exact Nat.lt_succ_of_lt hlt⟩
  rw [← hH3, upd_ne (by rw [← hD]; exact Nat.ne_of_lt hlt)]
  exact (f2 b hb).1
 have st3 : tn 0 s3.heap := T.keep _ _ _ st2 fun b _ o z => by rw [h3]; exact Heap.get?_push_of_some _ z
 have I4 := block_start I3 ok hN f3
 have pg := hg s3 H3 s3.heap.objs.size (cellsFrom (s3.heap.objs.size + 1) scope.names (cloFrom X.env.cells scope.names [])) fp
 have pt := ht s3 H3 s3.heap.objs.size (cellsFrom (s3.heap.objs.size + 1) scope.names (cloFrom X.env.cells scope.names [])) fp
 have pb := hb D s3 H3 s3.heap.objs.size (cellsFrom (s3.heap.objs.size + 1) scope.names (cloFrom X.env.cells scope.names [])) fp
 show codeAny _ _ (.compStart (.SetComp elt (⟨tg, iter, ifs, 0⟩ :: rest) scope pos) 0 (.ref it) (.ref D) (compEnvC scope (cellsFrom (s3.heap.objs.size + 1) scope.names (cloFrom X.env.cells scope.names [])) s3.heap.objs.size X.env)) (compPost (model X.prog X.w) X.A X.xe none _ (.ref D) s3.heap.objs.size) { s3 with heap := pushCells (s3.heap.push { cls := .type "dict", data := .dict #[] }) scope.names }
 generalize hce : compEnvC scope (cellsFrom (s3.heap.objs.size + 1) scope.names (cloFrom X.env.cells scope.names [])) s3.heap.objs.size X.env = ce at I4 pg pt pb ⊢
 have cL : ce.locals = s3.heap.objs.size := by subst hce; rfl
 generalize hs4 : ({ s3 with heap := pushCells (s3.heap.push { cls := .type "dict", data := .dict #[] }) scope.names } : Shared) = s4 at I4 ⊢
 have st4 : tn 0 s4.heap := T.keep _ _ _ st3 fun b _ o z => by rw [← hs4]; exact pushCells_keeps _ _ _ _ (Heap.get?_push_of_some _ z)
 have f4 : ∀ b ∈ fp, FpOk (X.blk s3 H3 scope ce fp) [] H3 b := fun b hb =>
  ⟨(f3 b hb).1.1, (I4.ok.exf b hb).1, I4.ok.exfs b hb, .inl hb, fun x c z => (I4.ok.exf b hb).2 x c z, fun p hp => absurd (show p ∈ ([] : List (Addr × Obj)) ++ [] from hp) (by simp)⟩
 have lp := loop_ok (σ := σ) (c := ⟨wi, g, tt, own.map (·.2)⟩) plainC_set hc (hT D ce) pg pt pb hv I4 T st4 f4 q
 have lp2 : codeAny (model X.prog X.w) X.A (.compLoop (.SetComp elt (⟨tg, iter, ifs, 0⟩ :: rest) scope pos) 0 (.ref it) (.ref D) ce) (compPost (model X.prog X.w) X.A X.xe none (fun v s' => ∃ a ks H', v = Value.ref a ∧ H' a = some (SKO X.prog X.w a ks) ∧ L2.Inv X pins σ H' s' ∧ Q a ks H') (.ref D) s3.heap.objs.size) s4 := by
  refine codeAny_mono lp fun r s6 hr => ?_
  cases r with
  | error x => exact hr.elim
  | ok fl =>
   obtain ⟨e2, H5, I6, ks, hk, qq⟩ := hr
   subst e2
   have I7 : L2.Inv X pins σ H5 s6 := I3.call' (ch := fp) I6.os I6.base I6.hok I6.bare fun b hb => ⟨(f3 b hb).1.2.2.2.1, (f3 b hb).1.2.1, (f3 b hb).1.2.2.2.2.1, (f3 b hb).1.2.2.2.2.2⟩
   have nC : H5 s3.heap.objs.size = none := by
    have z : H5 ce.locals = none := I6.free
    rw [cL] at z
    exact z
   obtain ⟨m, hn, _⟩ := I6.loc
   have hn : s6.heap.Ns ce.locals m := hn
   rw [cL] at hn
   obtain ⟨f0, f1, f2, f3, f4, f5⟩ := I3.fpOk (Nat.le_refl _) nC
   exact ⟨m, hn, fun h2 sb => ⟨D, ks, H5, rfl, hk, I7.turned (t' := s6.toks) (fun b o hb z => (sb.2 b hb).trans z) f0 f1 f3 f4 f5, qq⟩⟩
 exact start_any (g := ⟨tg, iter, ifs, 0⟩) plainC_set rfl rfl lp2 (T.self X.A 0 _ _ _ st4 lp2)⟩
end
end DL
end
section
namespace DL
open PySem PySem.Spec PyProof.Rows L2 PySem.W
variable {gx : Expr}
structure FC where
 vs : List Nat
 t : D → Env → Option Env
 tst : M Bool
def cLoop (c : FC) (b : M (List D)) : List D → M (List D)
 | [] => fun ρ => .ok [] ρ
 | x :: xs => fun ρ => match c.t x ρ with
  | none => .bad
  | some ρ1 => (c.tst ρ1).bindN fun k ρ2 => if k = true then (b ρ2).bindN fun ys ρ3 => (cLoop c b xs (wipeE ρ3 c.vs)).bindN fun zs ρ4 => .ok (ys ++ zs) ρ4 else cLoop c b xs (wipeE ρ2 c.vs)
def cIn (c : FC) (it : M (List D)) (b : M (List D)) : M (List D) := fun ρ => (it ρ).bindN fun xs ρ1 => cLoop c b xs (wipeE ρ1 c.vs)
def cEnd (e : M D) : M (List D) := fun ρ => (e ρ).bindN fun y ρ1 => .ok [y] ρ1
def mLcN (c : FC) (it : M (List D)) (b : M (List D)) : M (List D) := fun ρ => (it ρ).bind fun xs ρ1 => if dataAt ρ1 c.vs = true then (cLoop c b xs (wipeE ρ1 c.vs)).bindN fun ys ρ2 => .ok ys (backE ρ1 c.vs ρ2) else .bad
theorem bindN_inv {α β : Type} {r : Res α} {k : α → Env → Res β} {y : β} {ρ' : Env} (h : r.bindN k = .ok y ρ') : ∃ x ρ, r = .ok x ρ ∧ k x ρ = .ok y ρ' := by
 cases r with
 | ok x ρ => exact ⟨x, ρ, rfl, h⟩
 | ex _ _ => cases h
 | bad => cases h
theorem cLoop_inv {c : FC} {b : M (List D)} {x : D} {xs ys : List D} {ρ ρ' : Env} (h : cLoop c b (x :: xs) ρ = .ok ys ρ') : ∃ ρ1 k ρ2, c.t x ρ = some ρ1 ∧ c.tst ρ1 = .ok k ρ2 ∧
  ((k = true ∧ ∃ us ρ3 zs, b ρ2 = .ok us ρ3 ∧ cLoop c b xs (wipeE ρ3 c.vs) = .ok zs ρ' ∧ ys = us ++ zs) ∨ (k = false ∧ cLoop c b xs (wipeE ρ2 c.vs) = .ok ys ρ')) := by
 have h : (match c.t x ρ with
  | none => Res.bad
  | some ρ1 => (c.tst ρ1).bindN fun k ρ2 => if k = true then (b ρ2).bindN fun us ρ3 => (cLoop c b xs (wipeE ρ3 c.vs)).bindN fun zs ρ4 => .ok (us ++ zs) ρ4 else cLoop c b xs (wipeE ρ2 c.vs)) = .ok ys ρ' := h
 cases e : c.t x ρ with
 | none => rw [e] at h; cases h
 | some ρ1 =>
  rw [e] at h
  obtain ⟨k, ρ2, e2, h2⟩ := bindN_inv h
  refine ⟨ρ1, k, ρ2, rfl, e2, ?_⟩
  cases k with
  | false => exact .inr ⟨rfl, h2⟩
  | true =>
   obtain ⟨us, ρ3, e3, h3⟩ := bindN_inv h2
   obtain ⟨zs, ρ4, e4, h4⟩ := bindN_inv h3
   cases h4
   exact .inl ⟨rfl, us, ρ3, zs, e3, e4, rfl⟩
section
variable {K : Frag} {c : Ct} {F H F' H' F0 H0 : Hp} {σ σ' σ0 : Sl} {ρ ρ' : Env} {O O' O0 : List Addr} {fb fb2 : List Nat} {D0 : Addr}
theorem EnvR.reb (e : EnvR K (c.blk fb F0 H0 O0 σ0) F H σ ρ O) (fb2 : List Nat) : EnvR K (c.blk fb2 F H (D0 :: O) σ) F H σ ρ O :=
 ⟨e.sub, Same.refl _, fun b o q _ => q, fun b _ _ q => q, e.sl, e.nd, fun p hp => ⟨(e.ow p hp).1, .inl (List.mem_cons_of_mem _ hp)⟩, fun i _ => rfl⟩
theorem EnvR.outb (a : EnvR K (c.blk fb F0 H0 O0 σ0) F H σ ρ O) (hD : D0 ∈ O0) (b : EnvR K (c.blk fb2 F H (D0 :: O) σ) F' H' σ' ρ' O') (hf : ∀ i ∈ fb, i ∈ fb2) : EnvR K (c.blk fb F0 H0 O0 σ0) F' H' σ' ρ' O' where
 sub := b.sub
 f0 := a.f0.trans b.f0
 h0 := fun x o q h => b.h0 x o (a.h0 x o q h) fun z => by
  rcases List.mem_cons.mp z with z | z
  ·exact h (by rw [z]; exact hD)
  ·rcases (a.ow x z).2 with w | w
   ·exact h w
   ·rw [w] at q; cases q
 n0 := fun x h1 h2 h3 => by
  have h1 : H0 x ≠ none := h1
  cases q : H0 x with
  | none => exact absurd q h1
  | some o =>
   refine b.n0 x (fun z => ?_) (fun z => ?_) (a.n0 x h1 h2 h3)
   ·have z : H x = none := z
    rw [a.h0 x o q h2] at z; cases z
   ·rcases List.mem_cons.mp z with z | z
    ·exact h2 (by rw [z]; exact hD)
    ·rcases (a.ow x z).2 with w | w
     ·exact h2 w
     ·exact h1 w
 sl := b.sl
 nd := b.nd
 ow := fun p hp => ⟨(b.ow p hp).1, by
  have back : p ∈ O ∨ H p = none → p ∈ O0 ∨ H0 p = none := fun z => by
   rcases z with z | z
   ·exact (a.ow p z).2
   ·by_cases hc : p ∈ O0
    ·exact .inl hc
    ·refine .inr ?_
     cases q : H0 p with
     | none => rfl
     | some o => rw [a.h0 p o q hc] at z; cases z
  rcases (b.ow p hp).2 with z | z
  ·rcases List.mem_cons.mp z with z | z
   ·exact .inl (by rw [z]; exact hD)
   ·exact back (.inl z)
  ·exact back (.inr z)⟩
 fx := fun i hi => (b.fx i (hf i hi)).trans (a.fx i hi)
end
structure Gath (Hd : Hp → HO → List D → Prop) (F H : Hp) (D0 : Addr) (O : List Addr) (acc : List D) : Prop where
 at_ : ∃ o, H D0 = some o ∧ Hd F o acc
 nf : F D0 = none
 no : D0 ∉ O
section
variable {K : Frag} {c : Ct} {Hd : Hp → HO → List D → Prop} {F H F' H' F0 H0 : Hp} {D0 : Addr} {O O' O0 : List Addr} {σ σ' : Sl} {ρ' : Env} {acc : List D} {fb : List Nat}
theorem Gath.step (hm : ∀ F F' o acc, Same F F' → Hd F o acc → Hd F' o acc) (g : Gath Hd F H D0 O acc) (e : EnvR K (c.blk fb F H O σ) F' H' σ' ρ' O') : Gath Hd F' H' D0 O' acc := by
 obtain ⟨o, h1, h2⟩ := g.at_
 refine ⟨⟨o, e.h0 _ _ h1 g.no, hm _ _ _ _ e.f0 h2⟩, e.n0 D0 (fun z => by have z : H D0 = none := z; rw [h1] at z; cases z) g.no g.nf, fun k => ?_⟩
 rcases (e.ow D0 k).2 with z | z
 ·exact g.no z
 ·have z : H D0 = none := z
  rw [h1] at z; cases z
theorem Gath.new (hm : ∀ F F' o acc, Same F F' → Hd F o acc → Hd F' o acc) (g : Gath Hd F H D0 O acc) (n : New F H F' H') : Gath Hd F' H' D0 O acc := by
 obtain ⟨o, h1, h2⟩ := g.at_
 exact ⟨⟨o, n.hH _ _ h1, hm _ _ _ _ n.fF h2⟩, n.nw D0 (fun z => by rw [h1] at z; cases z) g.nf, g.no⟩
end
def FBel (K : Frag) (c : Ct) (Hd : Hp → HO → List D → Prop) (cap : Nat) (pu : Bool) (Hs : Hp) (D0 : Addr) (n : Nat) (fb vsA : List Nat) (b : M (List D)) : Below := fun σ H Nx =>
 ∃ F0 H0 O0 σ0 F ρ O acc ys ρ', EnvR K (c.blk fb F0 H0 O0 σ0) F H σ ρ O ∧ D0 ∈ O0 ∧ Gath Hd F H D0 O acc ∧ (pu = true → Same Hs H) ∧ σ.length = n ∧ b ρ = .ok ys ρ' ∧ acc.length + ys.length ≤ cap ∧
  ∀ F' H' O', EnvR K (c.blk fb F0 H0 O0 σ0) F' H' (L2.wipe σ vsA) ρ' O' → Gath Hd F' H' D0 O' (acc ++ ys) → (pu = true → Same Hs H') → Nx H'
def tiE (gx : Expr) (K : Frag) (c : Ct) (fb : List Nat) (pu : Bool) (m : M (List D)) : TI := fun σ H R => ∃ F0 H0 O0 σ0, ti gx K (c.blk fb F0 H0 O0 σ0) pu m σ H R
section
variable {K : Frag} {c : Ct} {Hd : Hp → HO → List D → Prop} {cap : Nat} {pt pu : Bool} {Hs : Hp} {D0 : Addr} {n : Nat} {fb fb2 vs2 : List Nat} {b : M (List D)} {cl : FC}
theorem loop_step (hm : ∀ F F' o acc, Same F F' → Hd F o acc → Hd F' o acc) (hvf : (cl.vs.all fun i => fb.all fun j => j != i) = true) (hall : ((List.range n).all fun i => cl.vs.contains i || fb.contains i) = true) (hf : ∀ i ∈ fb, i ∈ fb2) (hp : pu = true → pt = true)
  {F H F0 H0 : Hp} {O O0 : List Addr} {σ σ0 : Sl} {ρ ρ' : Env} {acc xs ys : List D} {J : It} {Nx : Hp → Prop} {wi : TI} (hn : σ.length = n) (e : EnvR K (c.blk fb F0 H0 O0 σ0) F H (L2.wipe σ cl.vs) ρ O) (hD : D0 ∈ O0) (g : Gath Hd F H D0 O acc) (pur : pu = true → Same Hs H) (it : ItD gx K F J xs)
  (hgo : cLoop cl b xs ρ = .ok ys ρ') (hcap : acc.length + ys.length ≤ cap) (fin : ∀ F' H' O', EnvR K (c.blk fb F0 H0 O0 σ0) F' H' (L2.wipe σ cl.vs) ρ' O' → Gath Hd F' H' D0 O' (acc ++ ys) → (pu = true → Same Hs H') → Nx H') :
  ClW ⟨wi, tgB gx K c fb cl.t, ttE K c fb pt cl.tst, cl.vs⟩ (FBel K c Hd cap pu Hs D0 n fb2 vs2 b) σ J H Nx := by
 refine ⟨fun i m H' => m = xs.length - i ∧ i ≤ xs.length ∧ ∃ F2 ρ2 O2 acc' zs, Same F F2 ∧ EnvR K (c.blk fb F0 H0 O0 σ0) F2 H' (L2.wipe σ cl.vs) ρ2 O2 ∧ Gath Hd F2 H' D0 O2 acc' ∧ (pu = true → Same Hs H') ∧ cLoop cl b (xs.drop i) ρ2 = .ok zs ρ' ∧ acc' ++ zs = acc ++ ys,
  ⟨xs.length, by simp, Nat.zero_le _, F, ρ, O, acc, ys, Same.refl _, e, g, pur, hgo, rfl⟩, ?_⟩
 rintro i m H2 ⟨rfl, hil, F2, ρ2, O2, acc', zs, s2, e2, g2, pur2, go2, eq2⟩
 have back : ∀ {F3 H3 : Hp} {σ3 : Sl} {ρ3 : Env} {O3 : List Addr}, EnvR K (c.blk fb F0 H0 O0 σ0) F3 H3 σ3 ρ3 O3 → σ3.length = n → L2.wipe σ3 cl.vs = L2.wipe σ cl.vs := fun {F3 H3 σ3 ρ3 O3} e3 l3 =>
  wipe_eq hn (by rw [l3, wipe_length, hn]) hall fun j hj => (e3.fx j hj).trans (e2.fx j hj).symm
 by_cases hlt : i < xs.length
 ·rw [List.drop_eq_getElem_cons hlt] at go2
  obtain ⟨ρ3, k, ρ4, ht, htst, hk⟩ := cLoop_inv go2
  refine .inr ⟨it.go F2 H2 s2 e2.sub i hlt, fun H3 => ∃ F3 ρ3 O3 acc3 zs3, Same F F3 ∧ EnvR K (c.blk fb F0 H0 O0 σ0) F3 H3 (L2.wipe σ cl.vs) ρ3 O3 ∧ Gath Hd F3 H3 D0 O3 acc3 ∧ (pu = true → Same Hs H3) ∧ cLoop cl b (xs.drop (i + 1)) ρ3 = .ok zs3 ρ' ∧ acc3 ++ zs3 = acc ++ ys,
   fun H3 ⟨F3, ρ3, O3, acc3, zs3, q⟩ => ⟨xs.length - (i + 1), by omega, rfl, hlt, F3, ρ3, O3, acc3, zs3, q⟩, fun x H3 y => ?_⟩
  obtain ⟨F3, dx, n3, hd, r3⟩ := it.yl F2 H2 s2 e2.sub i x H3 hlt y
  rw [List.getElem?_eq_getElem hlt] at hd
  cases hd
  have e3 := e2.new n3
  have g3 := g2.new hm n3
  refine ⟨F3, H3, O2, L2.wipe σ cl.vs, F3, ρ2, O2, _, ρ3, e3.self, r3, ht, fun σ4 F4 H4 O4 n4 e4 l4 => ?_⟩
  have a4 := e3.trans e4
  have g4 := g3.step hm (c := c) (fb := fb) e4
  have hl4 : σ4.length = n := by rw [l4, wipe_length, hn]
  refine ⟨back a4 hl4, F4, H4, O4, σ4, F4, ρ3, O4, a4.self, ?_⟩
  rw [htst]
  intro F5 H5 O5 e5 s5 p5
  have a5 := a4.trans e5
  have g5 := g4.step hm (c := c) (fb := fb) e5
  have pur5 : pu = true → Same Hs H5 := fun q => (((pur2 q).trans n3.hH).trans n4.hH).trans (p5 (hp q))
  have s5' : Same F F5 := ((s2.trans n3.fF).trans n4.fF).trans s5
  rcases hk with ⟨rfl, us, ρ5, zs', hb, hgo', rfl⟩ | ⟨rfl, hgo'⟩
  ·rw [if_pos rfl]
   have hcap' : acc'.length + us.length ≤ cap := by
    have := congrArg List.length eq2
    rw [List.length_append, List.length_append, List.length_append] at this
    omega
   refine ⟨F5, H5, D0 :: O5, σ4, F5, ρ4, O5, acc', us, ρ5, a5.reb fb2, List.mem_cons_self, g5, pur5, hl4, hb, hcap', fun F6 H6 O6 e6 g6 pur6 => ?_⟩
   have a6 := a5.outb hD e6 hf
   obtain ⟨R6, w6, hR6⟩ := a6.wipe (vs := cl.vs) hvf
   rw [back a6 (by rw [wipe_length, hl4])] at w6
   exact ⟨F6, _, R6, _, zs', s5'.trans e6.f0, w6, ⟨g6.at_, g6.nf, fun z => g6.no (hR6 _ z)⟩, pur6, hgo', by rw [← eq2, List.append_assoc]⟩
  ·rw [if_neg Bool.false_ne_true]
   obtain ⟨R5, w5, hR5⟩ := a5.wipe (vs := cl.vs) hvf
   rw [back a5 hl4] at w5
   exact ⟨F5, _, R5, acc', zs, s5', w5, ⟨g5.at_, g5.nf, fun z => g5.no (hR5 _ z)⟩, pur5, hgo', eq2⟩
 ·have ei : i = xs.length := by omega
  subst ei
  rw [List.drop_length] at go2
  cases go2
  rw [List.append_nil] at eq2
  rw [eq2] at g2
  exact .inl ⟨it.st F2 H2 s2 e2.sub _ (Nat.le_refl _), fin F2 H2 O2 e2 g2 pur2⟩
theorem in_step (hm : ∀ F F' o acc, Same F F' → Hd F o acc → Hd F' o acc) {fb1 : List Nat} {it : M (List D)} {pi : Bool} (hvf : (cl.vs.all fun i => fb1.all fun j => j != i) = true) (hall : ((List.range n).all fun i => cl.vs.contains i || fb1.contains i) = true) (hf0 : ∀ i ∈ fb, i ∈ fb1) (hf : ∀ i ∈ fb1, i ∈ fb2) (hp : pu = true → pt = true) (hpi : pu = true → pi = true)
  {σ : Sl} {H : Hp} {Nx : Hp → Prop} (h : FBel K c Hd cap pu Hs D0 n fb cl.vs (cIn cl it b) σ H Nx) :
  ClIn ⟨tiE gx K c fb pi it, tgB gx K c fb1 cl.t, ttE K c fb1 pt cl.tst, cl.vs⟩ (FBel K c Hd cap pu Hs D0 n fb2 vs2 b) σ H Nx := by
 obtain ⟨F0, H0, O0, σ0, F, ρ, O, acc, ys, ρ', e, hD, g, pur, hn, hb, hcap, fin⟩ := h
 obtain ⟨xs, ρ1, h1, h2⟩ := bindN_inv hb
 refine ⟨F, H, O, σ, F, ρ, O, e.self, ?_⟩
 rw [h1]
 intro F1 H1 O1 J e1 s1 p1 itd
 have a1 := e.trans e1
 have g1 := g.step hm (c := c) (fb := fb) e1
 have b1 := a1.reb (D0 := D0) fb1
 obtain ⟨R, w1, hR⟩ := b1.wipe (vs := cl.vs) hvf
 refine loop_step hm hvf hall hf hp hn w1 List.mem_cons_self ⟨g1.at_, g1.nf, fun z => g1.no (hR _ z)⟩ (fun q => (pur q).trans (p1 (hpi q))) itd h2 hcap fun F' H' O' e' g' pur' => fin F' H' O' (a1.outb hD e' hf0) g' pur'
end
end DL
end
section
namespace DL
open PySem PySem.Spec PyProof.Rows L2 PySem.W
variable {gx : Expr}
section
variable {X : Cx} {s0 : Shared} {H0 : Hp} {scope : Scope} {ce : PySem.Env} {ex : List Addr} {elt : Expr} {D : Addr} {t : TE}
end
section
variable {X : Cx} {elt tg iter : Expr} {ifs : List Expr} {rest : List Comprehension} {scope : Scope} {own : List (Str × Nat)} {pos : Pos} {wi : TI} {g : TG} {tt : TT} {vs' : List Nat}
end
section
variable {K : Frag} {c : Ct} {F1 H1 F2 H' : Hp} {σ : Sl} {ρ1 ρ2 : Env} {O1 O2 R : List Addr} {vs fb : List Nat} {D0 : Addr} {o : HO}
theorem blk_in (e1 : EnvR K c F1 H1 σ ρ1 O1) (hcf : (vs.all fun i => c.fx.all fun j => j != i) = true) (hD : H1 D0 = none) (o : HO) (fb : List Nat) : ∃ R, (∀ b ∈ R, b ∈ O1) ∧ D0 ∉ R ∧
  EnvR K (c.blk fb F1 (upd H1 D0 o) (D0 :: R) (L2.wipe σ vs)) F1 (upd H1 D0 o) (L2.wipe σ vs) (wipeE ρ1 vs) R := by
 obtain ⟨R, ew, hR⟩ := e1.wipe (vs := vs) hcf
 have ew := ew.new (New.own e1.sub hD o)
 exact ⟨R, hR, fun z => e1.sl.there D0 (hR D0 z) hD, ew.sub, Same.refl _, fun b o q _ => q, fun b _ _ q => q, ew.sl, ew.nd, fun p hp => ⟨(ew.ow p hp).1, .inl (List.mem_cons_of_mem _ hp)⟩, fun i _ => rfl⟩
theorem blk_out (e1 : EnvR K c F1 H1 σ ρ1 O1) (hD : H1 D0 = none) (hR : ∀ b ∈ R, b ∈ O1) (e2 : EnvR K (c.blk fb F1 (upd H1 D0 o) (D0 :: R) (L2.wipe σ vs)) F2 H' (L2.wipe σ vs) ρ2 O2) (no : D0 ∉ O2) (hda : dataAt ρ1 vs = true) :
  ∃ O3, EnvR K c F2 H' σ (backE ρ1 vs ρ2) O3 ∧ D0 ∉ O3 ∧ (D0 ∈ c.O ∨ c.H D0 = none) := by
 have s2 : Same F1 F2 := e2.f0
 obtain ⟨O3, m1, m2, m3⟩ := slr_back (H := H') e1.sl s2 e2.sl hda
 have cD : D0 ∈ c.O ∨ c.H D0 = none := by
  by_cases hc : D0 ∈ c.O
  ·exact .inl hc
  ·refine .inr ?_
   cases q : c.H D0 with
   | none => rfl
   | some u => rw [e1.h0 D0 u q hc] at hD; cases hD
 have old : ∀ p, p ∈ R → p ∈ c.O ∨ c.H p = none := fun p hp => (e1.ow p (hR p hp)).2
 refine ⟨O3, ⟨e2.sub, e1.f0.trans s2, fun b u q hb => ?_, fun b q1 q2 q3 => ?_, m1, m3 e2.nd, fun p hp => ?_, e1.fx⟩, fun k => no (m2 _ k), cD⟩
 ·have z := e1.h0 b u q hb
  have hbD : b ≠ D0 := fun k => by rw [k, hD] at z; cases z
  refine e2.h0 b u ?_ fun k => ?_
  ·show upd H1 D0 _ b = _
   rw [upd_ne hbD]; exact z
  ·rcases List.mem_cons.mp k with k | k
   ·exact hbD k
   ·rcases old b k with k2 | k2
    ·exact hb k2
    ·rw [q] at k2; cases k2
 ·cases q : c.H b with
  | none => exact absurd q q1
  | some u =>
   have z := e1.h0 b u q q2
   have hbD : b ≠ D0 := fun k => by rw [k, hD] at z; cases z
   refine e2.n0 b (fun k => ?_) (fun k => ?_) (e1.n0 b q1 q2 q3)
   ·have k : upd H1 D0 o b = none := k
    rw [upd_ne hbD, z] at k; cases k
   ·rcases List.mem_cons.mp k with k | k
    ·exact hbD k
    ·rcases old b k with k2 | k2
     ·exact q2 k2
     ·exact q1 k2
 ·have hp2 := m2 p hp
  refine ⟨(e2.ow p hp2).1, ?_⟩
  have hpD : p ≠ D0 := fun k => no (by rw [← k]; exact hp2)
  rcases (e2.ow p hp2).2 with k | k
  ·rcases List.mem_cons.mp k with k | k
   ·exact absurd k hpD
   ·exact old p k
  ·have k : upd H1 D0 o p = none := k
   rw [upd_ne hpD] at k
   by_cases hc : p ∈ c.O
   ·exact .inl hc
   ·refine .inr ?_
    cases q : c.H p with
    | none => rfl
    | some u => rw [e1.h0 p u q hc] at k; cases k
end
def HdS (P : Program) (w : World) (D0 : Addr) (_ : Hp) (o : HO) (acc : List D) : Prop := ∃ ks, o = SKO P w D0 ks ∧ ks.Nodup ∧ ks.length ≤ acc.length ∧ ∃ l, allStr acc = some l ∧ ∀ x, x ∈ ks ↔ x ∈ l
theorem hdS_mono {P : Program} {w : World} {D0 : Addr} : ∀ F F' o acc, Same F F' → HdS P w D0 F o acc → HdS P w D0 F' o acc := fun _ _ _ _ _ h => h
section
variable {X : Cx} {c : Ct} {pe pu : Bool} {me : M D} {fb : List Nat} {Hs : Hp} {D0 : Addr} {n : Nat}
theorem EnvR.setD {K : Frag} {F H F0 H0 : Hp} {O O0 : List Addr} {σ σ0 : Sl} {ρ : Env} {o : HO} (e : EnvR K (c.blk fb F0 H0 O0 σ0) F H σ ρ O) (hD : D0 ∈ O0) (nf : F D0 = none) (no : D0 ∉ O) : EnvR K (c.blk fb F0 H0 O0 σ0) F (upd H D0 o) σ ρ O := by
 refine ⟨fun b u q => ?_, e.f0, fun b u q hb => ?_, e.n0, e.sl.mono (Same.refl _) fun b hb => upd_ne fun z => no (by rw [← z]; exact hb), e.nd, e.ow, e.fx⟩
 ·rw [upd_ne fun z => by rw [z, nf] at q; cases q]
  exact e.sub b u q
 ·rw [upd_ne fun z => hb (by rw [z]; exact hD)]
  exact e.h0 b u q hb
theorem allStr_app : ∀ {a b : List D} {l m : List Str}, allStr a = some l → allStr b = some m → allStr (a ++ b) = some (l ++ m)
 | [], b, l, m, h, g => by cases h; exact g
 | .str x :: a, b, l, m, h, g => by
  obtain ⟨l', h1, rfl⟩ := Option.map_eq_some_iff.mp (show (allStr a).map (fun l => x :: l) = some l from h)
  show (allStr (a ++ b)).map _ = _
  rw [allStr_app h1 g]; rfl
 | .none :: _, _, _, _, h, _ => by cases h
 | .bool _ :: _, _, _, _, h, _ => by cases h
 | .int _ :: _, _, _, _, h, _ => by cases h
 | .list _ :: _, _, _, _, h, _ => by cases h
 | .tuple _ :: _, _, _, _, h, _ => by cases h
 | .dict _ :: _, _, _, _, h, _ => by cases h
def mTxt (m : M D) : M D := fun ρ => (m ρ).bindN fun x ρ1 => match x with
 | .str z => .ok (.str z) ρ1
 | _ => .bad
theorem end_set (hp : pu = true → pe = true) (hs : Hs D0 = none) {σ : Sl} {H : Hp} {Nx : Hp → Prop} (h : FBel X.K c (HdS X.prog X.w D0) (scanBound - 2) pu Hs D0 n fb [] (cEnd (mTxt me)) σ H Nx) : setBelow X.prog X.w D0 (teE X.K c fb pe me) σ H Nx := by
 obtain ⟨F0, H0, O0, σ0, F, ρ, O, acc, ys, ρ', e, hD, g, pur, hn, hb, hcap, fin⟩ := h
 obtain ⟨y, ρ1, h1, h2⟩ := bindN_inv hb
 cases h2
 obtain ⟨y', ρ2, h3, h4⟩ := bindN_inv h1
 refine ⟨F, H, O, σ, F, ρ, O, e.self, ?_⟩
 rw [h3]
 intro F2 H2 O2 v e2 s2 p2 r2
 have a2 := e.trans e2
 have g2 := g.step hdS_mono (c := c) (fb := fb) e2
 obtain ⟨o, q1, ks, rfl, nd, len, l, hl, hm⟩ := g2.at_
 cases y' with
 | str z =>
  cases h4
  cases r2
  have hsb : scanBound = 4096 := rfl
  refine ⟨z, ks, rfl, q1, by simp at hcap; omega, fun ks' pm => ?_⟩
  refine fin F2 _ O2 (a2.setD hD g2.nf g2.no) ⟨⟨_, upd_same, ks', rfl, ?_, ?_, l ++ [z], allStr_app hl rfl, fun x => ?_⟩, g2.nf, g2.no⟩ fun q b u hb => ?_
  ·rw [pm.nodup_iff]
   split
   ·exact nd
   ·rename_i hz; exact List.nodup_cons.mpr ⟨hz, nd⟩
  ·rw [pm.length_eq, List.length_append]
   split
   ·simp; omega
   ·simp; omega
  ·rw [pm.mem_iff, List.mem_append, List.mem_singleton, ← hm]
   split
   ·rename_i hz
    exact ⟨.inl, fun k => k.elim id fun k => k ▸ hz⟩
   ·rw [List.mem_cons]
    exact ⟨fun k => k.elim .inr .inl, fun k => k.elim .inr .inl⟩
  ·rw [upd_ne fun z => by rw [z, hs] at hb; cases hb]
   exact p2 (hp q) _ _ (pur q b u hb)
 | _ => cases h4
end
section
variable {X : Cx} {c : Ct} {pi pt pu : Bool} {mi : M (List D)} {cl : FC} {b : M (List D)} {fb fb2 vs2 : List Nat} {n : Nat}
def mSetC (m : M (List D)) : M (List Str) := fun ρ => (m ρ).bind fun ys ρ1 => if ys.length ≤ scanBound - 2 then ofO (allStr ys) ρ1 else .bad
theorem top_set {σ : Sl} {H : Hp} {Q : Addr → List Str → Hp → Prop} (hvf : (cl.vs.all fun i => fb.all fun j => j != i) = true) (hall : ((List.range n).all fun i => cl.vs.contains i || fb.contains i) = true) (hf : ∀ i ∈ fb, i ∈ fb2) (hcf : (cl.vs.all fun i => c.fx.all fun j => j != i) = true) (hp : pu = true → pi = true ∧ pt = true) (hn : σ.length = n)
  (h0 : ∃ F ρ O, EnvR X.K c F H σ ρ O ∧ (mSetC (mLcN cl mi b) ρ).post (fun l ρ' => ∀ F' H' O' a ks, EnvR X.K c F' H' σ ρ' O' → Same F F' → (pu = true → Same H H') → H' a = some (SKO X.prog X.w a ks) → F' a = none → a ∉ O' → (a ∈ c.O ∨ c.H a = none) → ks.Nodup → (∀ x, x ∈ ks ↔ x ∈ l) → Q a ks H') (PX X.K c σ)) :
  tScG X.prog X.w ⟨ti gx X.K c pi mi, tgB gx X.K c fb cl.t, ttE X.K c fb pt cl.tst, cl.vs⟩ (fun D σ H Nx => ∃ Hs, Hs D = none ∧ FBel X.K c (HdS X.prog X.w D) (scanBound - 2) pu Hs D n fb2 vs2 b σ H Nx) σ H Q := by
 obtain ⟨F, ρ, O, ev, h⟩ := h0
 refine ⟨F, ρ, O, ev, Res.post_imp (Res.post_bind (Res.post_bind h)) (fun xs ρ1 h1 F1 H1 O1 J e1 s1 p1 it D0 hD => ?_) fun _ _ h => h⟩
 split at h1
 rotate_left
 ·exact h1.elim
 rename_i hda
 cases hr : cLoop cl b xs (wipeE ρ1 cl.vs) with
 | bad => rw [hr] at h1; exact h1.elim
 | ex _ _ => rw [hr] at h1; exact h1.elim
 | ok ys ρ2 =>
  rw [hr] at h1
  have h1 : (if ys.length ≤ scanBound - 2 then ofO (allStr ys) (backE ρ1 cl.vs ρ2) else .bad).post _ (PX X.K c σ) := h1
  split at h1
  rotate_left
  ·exact h1.elim
  rename_i hlen
  obtain ⟨l, hl, h1⟩ := post_ofO h1
  obtain ⟨R, hR, DR, start⟩ := blk_in e1 hcf hD (SKO X.prog X.w D0 []) fb
  have q := loop_step (acc := ([] : List D)) (cap := scanBound - 2) (pu := pu) (Hs := H1) (fb2 := fb2) (vs2 := vs2) (wi := ti gx X.K c pi mi) (Hd := HdS X.prog X.w D0) hdS_mono hvf hall hf (fun q => (hp q).2) hn start List.mem_cons_self ⟨⟨_, upd_same, [], rfl, .nil, Nat.le_refl _, [], rfl, fun x => Iff.rfl⟩, e1.sub.free hD, DR⟩ (fun _ => same_upd hD _) it hr (by show 0 + ys.length ≤ _; omega) (Nx := fun H' => ∃ ks, H' D0 = some (SKO X.prog X.w D0 ks) ∧ Q D0 ks H') fun F' H' O' e2 g2 pur2 => by
   obtain ⟨O3, e3, no3, cD⟩ := blk_out e1 hD hR e2 g2.no hda
   obtain ⟨o, q1, ks, rfl, nd, _, l', hl', hm⟩ := g2.at_
   rw [List.nil_append, hl] at hl'
   cases hl'
   exact ⟨ks, q1, h1 F' H' O3 D0 ks e3 (s1.trans e2.f0) (fun q => (p1 (hp q).1).trans (pur2 q)) q1 g2.nf no3 cD nd hm⟩
  obtain ⟨W, w0, st⟩ := q
  refine ⟨W, w0, fun i m H w => (st i m H w).imp id fun ⟨g, Nx', h1, h2⟩ => ⟨g, Nx', h1, fun x H' y => ?_⟩⟩
  obtain ⟨F0, H0, O0, σ0, F3, ρ3, O3, d, ρ4, k1, k2, k3, k4⟩ := h2 x H' y
  refine ⟨F0, H0, O0, σ0, F3, ρ3, O3, d, ρ4, k1, k2, k3, fun σ' F' H' O' a1 a2 a3 => ?_⟩
  obtain ⟨z1, G0, J0, P0, τ0, F5, ρ5, O5, z2, z3⟩ := k4 σ' F' H' O' a1 a2 a3
  refine ⟨z1, G0, J0, P0, τ0, F5, ρ5, O5, z2, Res.post_imp z3 (fun b ρ' hb F' H' O' a1 a2 a3 => ?_) fun _ _ h => h⟩
  have := hb F' H' O' a1 a2 a3
  cases b with
  | false => exact this
  | true => exact ⟨H1, hD, this⟩
end
end DL
end
section
namespace DL
open PySem PySem.Spec PyProof.Rows L2 PySem.W
theorem BodyOk.imp {X : Cx} {vs : List Nat} {body : Sem Unit} {b b' : Below} (h : BodyOk X vs body b) (k : ∀ σ H Nx, b' σ H Nx → b σ H Nx) : BodyOk X vs body b' := fun pins s σ H Nx I q => h pins s σ H Nx I (k σ H Nx q)
def tkO (P : Program) (w : World) (K : Frag) (c : Ct) (pu : Bool) (m : M (List Str)) : Sl → Hp → (Addr → List Str → Hp → Prop) → Prop := fun σ H Q => ∃ F ρ O, EnvR K c F H σ ρ O ∧
 (m ρ).post (fun l ρ' => ∀ F' H' O' a ks, EnvR K c F' H' σ ρ' O' → Same F F' → (pu = true → Same H H') → H' a = some (SKO P w a ks) → F' a = none → a ∉ O' → (a ∈ c.O ∨ c.H a = none) → ks.Nodup → (∀ x, x ∈ ks ↔ x ∈ l) → Q a ks H') (PX K c σ)
theorem psk_imp {X : Cx} {e : Expr} {t t' : Sl → Hp → (Addr → List Str → Hp → Prop) → Prop} (h : PSk X e t) (k : X.N.length = X.N.length → ∀ σ H Q, σ.length = X.N.length → t' σ H Q → t σ H Q) : PSk X e t' := ⟨fun pins s σ H Q I q => h.run pins s σ H Q I (k rfl σ H Q I.len q)⟩
theorem psk_st {X : Cx} {c : Ct} {e : Expr} {pu : Bool} {m : M (List Str)} (h : PSk X e (tkO X.prog X.w X.K c pu m)) : PSt X e (tk X.K c pu m) := ⟨fun pins s σ H Q I ⟨F, ρ, O, ev, q⟩ =>
 thn (h.run pins s σ H (fun a ks H' => Q ks H') I ⟨F, ρ, O, ev, Res.post_imp q (fun l ρ' k F' H' O' a ks e s p _ _ _ _ nd hm => k F' H' O' ks e s p nd hm) fun _ _ h => h⟩) fun v s' ⟨a, ks, H', e1, e2, I', q'⟩ => ⟨a, ks, H', e1, sko_get I' e2, I', q'⟩⟩
theorem turn_in {e tg iter iter1 : Expr} {k j : Nat} {ifs : List Expr} {env : PySem.Env} {acc : Value}
  (h : ∀ it, compTurn e k it acc env = (standAt iter.pos >>= fun _ => pyNext it >>= fun r => match r with
   | none => pure (.done .next)
   | some v => letOwnedTupleGo tg it v >>= fun _ => assign tg env v >>= fun _ => cTests ifs env >>= fun ok => if ok = true then (eval iter1 env >>= fun x => standAt iter1.pos >>= fun _ => foldedSetIterable iter1 env x >>= fun x => holding [x] (pyIter x) >>= fun i => runOwn (.compStart e j i acc env) env >>= fun _ => again (.compLoop e k it acc env)) else again (.compLoop e k it acc env))) :
  TurnIs e k tg iter ifs env acc (inBody e j iter1 acc env) := fun it => by
 rw [h it]
 simp only [inBody, bind_assoc, pure_bind]
 first
 | done
 | (refine congrArg (fun f => standAt iter.pos >>= fun _ => pyNext it >>= f) (funext fun r => ?_)
    cases r <;> rfl)
section
variable {X : Cx} {c : Ct} {tg iter tg1 iter1 tg2 iter2 elt : Expr} {pos : Pos} {pi pt pi1 pt1 pi2 pt2 pe : Bool} {mi mi1 mi2 : M (List D)} {t t1 t2 : D → Env → Option Env} {tst tst1 tst2 : M Bool} {me : M D} {scope : Scope} {own : List (Str × Nat)} {ifs ifs1 ifs2 : List Expr} {fb fb1 fb2 vs1 vs2 : List Nat}
abbrev HG (X : Cx) (c : Ct) (scope : Scope) (fb : List Nat) (tg : Expr) (t : D → Env → Option Env) : Prop := ∀ F H O σ (s : Shared) (Hb : Hp) (C : Addr) (cl : List (Str × Addr)) (fp : List Addr), PG (X.blk s Hb scope (compEnvC scope cl C X.env) fp) tg (tgD tg X.K (c.blk fb F H O σ) t)
abbrev HT (X : Cx) (c : Ct) (scope : Scope) (fb : List Nat) (ifs : List Expr) (pt : Bool) (tst : M Bool) : Prop := ∀ F H O σ (s : Shared) (Hb : Hp) (C : Addr) (cl : List (Str × Addr)) (fp : List Addr), PTs (X.blk s Hb scope (compEnvC scope cl C X.env) fp) ifs (tt X.K (c.blk fb F H O σ) pt tst)
abbrev HE (X : Cx) (c : Ct) (scope : Scope) (fb : List Nat) (e : Expr) (pe : Bool) (me : M D) : Prop := ∀ F H O σ (s : Shared) (Hb : Hp) (C : Addr) (cl : List (Str × Addr)) (fp : List Addr), PE (X.blk s Hb scope (compEnvC scope cl C X.env) fp) e (te X.K (c.blk fb F H O σ) false pe me)
abbrev HI (X : Cx) (c : Ct) (scope : Scope) (fb : List Nat) (tg iter : Expr) (pi : Bool) (mi : M (List D)) : Prop := ∀ F H O σ (s : Shared) (Hb : Hp) (C : Addr) (cl : List (Str × Addr)) (fp : List Addr), PI (X.blk s Hb scope (compEnvC scope cl C X.env) fp) tg iter (ti tg X.K (c.blk fb F H O σ) pi mi)
theorem blk_i (h : HI X c scope fb tg iter pi mi) : ∀ (s : Shared) (Hb : Hp) (C : Addr) (cl : List (Str × Addr)) (fp : List Addr), PI (X.blk s Hb scope (compEnvC scope cl C X.env) fp) tg iter (tiE tg X.K c fb pi mi) :=
 fun s H C cl fp => ⟨fun pins s' σ H' R I ⟨F0, H0, O0, σ0, q⟩ => (h F0 H0 O0 σ0 s H C cl fp).run pins s' σ H' R I q⟩
def mLc2 (vs : List Nat) (it : M (List D)) (t : D → Env → Option Env) (tst : M Bool) (vs1 : List Nat) (it1 : M (List D)) (t1 : D → Env → Option Env) (tst1 : M Bool) (e : M D) : M (List D) :=
 fun ρ => (mLcN ⟨vs, t, tst⟩ it (cIn ⟨vs1, t1, tst1⟩ it1 (cEnd e)) ρ).bind fun ys ρ1 => if ys.length ≤ sizeLine then .ok ys ρ1 else .bad
theorem sk_sc2 (hc : X.calm = true) (hN : X.N.Nodup) (hi : PI X tg iter (ti tg X.K c pi mi)) (ok : BlkOk X.N X.env.scope scope own) (hg : HG X c scope fb tg t) (ht : HT X c scope fb ifs pt tst) (hi1 : HI X c scope fb tg1 iter1 pi1 mi1) (hg1 : HG X c scope fb1 tg1 t1) (ht1 : HT X c scope fb1 ifs1 pt1 tst1) (he : HE X c scope fb1 elt pe me)
  (hs : ∀ x, foldedSetIterable iter X.env x = pure x := by intro _; rfl) (hs1 : ∀ env x, foldedSetIterable iter1 env x = pure x := by intro _ _; rfl)
  (hv : (vs1.all fun i => (own.map (·.2)).contains i) = true := by rfl) (hf : (fb.all fun i => fb1.contains i) = true := by rfl) (hvf : ((own.map (·.2)).all fun i => fb.all fun j => j != i) = true := by rfl) (hvf1 : (vs1.all fun i => fb1.all fun j => j != i) = true := by rfl)
  (hall : ((List.range X.N.length).all fun i => (own.map (·.2)).contains i || fb.contains i) = true := by rfl) (hall1 : ((List.range X.N.length).all fun i => vs1.contains i || fb1.contains i) = true := by rfl) (hcf : ((own.map (·.2)).all fun i => c.fx.all fun j => j != i) = true := by rfl) :
  PSk X (.SetComp elt [⟨tg, iter, ifs, 0⟩, ⟨tg1, iter1, ifs1, 0⟩] scope pos) (tkO X.prog X.w X.K c (pi && (pt && (pi1 && (pt1 && pe)))) (mSetC (mLcN ⟨own.map (·.2), t, tst⟩ mi (cIn ⟨vs1, t1, tst1⟩ mi1 (cEnd (mTxt me)))))) := by
 have hv' : ∀ i ∈ vs1, i ∈ own.map (·.2) := fun i hi => by simpa using List.all_eq_true.mp hv i hi
 have hf' : ∀ i ∈ fb, i ∈ fb1 := fun i hi => by simpa using List.all_eq_true.mp hf i hi
 have pus : (pi && (pt && (pi1 && (pt1 && pe)))) = true → pi = true ∧ pt = true ∧ pi1 = true ∧ pt1 = true ∧ pe = true := fun q => by simpa [Bool.and_eq_true] using q
 generalize (pi && (pt && (pi1 && (pt1 && pe)))) = pu at pus
 refine psk_imp (psk_sc (vs' := vs1) (body := fun D ce => inBody (.SetComp elt [⟨tg, iter, ifs, 0⟩, ⟨tg1, iter1, ifs1, 0⟩] scope pos) 1 iter1 (.ref D) ce) (below := fun D σ H Nx => ∃ Hs, Hs D = none ∧ FBel X.K c (HdS X.prog X.w D) (scanBound - 2) pu Hs D X.N.length fb vs1 (cIn ⟨vs1, t1, tst1⟩ mi1 (cEnd (mTxt me))) σ H Nx) hc hN hi ok (fun D ce => turn_in (fun it => rfl)) (blk_g hg) (blk_t ht) (fun D s Hb C cl fp => ?_) hv' hs) fun _ σ H Q hlen h =>
  top_set (X := X) (c := c) (cl := FC.mk (own.map fun p : Str × Nat => p.2) t tst) (n := X.N.length) hvf hall (fun _ h => h) hcf (fun q => ⟨(pus q).1, (pus q).2.1⟩) hlen h
 intro pins s' σ H Nx I ⟨Hs, hHs, q⟩
 refine body_in (c := ⟨tiE tg1 X.K c fb pi1 mi1, tgB tg1 X.K c fb1 t1, ttE X.K c fb1 pt1 tst1, vs1⟩) (g := ⟨tg1, iter1, ifs1, 0⟩) (vs' := []) plainC_set hc rfl rfl hs1 (fun it => rfl) (blk_i hi1 s Hb C cl fp) (blk_g hg1 s Hb C cl fp) (blk_t ht1 s Hb C cl fp)
  ((body_set (blk_e he s Hb C cl fp)).imp fun σ H Nx h => end_set (fun q => (pus q).2.2.2.2) hHs h) (fun _ h => by simp at h) pins s' σ H Nx I (in_step (cl := ⟨vs1, t1, tst1⟩) (fb2 := fb1) hdS_mono hvf1 hall1 hf' (fun _ h => h) (fun q => (pus q).2.2.2.1) (fun q => (pus q).2.2.1) q)
theorem sk_sc3 (hc : X.calm = true) (hN : X.N.Nodup) (hi : PI X tg iter (ti tg X.K c pi mi)) (ok : BlkOk X.N X.env.scope scope own) (hg : HG X c scope fb tg t) (ht : HT X c scope fb ifs pt tst) (hi1 : HI X c scope fb tg1 iter1 pi1 mi1) (hg1 : HG X c scope fb1 tg1 t1) (ht1 : HT X c scope fb1 ifs1 pt1 tst1)
  (hi2 : HI X c scope fb1 tg2 iter2 pi2 mi2) (hg2 : HG X c scope fb2 tg2 t2) (ht2 : HT X c scope fb2 ifs2 pt2 tst2) (he : HE X c scope fb2 elt pe me)
  (hs : ∀ x, foldedSetIterable iter X.env x = pure x := by intro _; rfl) (hs1 : ∀ env x, foldedSetIterable iter1 env x = pure x := by intro _ _; rfl) (hs2 : ∀ env x, foldedSetIterable iter2 env x = pure x := by intro _ _; rfl)
  (hv : (vs1.all fun i => (own.map (·.2)).contains i) = true := by rfl) (hv2 : (vs2.all fun i => vs1.contains i) = true := by rfl) (hf : (fb.all fun i => fb1.contains i) = true := by rfl) (hf2 : (fb1.all fun i => fb2.contains i) = true := by rfl) (hvf : ((own.map (·.2)).all fun i => fb.all fun j => j != i) = true := by rfl) (hvf1 : (vs1.all fun i => fb1.all fun j => j != i) = true := by rfl) (hvf2 : (vs2.all fun i => fb2.all fun j => j != i) = true := by rfl)
  (hall : ((List.range X.N.length).all fun i => (own.map (·.2)).contains i || fb.contains i) = true := by rfl) (hall1 : ((List.range X.N.length).all fun i => vs1.contains i || fb1.contains i) = true := by rfl) (hall2 : ((List.range X.N.length).all fun i => vs2.contains i || fb2.contains i) = true := by rfl) (hcf : ((own.map (·.2)).all fun i => c.fx.all fun j => j != i) = true := by rfl) :
  PSk X (.SetComp elt [⟨tg, iter, ifs, 0⟩, ⟨tg1, iter1, ifs1, 0⟩, ⟨tg2, iter2, ifs2, 0⟩] scope pos) (tkO X.prog X.w X.K c (pi && (pt && (pi1 && (pt1 && (pi2 && (pt2 && pe)))))) (mSetC (mLcN ⟨own.map (·.2), t, tst⟩ mi (cIn ⟨vs1, t1, tst1⟩ mi1 (cIn ⟨vs2, t2, tst2⟩ mi2 (cEnd (mTxt me))))))) := by
 have hv' : ∀ i ∈ vs1, i ∈ own.map (·.2) := fun i hi => by simpa using List.all_eq_true.mp hv i hi
 have hv2' : ∀ i ∈ vs2, i ∈ vs1 := fun i hi => by simpa using List.all_eq_true.mp hv2 i hi
 have hf' : ∀ i ∈ fb, i ∈ fb1 := fun i hi => by simpa using List.all_eq_true.mp hf i hi
 have hf2' : ∀ i ∈ fb1, i ∈ fb2 := fun i hi => by simpa using List.all_eq_true.mp hf2 i hi
 have pus : (pi && (pt && (pi1 && (pt1 && (pi2 && (pt2 && pe)))))) = true → pi = true ∧ pt = true ∧ pi1 = true ∧ pt1 = true ∧ pi2 = true ∧ pt2 = true ∧ pe = true := fun q => by simpa [Bool.and_eq_true] using q
 generalize (pi && (pt && (pi1 && (pt1 && (pi2 && (pt2 && pe)))))) = pu at pus
 refine psk_imp (psk_sc (vs' := vs1) (body := fun D ce => inBody (.SetComp elt [⟨tg, iter, ifs, 0⟩, ⟨tg1, iter1, ifs1, 0⟩, ⟨tg2, iter2, ifs2, 0⟩] scope pos) 1 iter1 (.ref D) ce) (below := fun D σ H Nx => ∃ Hs, Hs D = none ∧ FBel X.K c (HdS X.prog X.w D) (scanBound - 2) pu Hs D X.N.length fb vs1 (cIn ⟨vs1, t1, tst1⟩ mi1 (cIn ⟨vs2, t2, tst2⟩ mi2 (cEnd (mTxt me)))) σ H Nx) hc hN hi ok (fun D ce => turn_in (fun it => rfl)) (blk_g hg) (blk_t ht) (fun D s Hb C cl fp => ?_) hv' hs) fun _ σ H Q hlen h =>
  top_set (X := X) (c := c) (cl := FC.mk (own.map fun p : Str × Nat => p.2) t tst) (n := X.N.length) hvf hall (fun _ h => h) hcf (fun q => ⟨(pus q).1, (pus q).2.1⟩) hlen h
 intro pins s' σ H Nx I ⟨Hs, hHs, q⟩
 refine body_in (c := ⟨tiE tg1 X.K c fb pi1 mi1, tgB tg1 X.K c fb1 t1, ttE X.K c fb1 pt1 tst1, vs1⟩) (g := ⟨tg1, iter1, ifs1, 0⟩) (vs' := vs2) (below := FBel X.K c (HdS X.prog X.w D) (scanBound - 2) pu Hs D X.N.length fb1 vs2 (cIn ⟨vs2, t2, tst2⟩ mi2 (cEnd (mTxt me)))) plainC_set hc rfl rfl hs1 (turn_in fun it => rfl) (blk_i hi1 s Hb C cl fp) (blk_g hg1 s Hb C cl fp) (blk_t ht1 s Hb C cl fp)
  ?_ hv2' pins s' σ H Nx I (in_step (cl := ⟨vs1, t1, tst1⟩) (fb2 := fb1) hdS_mono hvf1 hall1 hf' (fun _ h => h) (fun q => (pus q).2.2.2.1) (fun q => (pus q).2.2.1) q)
 refine (body_in (c := ⟨tiE tg2 X.K c fb1 pi2 mi2, tgB tg2 X.K c fb2 t2, ttE X.K c fb2 pt2 tst2, vs2⟩) (g := ⟨tg2, iter2, ifs2, 0⟩) (vs' := []) (k := 2) plainC_set hc rfl rfl hs2 (fun it => rfl) (blk_i hi2 s Hb C cl fp) (blk_g hg2 s Hb C cl fp) (blk_t ht2 s Hb C cl fp)
  ((body_set (blk_e he s Hb C cl fp)).imp fun σ H Nx h => end_set (fun q => (pus q).2.2.2.2.2.2) hHs h) (fun _ h => by simp at h)).imp fun σ H Nx q => in_step (cl := ⟨vs2, t2, tst2⟩) (fb2 := fb2) hdS_mono hvf2 hall2 hf2' (fun _ h => h) (fun q => (pus q).2.2.2.2.2.1) (fun q => (pus q).2.2.2.2.1) q
end
end DL
end
section
namespace DL
open PySem PySem.Spec PyProof.Rows L2 PySem.W
def mPairE (k v : M D) : M D := fun ρ => (k ρ).bindN fun x ρ1 => (v ρ1).bindN fun y ρ2 => match keyOf x with
 | some _ => .ok (.tuple [x, y]) ρ2
 | none => .bad
def putP (kds : KD) (p : D) : KD := match p with
 | .tuple [x, y] => match keyOf x with
  | some j => putKD kds j y
  | none => kds
 | _ => kds
def kdsOf (acc : List D) : KD := acc.foldl putP []
section
variable {X : Cx} {c : Ct} {pk pv pu : Bool} {mk mv : M D} {fb : List Nat} {Hs : Hp} {D0 : Addr} {n : Nat}
end
def mDc (vs : List Nat) (it : M (List D)) (t : D → Env → Option Env) (tst : M Bool) (k v : M D) : M KD := fun ρ => (mLcN ⟨vs, t, tst⟩ it (cEnd (mPairE k v)) ρ).bind fun ys ρ1 => if ys.length ≤ sizeLine then .ok (kdsOf ys) ρ1 else .bad
def mDcO (m : M KD) : M OV := fun ρ => (m ρ).bind fun l ρ1 => .ok (.dct (l.map fun p => (kD p.1, p.2))) ρ1
def mDcF (m : M KD) : M D := fun ρ => (m ρ).bind fun l ρ1 => .ok (dK l) ρ1
section
variable {X : Cx} {c : Ct} {tg iter kx vx : Expr} {pos : Pos} {pi pt pk pv : Bool} {mi : M (List D)} {t : D → Env → Option Env} {tst : M Bool} {mk mv : M D} {scope : Scope} {own : List (Str × Nat)} {ifs : List Expr} {fb : List Nat}
end
def itemsP : D → Option (List D)
 | .dict kvs => match cells kvs with
  | some _ => none
  | none => some (kvs.map fun p => .tuple [p.1, p.2])
 | _ => none
def mItemsP (a : M D) : M (List D) := fun ρ => (a ρ).bind fun x ρ1 => ofO (itemsP x) ρ1
section
variable {X : Cx} {c : Ct} {e : Expr} {pu : Bool} {me : M D} {elts : List Expr} {kk : Nat} {tpos apos cpos : Pos}
end
end DL
end
section
namespace DL
open PySem PySem.Spec PyProof.Rows L2 PySem.W
def range3 (x y z : D) : Option (List D) := match x, y, z with
 | .int i, .int j, .int k => if 0 < k ∧ k < 2 ^ 20 ∧ -(2 ^ 20) < i ∧ i < 2 ^ 20 ∧ -(2 ^ 20) < j ∧ j < 2 ^ 20 then some ((List.range ((j - i + k - 1) / k).toNat).map fun m => .int (i + (m : Nat) * k)) else none
 | _, _, _ => none
def mRange3 (a b c : M D) : M (List D) := fun ρ => (a ρ).bind fun x ρ1 => (b ρ1).bind fun y ρ2 => (c ρ2).bind fun z ρ3 => ofO (range3 x y z) ρ3
def enumA : D → Option (List D)
 | .list xs => some (enumD xs)
 | .tuple xs => some (enumD xs)
 | _ => none
def mEnumA (a : M D) : M (List D) := fun ρ => (a ρ).bind fun x ρ1 => ofO (enumA x) ρ1
def ltS (a b : Str) : Bool := decide (a.cps.toList < b.cps.toList)
def seqOf : D → Option (List D)
 | .list xs => some xs
 | .tuple xs => some xs
 | _ => none
def bestD (p : Str → Str → Bool) (q : Int → Int → Bool) (x : D) : Option D := (seqOf x).bind fun xs => match allStr xs with
 | some (z :: l) => some (.str (l.foldl (fun a b => if p b a = true then b else a) z))
 | _ => match intsD xs with
  | some (z :: l) => some (.int (l.foldl (fun a b => if q b a = true then b else a) z))
  | _ => none
def mnD (x : D) : Option D := bestD ltS (fun a b => decide (a < b)) x
def mxD (x : D) : Option D := bestD (fun a b => ltS b a) (fun a b => decide (b < a)) x
def mSetOr (a b : M (List Str)) : M (List Str) := fun ρ => (a ρ).bind fun l ρ1 => (b ρ1).bind fun m ρ2 => if l.length + m.length ≤ 30 then .ok (l ++ m) ρ2 else .bad
section
variable {α β : Type}
@[simp] theorem mRange3_d (a b c : M D) (ρ : Env) : mRange3 a b c ρ = (a ρ).bind fun x ρ1 => (b ρ1).bind fun y ρ2 => (c ρ2).bind fun z ρ3 => ofO (range3 x y z) ρ3 := rfl
@[simp] theorem mEnumA_d (a : M D) (ρ : Env) : mEnumA a ρ = (a ρ).bind fun x ρ1 => ofO (enumA x) ρ1 := rfl
@[simp] theorem mSetOr_d (a b : M (List Str)) (ρ : Env) : mSetOr a b ρ = (a ρ).bind fun l ρ1 => (b ρ1).bind fun m ρ2 => if l.length + m.length ≤ 30 then .ok (l ++ m) ρ2 else .bad := rfl
@[simp] theorem mItemsP_d (a : M D) (ρ : Env) : mItemsP a ρ = (a ρ).bind fun x ρ1 => ofO (itemsP x) ρ1 := rfl
@[simp] theorem mDcF_d (m : M KD) (ρ : Env) : mDcF m ρ = (m ρ).bind fun l ρ1 => .ok (dK l) ρ1 := rfl
@[simp] theorem mDcO_d (m : M KD) (ρ : Env) : mDcO m ρ = (m ρ).bind fun l ρ1 => .ok (.dct (l.map fun p => (kD p.1, p.2))) ρ1 := rfl
@[simp] theorem mSetC_d (m : M (List D)) (ρ : Env) : mSetC m ρ = (m ρ).bind fun ys ρ1 => if ys.length ≤ scanBound - 2 then ofO (allStr ys) ρ1 else .bad := rfl
@[simp] theorem bindN_some (a : α) (ρ : Env) (k : α → Env → Res β) : (Res.ok a ρ).bindN k = k a ρ := rfl
theorem mLcN_of {c : FC} {it : M (List D)} {b : M (List D)} {ρ ρ1 : Env} {xs ys : List D} (h1 : it ρ = .ok xs ρ1) (hd : dataAt ρ1 c.vs = true) (h2 : cLoop c b xs (wipeE ρ1 c.vs) = .ok ys (wipeE ρ1 c.vs)) : mLcN c it b ρ = .ok ys (backE ρ1 c.vs (wipeE ρ1 c.vs)) := by
 unfold mLcN
 simp only [h1, bind_ok, hd, if_true, h2, bindN_ok]
end
end DL
end
section
namespace DL
open PySem PySem.Spec PyProof.Rows L2 PySem.W
open PySem.AutoSeq1 (wpAny_loadPart')
section
variable {prog : Program} {w : World} {A : Around} {E : Value → Shared → Prop} {s : Shared}
end
section
variable {X : Cx} {c : Ct} {e : Expr} {pu : Bool} {me : M D} {elts : List Expr} {kk : Nat} {tpos pos p : Pos}
end
end DL
end
section
namespace DL
open PySem PySem.Spec PyProof.Rows L2 PySem.W
theorem fold_str (z : Str) (l : List Str) : PySem.W.minD (.str z) (l.map .str) = .str (l.foldl (fun a b => if ltS b a = true then b else a) z) ∧ PySem.W.maxD (.str z) (l.map .str) = .str (l.foldl (fun a b => if ltS a b = true then b else a) z) := by
 unfold PySem.W.minD PySem.W.maxD
 constructor
 ·induction l generalizing z with
  | nil => rfl
  | cons y l ih =>
   rw [List.map_cons, List.foldl_cons, List.foldl_cons, dataLt_str]
   have : (if decide (y.cps.toList < z.cps.toList) = true then PyData.str y else .str z) = .str (if ltS y z = true then y else z) := by unfold ltS; split <;> rfl
   rw [this]
   exact ih _
 ·induction l generalizing z with
  | nil => rfl
  | cons y l ih =>
   rw [List.map_cons, List.foldl_cons, List.foldl_cons, dataLt_str]
   have : (if decide (z.cps.toList < y.cps.toList) = true then PyData.str y else .str z) = .str (if ltS z y = true then y else z) := by unfold ltS; split <;> rfl
   rw [this]
   exact ih _
theorem fold_int (z : Int) (l : List Int) : PySem.W.minD (.int z) (l.map .int) = .int (l.foldl (fun a b => if decide (b < a) = true then b else a) z) ∧ PySem.W.maxD (.int z) (l.map .int) = .int (l.foldl (fun a b => if decide (a < b) = true then b else a) z) := by
 unfold PySem.W.minD PySem.W.maxD
 constructor
 ·induction l generalizing z with
  | nil => rfl
  | cons y l ih =>
   rw [List.map_cons, List.foldl_cons, List.foldl_cons, dataLt_int]
   have : (if decide (y < z) = true then PyData.int y else .int z) = .int (if decide (y < z) = true then y else z) := by split <;> rfl
   rw [this]
   exact ih _
 ·induction l generalizing z with
  | nil => rfl
  | cons y l ih =>
   rw [List.map_cons, List.foldl_cons, List.foldl_cons, dataLt_int]
   have : (if decide (z < y) = true then PyData.int y else .int z) = .int (if decide (z < y) = true then y else z) := by split <;> rfl
   rw [this]
   exact ih _
theorem allStr_eq : ∀ {xs : List D} {l : List Str}, allStr xs = some l → xs = l.map .str
 | [], _, h => by cases h; rfl
 | .str x :: xs, l, h => by
  obtain ⟨l', h1, rfl⟩ := Option.map_eq_some_iff.mp (show (allStr xs).map (fun l => x :: l) = some l from h)
  rw [allStr_eq h1]; rfl
 | .none :: _, _, h => by cases h
 | .bool _ :: _, _, h => by cases h
 | .int _ :: _, _, h => by cases h
 | .list _ :: _, _, h => by cases h
 | .tuple _ :: _, _, h => by cases h
 | .dict _ :: _, _, h => by cases h
theorem intsD_eq : ∀ {xs : List D} {l : List Int}, intsD xs = some l → xs = l.map .int
 | [], _, h => by cases h; rfl
 | .int x :: xs, l, h => by
  obtain ⟨l', h1, rfl⟩ := Option.map_eq_some_iff.mp (show (intsD xs).map (x :: ·) = some l from h)
  rw [intsD_eq h1]; rfl
 | .none :: _, _, h => by cases h
 | .bool _ :: _, _, h => by cases h
 | .str _ :: _, _, h => by cases h
 | .list _ :: _, _, h => by cases h
 | .tuple _ :: _, _, h => by cases h
 | .dict _ :: _, _, h => by cases h
def FlatRow (ds : List D) : Prop := (∃ z, ∃ l : List Str, ds = .str z :: l.map .str) ∨ ∃ z, ∃ l : List Int, ds = .int z :: l.map .int
theorem best_row {p : Str → Str → Bool} {q : Int → Int → Bool} {x r : D} (h : bestD p q x = some r) : ∃ ds, seqOf x = some ds ∧ FlatRow ds := by
 obtain ⟨ds, h1, h2⟩ := Option.bind_eq_some_iff.mp h
 refine ⟨ds, h1, ?_⟩
 cases e : allStr ds with
 | some l =>
  have hd := allStr_eq e
  cases l with
  | nil =>
   rw [e] at h2
   subst hd
   cases h2
  | cons z l => exact .inl ⟨z, l, hd⟩
 | none =>
  rw [e] at h2
  cases e2 : intsD ds with
  | none => simp only [e2] at h2; cases h2
  | some l =>
   have hd := intsD_eq e2
   cases l with
   | nil => simp only [e2] at h2; cases h2
   | cons z l => exact .inr ⟨z, l, hd⟩
theorem row_alike {ds : List D} (h : FlatRow ds) : AlikeAll ds := by
 rcases h with ⟨z, l, rfl⟩ | ⟨z, l, rfl⟩
 ·refine ⟨fun x hx y hy => ?_, fun x hx => ?_⟩
  ·have a : ∀ x ∈ (PyData.str z :: l.map PyData.str), ∃ s, x = .str s := fun x hx => by
    rcases List.mem_cons.mp hx with rfl | hx
    ·exact ⟨_, rfl⟩
    ·obtain ⟨s, _, rfl⟩ := List.mem_map.mp hx; exact ⟨_, rfl⟩
   obtain ⟨s, rfl⟩ := a x hx
   obtain ⟨t, rfl⟩ := a y hy
   rfl
  ·rcases List.mem_cons.mp hx with rfl | hx
   ·exact fun z => by cases z
   ·obtain ⟨s, _, rfl⟩ := List.mem_map.mp hx; exact fun z => by cases z
 ·refine ⟨fun x hx y hy => ?_, fun x hx => ?_⟩
  ·have a : ∀ x ∈ (PyData.int z :: l.map PyData.int), ∃ s, x = .int s := fun x hx => by
    rcases List.mem_cons.mp hx with rfl | hx
    ·exact ⟨_, rfl⟩
    ·obtain ⟨s, _, rfl⟩ := List.mem_map.mp hx; exact ⟨_, rfl⟩
   obtain ⟨s, rfl⟩ := a x hx
   obtain ⟨t, rfl⟩ := a y hy
   rfl
  ·rcases List.mem_cons.mp hx with rfl | hx
   ·exact fun z => by cases z
   ·obtain ⟨s, _, rfl⟩ := List.mem_map.mp hx; exact fun z => by cases z
theorem row_depth {ds : List D} (h : FlatRow ds) : PyData.depthAll ds = 0 := by
 have gen : ∀ ds : List D, (∀ x ∈ ds, x.depth = 0) → PyData.depthAll ds = 0 := by
  intro ds
  induction ds with
  | nil => intro _; rw [PyData.depthAll]
  | cons x ds ih =>
   intro k
   rw [PyData.depthAll, k x List.mem_cons_self, ih fun y hy => k y (List.mem_cons_of_mem _ hy)]
   rfl
 refine gen ds fun x hx => ?_
 rcases h with ⟨z, l, rfl⟩ | ⟨z, l, rfl⟩
 ·rcases List.mem_cons.mp hx with rfl | hx
  ·rw [PyData.depth]
  ·obtain ⟨s, _, rfl⟩ := List.mem_map.mp hx; rw [PyData.depth]
 ·rcases List.mem_cons.mp hx with rfl | hx
  ·rw [PyData.depth]
  ·obtain ⟨s, _, rfl⟩ := List.mem_map.mp hx; rw [PyData.depth]
theorem row_reads {X : Cx} {pins : List (Addr × Obj)} {σ : Sl} {H F : Hp} {s : Shared} (I : L2.Inv X pins σ H s) (sm : Same F H) {ds : List D} (h : FlatRow ds) {vs : List V} {us : List Value} (r : RpAll X.K F vs ds) (rv : Vals vs us) : ∃ as, ReadsAll s.heap us ds as := by
 have gen : ∀ {ds : List D} {vs : List V} {us : List Value}, (∀ x ∈ ds, (∃ s, x = .str s) ∨ ∃ i, x = .int i) → RpAll X.K F vs ds → Vals vs us → ∃ as, ReadsAll s.heap us ds as := by
  intro ds
  induction ds with
  | nil =>
   intro vs us _ r rv
   cases r; cases rv
   exact ⟨_, .nil⟩
  | cons x ds ih =>
   intro vs us k r rv
   cases r with
   | cons r1 r2 =>
    cases rv with
    | cons v1 v2 =>
     obtain ⟨as, h2⟩ := ih (fun y hy => k y (List.mem_cons_of_mem _ hy)) r2 v2
     rcases k x List.mem_cons_self with ⟨t, rfl⟩ | ⟨i, rfl⟩
     ·cases r1
      obtain ⟨t', rfl⟩ := v1
      exact ⟨_, .cons (.str _ _) h2⟩
     ·cases r1
      obtain ⟨t', rfl⟩ := v1
      exact ⟨_, .cons (.int _ _) h2⟩
 refine gen (fun x hx => ?_) r rv
 rcases h with ⟨z, l, rfl⟩ | ⟨z, l, rfl⟩
 ·rcases List.mem_cons.mp hx with rfl | hx
  ·exact .inl ⟨_, rfl⟩
  ·obtain ⟨s, _, rfl⟩ := List.mem_map.mp hx; exact .inl ⟨_, rfl⟩
 ·rcases List.mem_cons.mp hx with rfl | hx
  ·exact .inr ⟨_, rfl⟩
  ·obtain ⟨s, _, rfl⟩ := List.mem_map.mp hx; exact .inr ⟨_, rfl⟩
theorem mn_eq {x : D} {y : D} {ys : List D} (hs : seqOf x = some (y :: ys)) (h : FlatRow (y :: ys)) : mnD x = some (PySem.W.minD y ys) ∧ mxD x = some (PySem.W.maxD y ys) := by
 unfold mnD mxD bestD
 rw [hs]
 have sm : ∀ l : List Str, allStr (l.map .str) = some l := by
  intro l
  induction l with
  | nil => rfl
  | cons a l ih => show (allStr (l.map .str)).map _ = _; rw [ih]; rfl
 have im : ∀ l : List Int, intsD (l.map .int) = some l := by
  intro l
  induction l with
  | nil => rfl
  | cons a l ih => show (intsD (l.map .int)).map _ = _; rw [ih]; rfl
 rcases h with ⟨z, l, e⟩ | ⟨z, l, e⟩
 ·cases e
  have := sm (z :: l)
  rw [List.map_cons] at this
  rw [(fold_str z l).1, (fold_str z l).2]
  simp only [Option.bind_some, this]
  exact ⟨trivial, trivial⟩
 ·cases e
  have := im (z :: l)
  rw [List.map_cons] at this
  have n : allStr (PyData.int z :: l.map .int) = none := rfl
  rw [(fold_int z l).1, (fold_int z l).2]
  simp only [Option.bind_some, this, n]
  exact ⟨trivial, trivial⟩
theorem reads_flat {h : Heap} {v : Value} {y : D} {ys : List D} {bs : List Addr} (hf : FlatRow (y :: ys)) (mx : Bool) (r : Reads h v (if mx = true then PySem.W.maxD y ys else PySem.W.minD y ys) bs) : ∃ u, RelV u v ∧ ∀ K F, Rp K F u (if mx = true then PySem.W.maxD y ys else PySem.W.minD y ys) := by
 rcases hf with ⟨z, l, e⟩ | ⟨z, l, e⟩
 ·cases e
  rw [(fold_str z l).1, (fold_str z l).2] at r ⊢
  cases mx with
  | true => simp only [if_true] at r ⊢; cases r; exact ⟨.str _, ⟨_, rfl⟩, fun _ _ => .str _⟩
  | false => simp only [Bool.false_eq_true, if_false] at r ⊢; cases r; exact ⟨.str _, ⟨_, rfl⟩, fun _ _ => .str _⟩
 ·cases e
  rw [(fold_int z l).1, (fold_int z l).2] at r ⊢
  cases mx with
  | true => simp only [if_true] at r ⊢; cases r; exact ⟨.int _, ⟨_, rfl⟩, fun _ _ => .int _⟩
  | false => simp only [Bool.false_eq_true, if_false] at r ⊢; cases r; exact ⟨.int _, ⟨_, rfl⟩, fun _ _ => .int _⟩
theorem cd_max {X : Cx} (hc : X.calm = true) (hu : X.A.units + 66 < cLine) : CallR X (.builtin "max") (rD1 X.K mxD) := by
 intro pins s σ H vs us Q I rv ⟨F, v, x, z, hv, sm, rx, hz, q⟩
 subst hv
 obtain ⟨ds, hs, hf⟩ := best_row hz
 cases ds with
 | nil => rcases hf with ⟨_, _, e⟩ | ⟨_, _, e⟩ <;> cases e
 | cons y ys =>
  have ez := (mn_eq hs hf).2
  have ez : PySem.W.maxD y ys = z := Option.some.inj (ez.symm.trans hz)
  have al := row_alike hf
  have dp := row_depth hf
  have fin : ∀ (s' : Shared) (u : Value) (bs : List Addr), L2.Inv X pins σ H s' → Reads s'.heap u (PySem.W.maxD y ys) bs → EP X pins σ Q u s' := fun s' u bs I' r => by
   obtain ⟨u', r1, r2⟩ := reads_flat hf true r
   exact ⟨u', H, I', r1, q F H u' (New.refl sm) (by rw [← ez]; exact r2 X.K F)⟩
  cases x with
  | list xs =>
   cases hs
   obtain ⟨p, ws, rfl, h1, r1⟩ := inv_list sm rx
   rw [Vals.ref1 rv]
   obtain ⟨its, ri, hl, hz'⟩ := I.list (.of h1)
   obtain ⟨as, rd⟩ := row_reads I sm hf r1 ri
   exact max_list_data (I.ok.hd hc) hl.isList (by simpa using rd) al (by rw [dp]; omega) fun i u h' tk bs _ r k => fin _ u bs (I.kept (t' := tk) k) r
  | tuple xs =>
   cases hs
   obtain ⟨p, ws, rfl, h1, r1⟩ := inv_tup rx
   rw [Vals.ref1 rv]
   obtain ⟨its, ri, hl, hz'⟩ := I.tuple (sq_t sm h1.seq)
   obtain ⟨as, rd⟩ := row_reads I sm hf r1 ri
   exact max_tuple_data (I.ok.hd hc) hl (by simpa using rd) al (by rw [dp]; omega) fun i u h' tk bs _ r k => fin _ u bs (I.kept (t' := tk) k) r
  | _ => cases hs
end DL
end
section
namespace DL
open PySem PySem.Spec PyProof.Rows L2 PySem.W
mutual
def flatB : PyData → Bool
 | .none => true
 | .bool _ => true
 | .int _ => true
 | .str _ => true
 | .tuple xs => flatL xs
 | _ => false
def flatL : List PyData → Bool
 | [] => true
 | x :: xs => flatB x && flatL xs
end
section
variable {K : Frag} {F : Hp} {p : Addr} {ws : List V}
end
def okSlot (k : Bool) : Option OV → Option OV → Prop
 | _, none => True
 | a, some (.d x) => flatB x = true ∨ (k = true ∧ a = some (.d x))
 | _, some (.lst ys) => flatL ys = true
 | _, _ => False
def okSlots (i : Nat) (fb : List Nat) : Nat → Env → Env → Prop
 | n, a :: ρ, b :: ρ' => (n = i ∨ okSlot (fb.contains n) a b) ∧ okSlots i fb (n + 1) ρ ρ'
 | _, [], [] => True
 | _, _, _ => False
theorem okSlots_at {i : Nat} {fb : List Nat} : ∀ {n : Nat} {ρ ρ' : Env}, okSlots i fb n ρ ρ' → ∀ {j : Nat} {b : Option OV}, ρ'[j]? = some b → ∃ a, ρ[j]? = some a ∧ (n + j = i ∨ okSlot (fb.contains (n + j)) a b)
 | n, a :: ρ, b :: ρ', h, 0, b', e => by
  simp at e
  subst e
  exact ⟨a, rfl, h.1⟩
 | n, a :: ρ, b :: ρ', h, j + 1, b', e => by
  obtain ⟨a', k1, k2⟩ := okSlots_at h.2 (j := j) (b := b') (by simpa using e)
  refine ⟨a', by simpa using k1, ?_⟩
  rw [show n + (j + 1) = n + 1 + j from by omega]
  exact k2
 | n, [], [], _, j, b', e => by simp at e
 | n, [], _ :: _, h, _, _, _ => h.elim
 | n, _ :: _, [], h, _, _, _ => h.elim
open Classical in
noncomputable def sTmp (i : Nat) (fb : List Nat) (b : M Fl) : M Fl := fun ρ => match ρ[i]? with
 | some (some (.lst xs)) => match b (ρ.set i (some (.d (.list xs)))) with
  | .ok .nx ρ' => if ρ'[i]? = some (some (.d (.list xs))) ∧ okSlots i fb 0 (ρ.set i (some (.d (.list xs)))) ρ' then .ok .nx (ρ'.set i (some (.lst xs))) else .bad
  | _ => .bad
 | _ => .bad
section
variable {K : Frag} {ca : Str → Addr} {F F2 H : Hp}
end
section
variable {X : Cx} {c : Ct} {st : Stmt} {b : M Fl}
end
end DL
end
section
namespace DL
open PySem PySem.Spec PyProof.Rows L2 PySem.W
section
variable {m : Nat} {owner : Array (Option Nat)}
structure Ow (m n : Nat) (owner : Array (Option Nat)) : Prop where
 sz : owner.size = m + 1
 all : ∀ k, k < n → ∃ j, j ≤ m ∧ oAt owner j = some k
 ps : ∃ ps : List Nat, ps.length = n ∧ ∀ j, j ≤ m → oAt owner j ≠ none → j ∈ ps
end
end DL
end
section
namespace DL
open PySem PySem.Spec PyProof.Rows L2 PySem.W
section
variable {κ : Type} [DecidableEq κ] {P : Program} {w : World} {knd : KeyKind P w κ} {A : Around} {E : Value → Shared → Prop} {s : Shared} {a b : Addr} {ks ksA ksB : List κ} {es esA esB : Array (Int × Value)} {ep epA epB : Nat} {t tA tB : SetTable}
end
end DL
end
section
namespace DL
open PySem PySem.Spec PyProof.Rows L2 PySem.W
section
variable {κ : Type} [DecidableEq κ] {P : Program} {w : World} {knd : KeyKind P w κ} {A : Around} {E : Value → Shared → Prop} {s : Shared} {a b : Addr} {ks ksA ksB : List κ} {es esA esB : Array (Int × Value)} {ep epA epB : Nat} {t tA tB : SetTable}
end
end DL
end
section
namespace DL
open PySem PySem.Spec PyProof.Rows L2 PySem.W
section
variable {κ : Type} [DecidableEq κ] {P : Program} {w : World} {knd : KeyKind P w κ} {A : Around} {E : Value → Shared → Prop} {s : Shared} {a b : Addr} {ks ksA ksB : List κ} {es esA esB : Array (Int × Value)} {ep epA epB : Nat} {t tA tB : SetTable}
end
end DL
end
section
namespace DL
open PySem PySem.Spec PyProof.Rows L2 PySem.W
section
variable {X : Cx} {c : Ct} {e1 e2 : Expr} {pos : Pos} {p1 p2 : Bool} {m1 m2 : M (List Str)}
end
end DL
end
section
namespace DL
open PySem PySem.Spec PyProof.Rows L2 PySem.W
section
variable {X : Cx} {c : Ct} {a b : Expr} {p2 pos : Pos} {ka kb pa pb : Bool} {ma mb : M D} {tg e1 e2 e3 : Expr} {q1 q2 q3 : Bool} {m1 m2 m3 : M D}
end
end DL
end
section
namespace DL
open PySem PySem.Spec PyProof.Rows L2 PySem.W
def PGx (K : Frag) (c : Ct) (F H : Hp) (σ : Sl) (Q : List V → Hp → Prop) (z : List AV × OV) (ρ' : Env) : Prop :=
 ∀ F' H' O' A vs v, EnvR K c F' H' σ ρ' O' → Same F F' → AvAll K F' σ vs z.1 → OwR K c.ca F' H' v z.2 A → Apart c F' A O' → Q (vs ++ [v]) H'
def tgt (K : Frag) (c : Ct) (m : M (List AV × OV)) : TA := fun σ H Q => ∃ F ρ O, EnvR K c F H σ ρ O ∧ (m ρ).post (PGx K c F H σ Q) (PX K c σ)
def gT (mo : M OV) : M (List AV × OV) := fun ρ => (mo ρ).bind fun o ρ1 => .ok ([], o) ρ1
def gDt (a : M D) (r : M (List AV × OV)) : M (List AV × OV) := fun ρ => (a ρ).bind fun x ρ1 => (r ρ1).bind fun z ρ2 => .ok (.d x :: z.1, z.2) ρ2
def gOt (i : Nat) (r : M (List AV × OV)) : M (List AV × OV) := fun ρ => match ρ[i]? with
 | some (some _) => (r ρ).bind fun z ρ2 => .ok (.o i :: z.1, z.2) ρ2
 | _ => .bad
def callEndT (f : Fn) (z : List AV × OV) (y : Option (List OV × Env)) : Res OV := match y with
 | none => .bad
 | some y => callRf z.1 y.2 (f (y.1 ++ [z.2]))
def mCallT (f : Fn) (m : M (List AV × OV)) : M OV := fun ρ => (m ρ).bind fun z ρ1 => callEndT f z (gather ρ1 z.1)
@[simp] theorem gT_d (mo : M OV) (ρ : Env) : gT mo ρ = (mo ρ).bind fun o ρ1 => .ok ([], o) ρ1 := rfl
@[simp] theorem gDt_d (a : M D) (r : M (List AV × OV)) (ρ : Env) : gDt a r ρ = (a ρ).bind fun x ρ1 => (r ρ1).bind fun z ρ2 => .ok (.d x :: z.1, z.2) ρ2 := rfl
@[simp] theorem gOt_d (i : Nat) (r : M (List AV × OV)) (ρ : Env) : gOt i r ρ = match ρ[i]? with
 | some (some _) => (r ρ).bind fun z ρ2 => .ok (.o i :: z.1, z.2) ρ2
 | _ => .bad := rfl
@[simp] theorem mCallT_d (f : Fn) (m : M (List AV × OV)) (ρ : Env) : mCallT f m ρ = (m ρ).bind fun z ρ1 => callEndT f z (gather ρ1 z.1) := rfl
@[simp] theorem callEndT_d (f : Fn) (z : List AV × OV) (y : List OV × Env) : callEndT f z (some y) = callRf z.1 y.2 (f (y.1 ++ [z.2])) := rfl
section
variable {X : Cx} {c : Ct} {e : Expr} {es : List Expr} {pos p : Pos} {p1 p2 pu : Bool} {me : M D} {ms : M (List AV × OV)} {mo : M OV} {k : Nat} {f : Addr} {fd : FuncData} {ps : List Str} {fn : Fn} {x : Str}
theorem tgt_step {K : Frag} {α : Type} {F H : Hp} {σ : Sl} {ρ : Env} {O : List Addr} {m : M (List AV × OV)} {k : List AV × OV → Env → Res α} {P : α → Env → Prop} {Q : List V → Hp → Prop} (e : EnvR K c F H σ ρ O) (h : ((m ρ).bind k).post P (PX K c σ))
  (q : ∀ z ρ1 F1 H1 O1 A vs v, (k z ρ1).post P (PX K c σ) → EnvR K c F1 H1 σ ρ1 O1 → Same F F1 → AvAll K F1 σ vs z.1 → OwR K c.ca F1 H1 v z.2 A → Apart c F1 A O1 → Q (vs ++ [v]) H1) : tgt K c m σ H Q :=
 ⟨F, ρ, O, e, Res.post_imp (Res.post_bind h) (fun z ρ1 h1 F1 H1 O1 A vs v e1 s1 r1 o1 a1 => q z ρ1 F1 H1 O1 A vs v h1 e1 s1 r1 o1 a1) fun _ _ h => h⟩
theorem sgt_t (ho : PE X e (to X.K c mo)) (hs : starEach [e] X.env = (false, eval e X.env) :: starEach [] X.env := by rfl) : PA X [e] (tgt X.K c (gT mo)) :=
 (pa_cons ho pa_nil hs).imp fun σ H Q ⟨F, ρ, O, e, h⟩ => to_step e h fun o ρ1 F1 H1 O1 A v h1 e1 s1 r1 a1 => h1 F1 H1 O1 A [] v e1 s1 .nil r1 a1
theorem sgt_d (ha : PE X e (te X.K c false p1 me)) (hr : PA X es (tgt X.K c ms)) (hs : starEach (e :: es) X.env = (false, eval e X.env) :: starEach es X.env := by rfl) : PA X (e :: es) (tgt X.K c (gDt me ms)) :=
 (pa_cons ha hr hs).imp fun σ H Q ⟨F, ρ, O, e, h⟩ => te_step e h fun x ρ1 F1 H1 O1 v h1 e1 s1 q1 v1 => tgt_step e1 h1 fun z ρ2 F2 H2 O2 A vs w h2 e2 s2 v2 o2 a2 => h2 F2 H2 O2 A (v :: vs) w e2 (s1.trans s2) (.d (Rp.mono s2 v1) v2) o2 a2
theorem sgt_o (i : Nat) {x : Str} {np : Pos} (hr : PA X es (tgt X.K c ms)) (hN : X.N[i]? = some x := by rfl) (hv : Vis X.env.scope x := by first | exact Or.inl rfl | exact Or.inr (Or.inl rfl) | exact Or.inr (Or.inr rfl)) (hd : (x == ("__debug__" : Str)) = false := by decide)
  (hcd : (x == ("__classdict__" : Str)) = false := by decide) (hs : starEach (Expr.Name x np :: es) X.env = (false, eval (Expr.Name x np) X.env) :: starEach es X.env := by rfl) : PA X (.Name x np :: es) (tgt X.K c (gOt i ms)) :=
 (pa_cons (pe_var hN hv hd hcd) hr hs).imp fun σ H Q ⟨F, ρ, O, e, h⟩ => by
  unfold gOt at h
  cases q : ρ[i]? with
  | none => rw [q] at h; exact h.elim
  | some w =>
   rw [q] at h
   cases w with
   | none => exact h.elim
   | some o =>
    obtain ⟨v, A, h1, h2⟩ := e.var q
    exact ⟨v, h1, tgt_step e h fun z ρ2 F2 H2 O2 A2 vs u h2 e2 s2 v2 o2 a2 => h2 F2 H2 O2 A2 (v :: vs) u e2 s2 (.o h1 v2) o2 a2⟩
theorem slR_snoc {K : Frag} {ca : Str → Addr} {F H : Hp} {v : V} {o : OV} {B : List Addr} (r : OwR K ca F H v o B) : ∀ {σ : Sl} {ρ : Env} {A : List Addr}, SlR K ca F H σ ρ A → SlR K ca F H (σ ++ [some v]) (ρ ++ [some o]) (A ++ B)
 | _, _, _, .nil => by
  have := SlR.so r (SlR.nil (K := K) (ca := ca) (F := F) (H := H))
  simpa using this
 | _, _, _, .no s => .no (slR_snoc r s)
 | _, _, _, .so h s => by
  rw [List.cons_append, List.cons_append, List.append_assoc]
  exact .so h (slR_snoc r s)
theorem slR_init {K : Frag} {ca : Str → Addr} {F H : Hp} {v : Option V} {σ : Sl} : ∀ {outs : Env} {B : List Addr}, SlR K ca F H (σ ++ [v]) outs B → ∃ o1 z B1 B2, outs = o1 ++ [z] ∧ B = B1 ++ B2 ∧ SlR K ca F H σ o1 B1 := by
 induction σ with
 | nil =>
  intro outs B h
  have h : SlR K ca F H [v] outs B := h
  cases h with
  | no s => cases s; exact ⟨[], none, [], [], rfl, rfl, .nil⟩
  | so r s => cases s; exact ⟨[], some _, [], _, rfl, rfl, .nil⟩
 | cons w σ ih =>
  intro outs B h
  have h : SlR K ca F H (w :: (σ ++ [v])) outs B := h
  cases h with
  | no s =>
   obtain ⟨o1, z, B1, B2, rfl, rfl, r⟩ := ih s
   exact ⟨none :: o1, z, B1, B2, rfl, rfl, .no r⟩
  | so q s =>
   obtain ⟨o1, z, B1, B2, rfl, rfl, r⟩ := ih s
   exact ⟨some _ :: o1, z, _ ++ B1, B2, rfl, by rw [List.append_assoc], .so q r⟩
theorem putBack_more : ∀ (as : List AV) (ρ o1 : Env) (z : Option OV), o1.length = as.length → putBack ρ as (o1 ++ [z]) = putBack ρ as o1
 | [], ρ, [], z, _ => rfl
 | .d _ :: as, ρ, y :: o1, z, h => putBack_more as ρ o1 z (by simpa using h)
 | .o i :: as, ρ, y :: o1, z, h => putBack_more as (ρ.set i y) o1 z (by simpa using h)
theorem AvAll.len {K : Frag} {F : Hp} {σ : Sl} : ∀ {vs : List V} {as : List AV}, AvAll K F σ vs as → vs.length = as.length
 | _, _, .nil => rfl
 | _, _, .d _ h => by rw [List.length_cons, List.length_cons, h.len]
 | _, _, .o _ h => by rw [List.length_cons, List.length_cons, h.len]
theorem call_inT {K : Frag} {f : Fn} {F H : Hp} {σ : Sl} {ρ : Env} {O A0 : List Addr} {as : List AV} {o0 : OV} {vs : List V} {v0 : V} {Q : VK} {P : OV → Env → Prop} (e : EnvR K c F H σ ρ O) (r : AvAll K F σ vs as) (r0 : OwR K c.ca F H v0 o0 A0) (a0 : Apart c F A0 O)
  (h : (callEndT f (as, o0) (gather ρ as)).post P (PX K c σ)) (hP : ∀ o ρ' F' H' O' A v, P o ρ' → EnvR K c F' H' σ ρ' O' → Same F F' → OwR K c.ca F' H' v o A → Apart c F' A O' → Q v H') : spF K c.ca f (vs ++ [v0]) H Q (WE c.W σ) := by
 cases g : gather ρ as with
 | none => rw [g] at h; exact h.elim
 | some z =>
  obtain ⟨os, ρ2⟩ := z
  rw [g] at h
  have h : (callRf as ρ2 (f (os ++ [o0]))).post P (PX K c σ) := h
  obtain ⟨A1, R, k1, k2, k3, k4⟩ := gather_ok g r e
  obtain ⟨m1, m2, m3⟩ := List.nodup_append.mp a0.nd
  obtain ⟨j1, j2, j3⟩ := List.nodup_append.mp k3.nd
  -- all that is lent
  have ka : SlR K c.ca F H ((vs ++ [v0]).map some) ((os ++ [o0]).map some) (A1 ++ A0) := by
   rw [List.map_append, List.map_append]
   exact slR_snoc r0 k1
  have ndA : (A1 ++ A0).Nodup := List.nodup_append.mpr ⟨j1, m1, fun x hx y hy z => m3 y hy x (k4 x (by simp [hx])) z.symm⟩
  have owA : ∀ p ∈ A1 ++ A0, F p = none ∧ (p ∈ c.O ∨ c.H p = none) := fun p hp => (List.mem_append.mp hp).elim (k3.ow p) (a0.ow p)
  have RA : ∀ p ∈ R, p ∉ A1 ++ A0 := fun p hp hq => by
   rcases List.mem_append.mp hq with z | z
   ·exact j3 p z p hp rfl
   ·exact m3 p z p (k4 p (by simp [hp])) rfl
  generalize A1 ++ A0 = A at ka ndA owA RA
  refine ⟨F, os ++ [o0], A, e.sub, ka, ndA, fun p hp => (owA p hp).1, ?_⟩
  have back : ∀ {F' H' : Hp}, FnEnd F H A F' H' → EnvR K c F' H' σ ρ2 R ∧ ∀ p ∈ R, H p ≠ none ∧ p ∉ A := fun {F' H'} n => by
   have hR : ∀ p ∈ R, H p ≠ none ∧ p ∉ A := fun p hp => ⟨k2.sl.there p hp, RA p hp⟩
   refine ⟨⟨n.sub, k2.f0.trans n.fF, fun b o h1 h2 => ?_, fun b h1 h2 h3 => ?_, k2.sl.mono n.fF fun b hb => ?_, k2.nd, fun p hp => ⟨n.nw p (hR p hp).1 (hR p hp).2 (k2.ow p hp).1, (k2.ow p hp).2⟩, k2.fx⟩, hR⟩
   ·refine n.hH b o (k2.h0 b o h1 h2) fun hb => ?_
    rcases (owA b hb).2 with z | z
    ·exact h2 z
    ·rw [h1] at z; cases z
   ·refine n.nw b ?_ (fun hb => ?_) (k2.n0 b h1 h2 h3)
    ·cases q : c.H b with
     | none => exact absurd q h1
     | some o => rw [k2.h0 b o q h2]; simp
    ·rcases (owA b hb).2 with z | z
     ·exact h2 z
     ·exact h1 z
   ·obtain ⟨z1, z2⟩ := hR b hb
    cases q : H b with
    | none => exact absurd q z1
    | some o => exact n.hH b o q z2
  cases fo : f (os ++ [o0]) with
  | bad => rw [fo] at h; exact h.elim
  | ex ξ =>
   rw [fo] at h
   exact fun F' H' cls d n x => h F' H' R cls d (back n).1 x
  | ok r0 outs =>
   rw [fo] at h
   intro F' H' v A' B n sB ow ndB hB
   obtain ⟨e', hR⟩ := back n
   rw [List.map_append] at sB
   obtain ⟨o1, z, B1, B2, rfl, rfl, sB1⟩ := slR_init sB
   have lo : o1.length = as.length := by rw [← sB1.length, List.length_map, r.len]
   have h : P r0 (putBack ρ2 as (o1 ++ [z])) := h
   rw [putBack_more as ρ2 o1 z lo] at h
   rw [← List.append_assoc] at ndB
   have ndB := (List.nodup_append.mp ndB).1
   have hB : ∀ p ∈ A' ++ B1, F' p = none ∧ (p ∈ A ∨ H p = none) := fun p hp => hB p (by
    rw [← List.append_assoc]; exact List.mem_append_left _ hp)
   have cr : ∀ p ∈ A' ++ B1, p ∈ c.O ∨ c.H p = none := fun p hp => by
    by_cases hc : p ∈ c.O
    ·exact .inl hc
    ·refine .inr ?_
     rcases (hB p hp).2 with z | z
     ·rcases (owA p z).2 with z | z
      ·exact absurd z hc
      ·exact z
     ·cases q : c.H p with
      | none => rfl
      | some o => rw [e.h0 p o q hc] at z; cases z
   have dis : ∀ p ∈ A' ++ B1, p ∉ R := fun p hp hr => by
    rcases (hB p hp).2 with z | z
    ·exact (hR p hr).2 z
    ·exact (hR p hr).1 z
   obtain ⟨nA, nB, nAB⟩ := List.nodup_append.mp ndB
   obtain ⟨O', q1, q2, q3⟩ := putBack_ok sB1 (r.mono n.fF) e'.sl (List.nodup_append.mpr ⟨nB, e'.nd, fun x hx y hy z => dis x (by simp [hx]) (z ▸ hy)⟩)
   refine hP r0 _ F' H' O' A' v h ⟨e'.sub, e'.f0, e'.h0, e'.n0, q1, q2, fun p hp => ?_, e'.fx⟩ n.fF ow ⟨List.nodup_append.mpr ⟨nA, q2, fun x hx y hy z => ?_⟩, fun p hp => ⟨(hB p (by simp [hp])).1, cr p (by simp [hp])⟩⟩
   ·rcases List.mem_append.mp (q3 p hp) with z | z
    ·exact ⟨(hB p (by simp [z])).1, cr p (by simp [z])⟩
    ·exact e'.ow p z
   ·subst z
    rcases List.mem_append.mp (q3 x hy) with z | z
    ·exact nAB x hx x z rfl
    ·exact dis x (by simp [hx]) z
theorem call_stepT {K : Frag} {f : Fn} {σ : Sl} {H : Hp} {Q : VK} (h : to K c (mCallT f ms) σ H Q) : tgt K c ms σ H fun vs H1 => spF K c.ca f vs H1 Q (WE c.W σ) := by
 obtain ⟨F, ρ, O, e, h⟩ := h
 refine tgt_step e h fun z ρ1 F1 H1 O1 A vs v h1 e1 s1 r1 o1 a1 => ?_
 exact call_inT e1 r1 o1 a1 h1 fun o ρ' F' H' O' A v hp e' s' ow ap => hp F' H' O' A v e' (s1.trans s') ow ap
theorem so_callT (G : FnOk X.prog X.w X.K X.mg X.base (L2.CX X.prog X.w) k f fd ps (spF X.K c.ca fn)) (hr : Room k X.A) (hm : X.mg x = some (.ref f)) (hk : PySem.W.keepIn X.K (.ref f) = true) (hb : Binds X.K fd ps []) (tk : Takes X c.W)
  (ha : PA X (e :: es) (tgt X.K c ms)) (hg : Gl X x := by rfl) (hdb : (x == ("__debug__" : Str)) = false := by decide) (he : starEach (e :: es) X.env = (false, eval e X.env) :: starEach es X.env := by rfl) (hpl : (backTo pos (starEach es X.env)).any (·.1) = false := by rfl) :
  PE X (.Call (.Name x p) (e :: es) [] pos) (to X.K c (mCallT fn ms)) := (pe_callS G hr hg hm hk hb (fun σ => passAt tk σ) ha hdb he hpl).imp fun σ H Q h => call_stepT h
end
end DL
end
section
namespace DL
open PySem PySem.Spec PyProof.Rows L2 PySem.W
def mxDef (x d : D) : Option D := match x with
 | .list [] => match d with
  | .int i => some (.int i)
  | _ => none
 | .list (y :: ys) => mxD (.list (y :: ys))
 | _ => none
def rMx (K : Frag) : List V → List V → Hp → VK → Prop := fun xs zs H Q => ∃ F v x u y z, xs = [v] ∧ zs = [u] ∧ Same F H ∧ RpB K F H v x ∧ RpB K F H u y ∧ mxDef x y = some z ∧ ∀ F' H' w, New F H F' H' → Rp K F' w z → Q w H'
theorem max_def {X : Cx} (hc : X.calm = true) (hu : X.A.units + 66 < cLine) : CallRK X (.builtin "max") ["default"] (rMx X.K) := by
 intro pins s σ H xs zs us ws Q I rv rz ⟨F, v, x, u, y, z, hv, hz0, sm, rx, ry, hz, q⟩
 subst hv hz0
 cases x with
 | list ds =>
  obtain ⟨p, ps, rfl, h1, r1⟩ := inv_list sm rx
  rw [Vals.ref1 rv]
  obtain ⟨its, ri, hl, hz'⟩ := I.list (.of h1)
  cases rz with
  | cons rz1 rz2 =>
   cases rz2
   rename_i dv
   cases ds with
   | nil =>
    cases r1
    cases ri
    cases y with
    | int i =>
     have hz : some (PyData.int i) = some z := hz
     cases hz
     have eu := inv_int ry
     subst eu
     refine max_list_default (xs := []) (as := []) (I.ok.hd hc) hl.isList .nil ⟨(fun x hx => by cases hx), fun x hx => by cases hx⟩ (by rw [PyData.depthAll]; omega) (fun _ h' tk k => ?_) (fun y ys i v h' tk bs e => by cases e)
     exact ⟨.int i, H, I.kept (t' := tk) k, rz1, q F H (.int i) (New.refl sm) (.int i)⟩
    | _ => cases hz
   | cons w ys =>
    have hz : mxD (.list (w :: ys)) = some z := hz
    obtain ⟨ds', hs, hf⟩ := best_row hz
    cases hs
    have ez := (mn_eq (x := .list (w :: ys)) rfl hf).2
    have ez : PySem.W.maxD w ys = z := Option.some.inj (ez.symm.trans hz)
    have al := row_alike hf
    have dp := row_depth hf
    obtain ⟨as, rd⟩ := row_reads I sm hf r1 ri
    refine max_list_default (I.ok.hd hc) hl.isList (by simpa using rd) al (by rw [dp]; omega) (fun e => by cases e) (fun y' ys' i v h' tk bs e _ r k => ?_)
    cases e
    obtain ⟨u', g1, g2⟩ := reads_flat hf true r
    exact ⟨u', H, I.kept (t' := tk) k, g1, q F H u' (New.refl sm) (by rw [← ez]; exact g2 X.K F)⟩
 | _ => cases hz
section
variable {X : Cx} {c : Ct} {e d : Expr} {p pos kp : Pos} {ka pa pd : Bool} {ma md : M D}
theorem se_maxDef (hc : X.calm = true) (hu : X.A.units + 66 < cLine) (hm : X.mg "max" = none) (ha : PE X e (te X.K c ka pa ma)) (hd : PE X d (te X.K c false pd md)) (hk : ka = true → pd = true := by decide) (hg : Gl X "max" := by rfl)
  (hs : starEach [e] X.env = (false, eval e X.env) :: starEach [] X.env := by rfl)
  (he : backTo pos (starEach [e] X.env) = (false, eval e X.env) :: backTo pos (starEach [] X.env) := by rfl) (hpl : (backTo pos (starEach [e] X.env)).any (·.1) = false := by rfl)
  (hall : (backToKw pos (keywordEach [⟨some "default", d, kp⟩] X.env)).all (·.1.isSome) = true := by rfl) (hnone : (backToKw pos (keywordEach [⟨some "default", d, kp⟩] X.env)).any (·.1.isNone) = false := by rfl) (hks : (backToKw pos (keywordEach [⟨some "default", d, kp⟩] X.env)).filterMap (·.1) = (["default"] : List Str) := by rfl) :
  PE X (.Call (.Name "max" p) [e] [⟨some "default", d, kp⟩] pos) (te X.K c false (pa && pd) (mBin mxDef ma md)) :=
 (pe_callBK (ks := ["default"]) (max_def hc hu) hg hm (by decide +kernel) (pa_cons ha pa_nil hs) (pk_cons hd pk_nil) (by decide) (by decide) he hpl hall hnone hks).imp fun σ H Q ⟨F, ρ, O, ev, h⟩ => by
  refine te_step ev h fun x ρ1 F1 H1 O1 v h1 e1 s1 p1 v1 => te_step e1 h1 fun y ρ2 F2 H2 O2 u h2 e2 s2 p2 v2 => ?_
  obtain ⟨z, hz, h3⟩ := post_ofO h2
  refine ⟨F2, v, x, u, y, z, rfl, rfl, e2.sub, Val.up v1 s2 p2 hk, v2.up0, hz, fun F' H' w n r => h3 F' H' O2 w (e2.new n) ((s1.trans s2).trans n.fF) (fun q => ?_) r⟩
  obtain ⟨q1, q2⟩ := Bool.and_eq_true_iff.mp q
  exact ((p1 q1).trans (p2 q2)).trans n.hH
end
end DL
end
section
namespace DL
open PySem PySem.Spec PyProof.Rows L2 PySem.W
def mulL : D → D → Option (List D)
 | .list xs, .int k => if -(2 ^ 63) ≤ k ∧ k < 2 ^ 63 ∧ xs.length * k.toNat ≤ sizeLine then some (List.replicate k.toNat xs).flatten else none
 | _, _ => none
def mBinN (g : D → D → Option (List D)) (a b : M D) : M (List D) := fun ρ => (a ρ).bind fun x ρ1 => (b ρ1).bind fun y ρ2 => ofO (g x y) ρ2
@[simp] theorem mBinN_d (g : D → D → Option (List D)) (a b : M D) (ρ : Env) : mBinN g a b ρ = (a ρ).bind fun x ρ1 => (b ρ1).bind fun y ρ2 => ofO (g x y) ρ2 := rfl
section
variable {X : Cx} {c : Ct} {a b : Expr} {pos : Pos} {ka kb pa pb : Bool} {ma mb : M D}
theorem n_mul (ha : PE X a (te X.K c ka pa ma)) (hb : PE X b (te X.K c kb pb mb)) (hk : ka = true → pb = true := by decide) : PE X (.BinOp a .Mult b pos) (tn X.K c (pa && pb) (mBinN mulL ma mb)) := (pe_op op_rep ha hb).imp fun σ H Q ⟨F, ρ, O, ev, h⟩ => by
 refine te_step ev h fun x ρ1 F1 H1 O1 v h1 e1 s1 p1 v1 => te_step e1 h1 fun y ρ2 F2 H2 O2 u h2 e2 s2 p2 v2 => ?_
 obtain ⟨z, hz, h3⟩ := post_ofO h2
 unfold mulL at hz
 split at hz
 ·rename_i xs k
  split at hz
  ·rename_i hc
   cases hz
   obtain ⟨p, vs, ep, g1, r1⟩ := inv_list e2.sub (Val.up v1 s2 p2 hk)
   refine ⟨p, _, vs, ep, inv_int v2.up0, g1, hc.1, hc.2.1, by rw [r1.length]; exact hc.2.2, fun q hq => ?_⟩
   have n := New.own e2.sub hq (.lst (List.replicate k.toNat vs).flatten)
   refine h3 F2 _ O2 q _ (e2.new n) (s1.trans s2) (fun z => ?_) upd_same (r1.rep _) (e2.apart hq)
   obtain ⟨q1, q2⟩ := Bool.and_eq_true_iff.mp z
   exact ((p1 q1).trans (p2 q2)).trans n.hH
  ·cases hz
 ·cases hz
end
end DL
end
section
namespace DL
open PySem PySem.Spec PyProof.Rows L2 PySem.W
def sK (vs : List Nat) (m : M Fl) : M Fl := fun ρ => (m ρ).bind fun f ρ1 => .ok f (wipeE ρ1 vs)
def sKb (vs : List Nat) (m : M Fl) : M Fl := fun ρ => m (wipeE ρ vs)
theorem set_none_self {ρ : Env} {i : Nat} (h : ∀ o, ρ[i]? ≠ some (some o)) : ρ.set i none = ρ := by
 cases q : ρ[i]? with
 | none => exact List.set_eq_of_length_le (List.getElem?_eq_none_iff.mp q)
 | some w =>
  cases w with
  | some o => exact absurd q (h o)
  | none => exact set_self q
section
variable {K : Frag} {c : Ct} {F H : Hp} {σ : Sl} {ρ : Env} {O : List Addr}
theorem EnvR.kill1 (e : EnvR K c F H σ ρ O) (i : Nat) : ∃ O', (∀ b ∈ O', b ∈ O) ∧ EnvR K c F H σ (ρ.set i none) O' := by
 by_cases q : ∃ o, ρ[i]? = some (some o)
 ·obtain ⟨o, q⟩ := q
  obtain ⟨v, A, R, h1, h2, h3, h4⟩ := e.sl.at q
  have nd := (h3.nodup_iff.mp e.nd)
  refine ⟨R, fun b hb => h3.mem_iff.mpr (List.mem_append_right _ hb), e.sub, e.f0, e.h0, e.n0, (h4 F H (Same.refl _) fun _ _ => rfl).1, (List.nodup_append.mp nd).2.1, fun p hp => e.ow p (h3.mem_iff.mpr (List.mem_append_right _ hp)), e.fx⟩
 ·rw [set_none_self fun o z => q ⟨o, z⟩]
  exact ⟨O, fun _ h => h, e⟩
theorem EnvR.kill (e : EnvR K c F H σ ρ O) : ∀ vs : List Nat, ∃ O', (∀ b ∈ O', b ∈ O) ∧ EnvR K c F H σ (wipeE ρ vs) O'
 | [] => ⟨O, fun _ h => h, e⟩
 | v :: vs => by
  obtain ⟨O1, h1, e1⟩ := e.kill vs
  obtain ⟨O2, h2, e2⟩ := e1.kill1 v
  exact ⟨O2, fun b hb => h1 b (h2 b hb), e2⟩
theorem Apart.less {A O' : List Addr} (a : Apart c F A O) (h : ∀ b ∈ O', b ∈ O) (n : O'.Nodup) : Apart c F A O' :=
 ⟨by
  obtain ⟨n1, _, n3⟩ := List.nodup_append.mp a.nd
  exact List.nodup_append.mpr ⟨n1, n, fun x hx y hy => n3 x hx y (h y hy)⟩, a.ow⟩
theorem ps_wipe {Dn : Ends} {vs : List Nat} : ∀ (f : Fl) (ρ1 : Env), PS' K c Dn f (wipeE ρ1 vs) → PS' K c Dn f ρ1
 | .nx, ρ1, h => fun σ' F' H' O' e => by
  obtain ⟨O1, _, e1⟩ := e.kill vs
  exact h σ' F' H' O1 e1
 | .bk, ρ1, h => fun σ' F' H' O' e => by
  obtain ⟨O1, _, e1⟩ := e.kill vs
  exact h σ' F' H' O1 e1
 | .ct, ρ1, h => fun σ' F' H' O' e => by
  obtain ⟨O1, _, e1⟩ := e.kill vs
  exact h σ' F' H' O1 e1
 | .rt o, ρ1, h => fun σ' F' H' O' A v e r a => by
  obtain ⟨O1, h1, e1⟩ := e.kill vs
  exact h σ' F' H' O1 A v e1 r (a.less h1 e1.nd)
end
section
variable {X : Cx} {c : Ct} {st : Stmt} {xs : List Stmt} {b : M Fl}
theorem ss_kill (vs : List Nat) (h : PSs X xs (ts X.K c b)) : PSs X xs (ts X.K c (sK vs b)) := h.imp fun D σ H ⟨F, ρ, O, e, h1⟩ => ⟨F, ρ, O, e, Res.post_imp (Res.post_bind h1) (fun f ρ1 z => ps_wipe f ρ1 z) fun _ _ z => z⟩
theorem sv_kill (vs : List Nat) (h : PS X st (ts X.K c b)) : PS X st (ts X.K c (sK vs b)) := h.imp fun D σ H ⟨F, ρ, O, e, h1⟩ => ⟨F, ρ, O, e, Res.post_imp (Res.post_bind h1) (fun f ρ1 z => ps_wipe f ρ1 z) fun _ _ z => z⟩
theorem sv_killB (vs : List Nat) (h : PS X st (ts X.K c b)) : PS X st (ts X.K c (sKb vs b)) := h.imp fun D σ H ⟨F, ρ, O, e, h1⟩ => by
 obtain ⟨O1, _, e1⟩ := e.kill vs
 exact ⟨F, _, O1, e1, h1⟩
end
end DL
end
section
namespace DL
open PySem PySem.Spec PyProof.Rows L2 PySem.W
inductive Pr (α : Type) where
 | ok (a : α)
 | ex (ξ : Exc)
 | bad
class Tg (T : Type) where
 bad : T
 ex : Exc → T
instance : Tg Rf := ⟨.bad, .ex⟩
instance {α : Type} : Tg (Pr α) := ⟨.bad, .ex⟩
section
variable {T α β γ : Type} [Tg T]
def oB (o : Option α) (k : α → T) : T := match o with
 | some a => k a
 | none => Tg.bad
def pB (r : Pr α) (k : α → T) : T := match r with
 | .ok a => k a
 | .ex ξ => Tg.ex ξ
 | .bad => Tg.bad
def nB (r : Pr α) (k : α → T) : T := match r with
 | .ok a => k a
 | .ex _ => Tg.bad
 | .bad => Tg.bad
def cX (r : Rf) (h : Exc → T) (k : OV → Env → T) : T := match r with
 | .ok o w => k o w
 | .ex ξ => h ξ
 | .bad => Tg.bad
def cB (r : Rf) (k : OV → Env → T) : T := cX r Tg.ex k
def tH (o : Option Bool) (a b : T) : T := match o with
 | some true => a
 | some false => b
 | none => Tg.bad
def rB (r : Res α) (k : α → Env → T) (h : Exc → Env → T) : T := match r with
 | .ok a ρ => k a ρ
 | .ex ξ ρ => h ξ ρ
 | .bad => Tg.bad
abbrev hE : Exc → Env → T := fun ξ _ => Tg.ex ξ
abbrev hN : Exc → Env → T := fun _ _ => Tg.bad
@[simp] theorem oB_some (a : α) (k : α → T) : oB (some a) k = k a := rfl
@[simp] theorem oB_none (k : α → T) : oB none k = Tg.bad := rfl
@[simp] theorem pB_ok (a : α) (k : α → T) : pB (.ok a) k = k a := rfl
@[simp] theorem pB_ex (ξ : Exc) (k : α → T) : pB (.ex ξ) k = Tg.ex ξ := rfl
@[simp] theorem pB_bad (k : α → T) : pB .bad k = Tg.bad := rfl
@[simp] theorem nB_ok (a : α) (k : α → T) : nB (.ok a) k = k a := rfl
@[simp] theorem nB_ex (ξ : Exc) (k : α → T) : nB (.ex ξ) k = Tg.bad := rfl
@[simp] theorem nB_bad (k : α → T) : nB .bad k = Tg.bad := rfl
@[simp] theorem cX_ok (o : OV) (w : Env) (h : Exc → T) (k : OV → Env → T) : cX (.ok o w) h k = k o w := rfl
@[simp] theorem cX_ex (ξ : Exc) (h : Exc → T) (k : OV → Env → T) : cX (.ex ξ) h k = h ξ := rfl
@[simp] theorem cX_bad (h : Exc → T) (k : OV → Env → T) : cX .bad h k = Tg.bad := rfl
@[simp] theorem cB_ok (o : OV) (w : Env) (k : OV → Env → T) : cB (.ok o w) k = k o w := rfl
@[simp] theorem cB_ex (ξ : Exc) (k : OV → Env → T) : cB (.ex ξ) k = Tg.ex ξ := rfl
@[simp] theorem cB_bad (k : OV → Env → T) : cB .bad k = Tg.bad := rfl
@[simp] theorem tH_t (a b : T) : tH (some true) a b = a := rfl
@[simp] theorem tH_f (a b : T) : tH (some false) a b = b := rfl
@[simp] theorem bad_rf : (Tg.bad : Rf) = .bad := rfl
@[simp] theorem ex_rf (ξ : Exc) : (Tg.ex ξ : Rf) = .ex ξ := rfl
@[simp] theorem bad_pr : (Tg.bad : Pr α) = .bad := rfl
@[simp] theorem ex_pr (ξ : Exc) : (Tg.ex ξ : Pr α) = .ex ξ := rfl
theorem pB_o (o : Option β) (k : β → Pr α) (k' : α → T) : pB (oB o k) k' = oB o fun a => pB (k a) k' := by cases o <;> rfl
theorem pB_p (o : Pr β) (k : β → Pr α) (k' : α → T) : pB (pB o k) k' = pB o fun a => pB (k a) k' := by cases o <;> rfl
theorem pB_n (o : Pr β) (k : β → Pr α) (k' : α → T) : pB (nB o k) k' = nB o fun a => pB (k a) k' := by cases o <;> rfl
theorem pB_x (r : Rf) (h : Exc → Pr α) (k : OV → Env → Pr α) (k' : α → T) : pB (cX r h k) k' = cX r (fun ξ => pB (h ξ) k') fun o w => pB (k o w) k' := by cases r <;> rfl
theorem pB_i {c : Prop} [Decidable c] (a b : Pr α) (k' : α → T) : pB (if c then a else b) k' = if c then pB a k' else pB b k' := by split <;> rfl
theorem pB_h (o : Option Bool) (a b : Pr α) (k' : α → T) : pB (tH o a b) k' = tH o (pB a k') (pB b k') := by
 rcases o with _ | _ | _ <;> rfl
theorem nB_o (o : Option β) (k : β → Pr α) (k' : α → T) : nB (oB o k) k' = oB o fun a => nB (k a) k' := by cases o <;> rfl
theorem nB_p (o : Pr β) (k : β → Pr α) (k' : α → T) : nB (pB o k) k' = nB o fun a => nB (k a) k' := by cases o <;> rfl
theorem nB_n (o : Pr β) (k : β → Pr α) (k' : α → T) : nB (nB o k) k' = nB o fun a => nB (k a) k' := by cases o <;> rfl
theorem nB_x (r : Rf) (h : Exc → Pr α) (k : OV → Env → Pr α) (k' : α → T) : nB (cX r h k) k' = cX r (fun ξ => nB (h ξ) k') fun o w => nB (k o w) k' := by cases r <;> rfl
theorem nB_i {c : Prop} [Decidable c] (a b : Pr α) (k' : α → T) : nB (if c then a else b) k' = if c then nB a k' else nB b k' := by split <;> rfl
theorem cB_d (r : Rf) (k : OV → Env → T) : cB r k = cX r (fun ξ => Tg.ex ξ) k := rfl
def gt (ρ : Env) (i : Nat) : Option OV := match ρ[i]? with
 | some w => w
 | none => none
@[simp] theorem gt_0 (a : Option OV) (ρ : Env) : gt (a :: ρ) 0 = a := rfl
@[simp] theorem gt_s (a : Option OV) (ρ : Env) (i : Nat) : gt (a :: ρ) (i + 1) = gt ρ i := by
 unfold gt; rw [List.getElem?_cons_succ]
theorem gt_tail (ρ : Env) (i : Nat) : gt ρ.tail i = gt ρ (i + 1) := by
 cases ρ with
 | nil => rfl
 | cons a ρ => rw [gt_s, List.tail_cons]
def dO (w : Option OV) : Option D := match w with
 | some (.d x) => some x
 | _ => none
def lO (w : Option OV) : Option (List D) := match w with
 | some (.lst x) => some x
 | _ => none
def lk (w : Option OV) : Option D := match w with
 | some o => o.look
 | none => none
def fz (w : Option OV) : Option D := match w with
 | some o => o.frz
 | none => none
@[simp] theorem dO_d (x : D) : dO (some (.d x)) = some x := rfl
@[simp] theorem lO_l (x : List D) : lO (some (.lst x)) = some x := rfl
@[simp] theorem lk_d (x : D) : lk (some (.d x)) = some x := rfl
@[simp] theorem lk_l (x : List D) : lk (some (.lst x)) = some (.list x) := rfl
@[simp] theorem fz_d (x : D) : fz (some (.d x)) = some x := rfl
@[simp] theorem fz_l (x : List D) : fz (some (.lst x)) = some (.list x) := rfl
def bO (x : D) : Option Bool := match x with
 | .bool b => some b
 | _ => none
@[simp] theorem bO_b (b : Bool) : bO (.bool b) = some b := rfl
def iO (x : D) : Option Int := match x with
 | .int i => some i
 | _ => none
@[simp] theorem iO_i (b : Int) : iO (.int b) = some b := rfl
def sO (x : D) : Option Str := match x with
 | .str i => some i
 | _ => none
@[simp] theorem sO_s (b : Str) : sO (.str b) = some b := rfl
variable (ρ : Env) (k : α → Env → T) (h : Exc → Env → T)
theorem rB_ok (a : α) : rB (.ok a ρ) k h = k a ρ := rfl
theorem rB_ex (ξ : Exc) : rB (.ex ξ ρ : Res α) k h = h ξ ρ := rfl
theorem rB_bad : rB (.bad : Res α) k h = Tg.bad := rfl
theorem rB_bind (r : Res β) (f : β → Env → Res α) : rB (r.bind f) k h = rB r (fun a ρ1 => rB (f a ρ1) k h) h := by cases r <;> rfl
theorem rB_bindN (r : Res β) (f : β → Env → Res α) : rB (r.bindN f) k h = rB r (fun a ρ1 => rB (f a ρ1) k h) hN := by cases r <;> rfl
theorem rB_ofO (o : Option α) : rB (ofO o ρ) k h = oB o fun a => k a ρ := by cases o <;> rfl
theorem rB_i {c : Prop} [Decidable c] (a b : Res α) : rB (if c then a else b) k h = if c then rB a k h else rB b k h := by split <;> rfl
section
variable (k : D → Env → T)
theorem rB_var (i : Nat) : rB (mVar i ρ) k h = oB (dO (gt ρ i)) fun x => k x ρ := by
 unfold mVar gt
 cases ρ[i]? with
 | none => rfl
 | some w => cases w with
  | none => rfl
  | some o => cases o <;> rfl
theorem rB_C (x : D) : rB (mC x ρ) k h = k x ρ := rfl
theorem rB_look (i : Nat) : rB (mLook i ρ) k h = oB (lk (gt ρ i)) fun x => k x ρ := by
 unfold mLook gt
 cases ρ[i]? with
 | none => rfl
 | some w => cases w with
  | none => rfl
  | some o =>
   show rB (ofO o.look ρ) k h = oB o.look _
   rw [rB_ofO]
theorem rB_frzV (i : Nat) : rB (mFrzV i ρ) k h = oB (fz (gt ρ i)) fun x => k x (ρ.set i (some (.d x))) := by
 unfold mFrzV gt
 cases ρ[i]? with
 | none => rfl
 | some w => cases w with
  | none => rfl
  | some o =>
   show rB (match o.frz with | some x => .ok x (ρ.set i (some (.d x))) | none => .bad) k h = oB o.frz _
   cases o.frz <;> rfl
theorem rB_bin (g : D → D → Option D) (a b : M D) : rB (mBin g a b ρ) k h = rB (a ρ) (fun x ρ1 => rB (b ρ1) (fun y ρ2 => oB (g x y) fun z => k z ρ2) h) h := by
 unfold mBin; rw [rB_bind]; congr; funext x ρ1; rw [rB_bind]; congr; funext y ρ2; rw [rB_ofO]
theorem rB_f1 (g : D → Option D) (a : M D) : rB (mF1 g a ρ) k h = rB (a ρ) (fun x ρ1 => oB (g x) fun z => k z ρ1) h := by
 unfold mF1; rw [rB_bind]; congr; funext x ρ1; rw [rB_ofO]
theorem rB_chain (g g' : D → D → Option D) (a b d : M D) : rB (mChain g g' a b d ρ) k h = rB (a ρ) (fun x ρ1 => rB (b ρ1) (fun y ρ2 => oB ((g x y).bind bO) fun t => if t = true then rB (d ρ2) (fun z ρ3 => oB (g' y z) fun u => k u ρ3) h else k (.bool false) ρ2) h) h := by
 unfold mChain; rw [rB_bind]; congr; funext x ρ1; rw [rB_bind]; congr; funext y ρ2
 cases g x y with
 | none => rfl
 | some t =>
  cases t with
  | bool t =>
   cases t with
   | true =>
    show rB ((d ρ2).bind fun z ρ3 => ofO (g' y z) ρ3) k h = rB (d ρ2) _ h
    rw [rB_bind]; congr; funext z ρ3; rw [rB_ofO]
   | false => rfl
  | _ => rfl
theorem rB_mV (a : M Bool) : rB (mV a ρ) k h = rB (a ρ) (fun x ρ1 => k (.bool x) ρ1) h := by unfold mV; rw [rB_bind]; rfl
theorem rB_andV (a b : M D) : rB (mAndV a b ρ) k h = rB (a ρ) (fun x ρ1 => oB (bO x) fun t => if t = true then rB (b ρ1) k h else k (.bool false) ρ1) h := by
 unfold mAndV; rw [rB_bind]; congr; funext x ρ1
 cases x with
 | bool t => cases t <;> rfl
 | _ => rfl
theorem rB_orV (a b : M D) : rB (mOrV a b ρ) k h = rB (a ρ) (fun x ρ1 => oB (bO x) fun t => if t = true then k (.bool true) ρ1 else rB (b ρ1) k h) h := by
 unfold mOrV; rw [rB_bind]; congr; funext x ρ1
 cases x with
 | bool t => cases t <;> rfl
 | _ => rfl
theorem rB_notV (a : M D) : rB (mNotV a ρ) k h = rB (a ρ) (fun x ρ1 => oB (bO x) fun t => k (.bool (!t)) ρ1) h := by
 unfold mNotV; rw [rB_bind]; congr; funext x ρ1
 cases x <;> rfl
theorem rB_tup (m : M (List D)) : rB (mTup m ρ) k h = rB (m ρ) (fun xs ρ1 => k (.tuple xs) ρ1) h := by unfold mTup; rw [rB_bind]; rfl
theorem rB_lstF (m : M (List D)) : rB (mLstF m ρ) k h = rB (m ρ) (fun xs ρ1 => k (.list xs) ρ1) h := by unfold mLstF; rw [rB_bind]; rfl
theorem rB_frz (m : M OV) : rB (mFrz m ρ) k h = rB (m ρ) (fun o ρ1 => oB o.frz fun x => k x ρ1) h := by unfold mFrz; rw [rB_bind]; congr; funext x ρ1; rw [rB_ofO]
theorem rB_sl (a : M D) (l u : M (Option Int)) : rB (mSl a l u ρ) k h = rB (a ρ) (fun x ρ1 => rB (l ρ1) (fun i ρ2 => rB (u ρ2) (fun j ρ3 => oB (slD x i j) fun z => k z ρ3) h) h) h := by
 unfold mSl; rw [rB_bind]; congr; funext x ρ1; rw [rB_bind]; congr; funext y ρ2; rw [rB_bind]; congr; funext z ρ3; rw [rB_ofO]
theorem rB_LM (i : Nat) (g : List D → List D → Option (List D × D)) (ms : M (List D)) : rB (mLM i g ms ρ) k h = oB (lO (gt ρ i)) fun _ => rB (ms ρ) (fun as ρ1 => oB (lO (gt ρ1 i)) fun xs => oB (g xs as) fun z => k z.2 (ρ1.set i (some (.lst z.1)))) h := by
 unfold mLM gt
 cases ρ[i]? with
 | none => rfl
 | some w => cases w with
  | none => rfl
  | some o => cases o with
   | lst ys =>
    show rB ((ms ρ).bind _) k h = rB (ms ρ) _ h
    rw [rB_bind]; congr; funext as ρ1
    cases ρ1[i]? with
    | none => rfl
    | some w => cases w with
     | none => rfl
     | some o => cases o with
      | lst xs =>
       show rB (match g xs as with | some z => .ok z.2 (ρ1.set i (some (.lst z.1))) | none => .bad) k h = oB (g xs as) _
       cases g xs as <;> rfl
      | _ => rfl
   | _ => rfl
theorem rB_extend (i : Nat) (m : M D) : rB (mExtend i m ρ) k h = oB (lO (gt ρ i)) fun _ => rB (m ρ) (fun a ρ1 => oB (lO (gt ρ1 i)) fun xs => oB (extendD xs a) fun z => k .none (ρ1.set i (some (.lst z)))) h := by
 unfold mExtend gt
 cases ρ[i]? with
 | none => rfl
 | some w => cases w with
  | none => rfl
  | some o => cases o with
   | lst ys =>
    show rB ((m ρ).bind _) k h = rB (m ρ) _ h
    rw [rB_bind]; congr; funext as ρ1
    cases ρ1[i]? with
    | none => rfl
    | some w => cases w with
     | none => rfl
     | some o => cases o with
      | lst xs =>
       show rB (match extendD xs as with | some z => .ok .none (ρ1.set i (some (.lst z))) | none => .bad) k h = oB (extendD xs as) _
       cases extendD xs as <;> rfl
      | _ => rfl
   | _ => rfl
theorem rB_lenK (m : M (List Str)) : rB (mLenK m ρ) k h = rB (m ρ) (fun l ρ1 => k (.int ((onceS l).length : Nat)) ρ1) h := by unfold mLenK; rw [rB_bind]; rfl
theorem rB_txt (m : M D) : rB (mTxt m ρ) k h = rB (m ρ) (fun x ρ1 => oB (sO x) fun z => k (.str z) ρ1) hN := by
 unfold mTxt; rw [rB_bindN]; congr; funext x ρ1
 cases x <;> rfl
theorem rB_dict (m : M KD) : rB (mDict m ρ) k h = rB (m ρ) (fun l ρ1 => k (dK (mergeKD [] l)) ρ1) h := by unfold mDict; rw [rB_bind]; rfl
theorem rB_dcF (m : M KD) : rB (mDcF m ρ) k h = rB (m ρ) (fun l ρ1 => k (dK l) ρ1) h := by unfold mDcF; rw [rB_bind]; rfl
theorem rB_pairE (x y : M D) : rB (mPairE x y ρ) k h = rB (x ρ) (fun x ρ1 => rB (y ρ1) (fun y ρ2 => oB (keyOf x) fun _ => k (.tuple [x, y]) ρ2) hN) hN := by
 unfold mPairE; rw [rB_bindN]; congr; funext x ρ1; rw [rB_bindN]; congr; funext y ρ2
 cases keyOf x <;> rfl
end
section
variable (k : KD → Env → T)
theorem rB_nilP : rB (mNilP ρ) k h = k [] ρ := rfl
theorem rB_consP (x y : M D) (r : M KD) : rB (mConsP x y r ρ) k h = rB (x ρ) (fun x ρ1 => rB (y ρ1) (fun y ρ2 => oB (keyOf x) fun j => rB (r ρ2) (fun l ρ3 => k ((j, y) :: l) ρ3) h) h) h := by
 unfold mConsP; rw [rB_bind]; congr; funext x ρ1; rw [rB_bind]; congr; funext y ρ2
 cases keyOf x with
 | none => rfl
 | some j =>
  show rB ((r ρ2).bind _) k h = rB (r ρ2) _ h
  rw [rB_bind]; rfl
end
section
variable (k : Bool → Env → T)
theorem rB_B (m : M D) : rB (mB m ρ) k h = rB (m ρ) (fun x ρ1 => oB (bO x) fun b => k b ρ1) h := by
 unfold mB; rw [rB_bind]; congr; funext x ρ1
 cases x <;> rfl
theorem rB_and (a b : M Bool) : rB (mAnd a b ρ) k h = rB (a ρ) (fun x ρ1 => if x = true then rB (b ρ1) k h else k false ρ1) h := by
 unfold mAnd; rw [rB_bind]; congr; funext x ρ1; rw [rB_i]; rfl
theorem rB_or (a b : M Bool) : rB (mOr a b ρ) k h = rB (a ρ) (fun x ρ1 => if x = true then k true ρ1 else rB (b ρ1) k h) h := by
 unfold mOr; rw [rB_bind]; congr; funext x ρ1; rw [rB_i]; rfl
theorem rB_not (a : M Bool) : rB (mNot a ρ) k h = rB (a ρ) (fun x ρ1 => k (!x) ρ1) h := by unfold mNot; rw [rB_bind]; rfl
theorem rB_yes : rB (mYes ρ) k h = k true ρ := rfl
end
theorem rB_if (t : M Bool) (a b : M α) : rB (mIf t a b ρ) k h = rB (t ρ) (fun x ρ1 => if x = true then rB (a ρ1) k h else rB (b ρ1) k h) h := by
 unfold mIf; rw [rB_bind]; congr; funext x ρ1; rw [rB_i]
section
variable (k : List D → Env → T)
theorem rB_nil : rB (mNil ρ) k h = k [] ρ := rfl
theorem rB_cons (a : M D) (r : M (List D)) : rB (mCons a r ρ) k h = rB (a ρ) (fun x ρ1 => rB (r ρ1) (fun xs ρ2 => k (x :: xs) ρ2) h) h := by
 unfold mCons; rw [rB_bind]; congr; funext x ρ1; rw [rB_bind]; rfl
theorem rB_fN (g : D → Option (List D)) (a : M D) : rB (mFN g a ρ) k h = rB (a ρ) (fun x ρ1 => oB (g x) fun z => k z ρ1) h := by
 unfold mFN; rw [rB_bind]; congr; funext x ρ1; rw [rB_ofO]
theorem rB_binN (g : D → D → Option (List D)) (a b : M D) : rB (mBinN g a b ρ) k h = rB (a ρ) (fun x ρ1 => rB (b ρ1) (fun y ρ2 => oB (g x y) fun z => k z ρ2) h) h := by
 unfold mBinN; rw [rB_bind]; congr; funext x ρ1; rw [rB_bind]; congr; funext y ρ2; rw [rB_ofO]
theorem rB_items (a : M D) : rB (mItems a ρ) k h = rB (a ρ) (fun x ρ1 => oB (itemsD x) fun z => k z ρ1) h := by
 unfold mItems; rw [rB_bind]; congr; funext x ρ1; rw [rB_ofO]
theorem rB_itemsP (a : M D) : rB (mItemsP a ρ) k h = rB (a ρ) (fun x ρ1 => oB (itemsP x) fun z => k z ρ1) h := by
 unfold mItemsP; rw [rB_bind]; congr; funext x ρ1; rw [rB_ofO]
theorem rB_range1 (a : M D) : rB (mRange1 a ρ) k h = rB (a ρ) (fun x ρ1 => oB (range1 x) fun z => k z ρ1) h := by
 unfold mRange1; rw [rB_bind]; congr; funext x ρ1; rw [rB_ofO]
theorem rB_range2 (a b : M D) : rB (mRange2 a b ρ) k h = rB (a ρ) (fun x ρ1 => rB (b ρ1) (fun y ρ2 => oB (range2 x y) fun z => k z ρ2) h) h := by
 unfold mRange2; rw [rB_bind]; congr; funext x ρ1; rw [rB_bind]; congr; funext y ρ2; rw [rB_ofO]
theorem rB_range3 (a b c : M D) : rB (mRange3 a b c ρ) k h = rB (a ρ) (fun x ρ1 => rB (b ρ1) (fun y ρ2 => rB (c ρ2) (fun w ρ3 => oB (range3 x y w) fun z => k z ρ3) h) h) h := by
 unfold mRange3; rw [rB_bind]; congr; funext x ρ1; rw [rB_bind]; congr; funext y ρ2; rw [rB_bind]; congr; funext y ρ2; rw [rB_ofO]
theorem rB_zip (a b : M D) : rB (mZip a b ρ) k h = rB (a ρ) (fun x ρ1 => rB (b ρ1) (fun y ρ2 => oB (zipD x y) fun z => k z ρ2) h) h := by
 unfold mZip; rw [rB_bind]; congr; funext x ρ1; rw [rB_bind]; congr; funext y ρ2; rw [rB_ofO]
theorem rB_enum (a : M D) : rB (mEnum a ρ) k h = rB (a ρ) (fun x ρ1 => oB (enumO x) fun z => k z ρ1) h := by
 unfold mEnum; rw [rB_bind]; congr; funext x ρ1; rw [rB_ofO]
theorem rB_enumA (a : M D) : rB (mEnumA a ρ) k h = rB (a ρ) (fun x ρ1 => oB (enumA x) fun z => k z ρ1) h := by
 unfold mEnumA; rw [rB_bind]; congr; funext x ρ1; rw [rB_ofO]
theorem rB_sortK (m : M (List Str)) : rB (mSortK m ρ) k h = rB (m ρ) (fun l ρ1 => k ((sortS (onceS l)).map .str) ρ1) h := by unfold mSortK; rw [rB_bind]; rfl
end
section
variable (k : List Str → Env → T)
def txO (ys : List D) : Option (List Str) := if ys.length ≤ scanBound - 2 then allStr ys else none
def orO (l m : List Str) : Option (List Str) := if l.length + m.length ≤ 30 then some (l ++ m) else none
theorem rB_setOf (a : M D) : rB (mSetOf a ρ) k h = rB (a ρ) (fun x ρ1 => oB (textsD x) fun z => k z ρ1) h := by
 unfold mSetOf; rw [rB_bind]; congr; funext x ρ1; rw [rB_ofO]
theorem rB_setC (a : M (List D)) : rB (mSetC a ρ) k h = rB (a ρ) (fun x ρ1 => oB (txO x) fun z => k z ρ1) h := by
 unfold mSetC; rw [rB_bind]; congr; funext x ρ1; rw [rB_i, rB_ofO]
 unfold txO; split <;> rfl
theorem rB_setOr (a b : M (List Str)) : rB (mSetOr a b ρ) k h = rB (a ρ) (fun x ρ1 => rB (b ρ1) (fun y ρ2 => oB (orO x y) fun z => k z ρ2) h) h := by
 unfold mSetOr; rw [rB_bind]; congr; funext x ρ1; rw [rB_bind]; congr; funext y ρ2
 unfold orO; split <;> rfl
end
section
variable (k : Option Int → Env → T)
theorem rB_bNo : rB (bNo ρ) k h = k none ρ := rfl
theorem rB_bTo (m : M D) : rB (bTo m ρ) k h = rB (m ρ) (fun x ρ1 => oB (iO x) fun i => k (some i) ρ1) h := by
 unfold bTo; rw [rB_bind]; congr; funext x ρ1
 cases x <;> rfl
end
section
variable (k : OV → Env → T)
theorem rB_D (m : M D) : rB (mD m ρ) k h = rB (m ρ) (fun x ρ1 => k (.d x) ρ1) h := by unfold mD; rw [rB_bind]; rfl
theorem rB_lst (m : M (List D)) : rB (mLst m ρ) k h = rB (m ρ) (fun x ρ1 => k (.lst x) ρ1) h := by unfold mLst; rw [rB_bind]; rfl
theorem rB_move (i : Nat) : rB (mMove i ρ) k h = oB (gt ρ i) fun o => k o (ρ.set i none) := by
 unfold mMove gt
 cases ρ[i]? with
 | none => rfl
 | some w => cases w <;> rfl
theorem rB_dictO (m : M KD) : rB (mDictO m ρ) k h = rB (m ρ) (fun l ρ1 => k (.dct ((mergeKD [] l).map fun p => (kD p.1, p.2))) ρ1) h := by unfold mDictO; rw [rB_bind]; rfl
theorem rB_dcO (m : M KD) : rB (mDcO m ρ) k h = rB (m ρ) (fun l ρ1 => k (.dct (l.map fun p => (kD p.1, p.2))) ρ1) h := by unfold mDcO; rw [rB_bind]; rfl
theorem rB_callRf (avs : List AV) (r : Rf) : rB (callRf avs ρ r) k h = cX r (fun ξ => h ξ ρ) fun o w => k o (putBack ρ avs w) := by cases r <;> rfl
theorem rB_call (f : Fn) (m : M (List AV)) : rB (mCall f m ρ) k h = rB (m ρ) (fun avs ρ1 => oB (gather ρ1 avs) fun y => cX (f y.1) (fun ξ => h ξ y.2) fun o w => k o (putBack y.2 avs w)) h := by
 unfold mCall; rw [rB_bind]; congr; funext avs ρ1
 cases gather ρ1 avs with
 | none => rfl
 | some y => show rB (callRf avs y.2 (f y.1)) k h = _; rw [rB_callRf]; rfl
theorem rB_callT (f : Fn) (m : M (List AV × OV)) : rB (mCallT f m ρ) k h = rB (m ρ) (fun z ρ1 => oB (gather ρ1 z.1) fun y => cX (f (y.1 ++ [z.2])) (fun ξ => h ξ y.2) fun o w => k o (putBack y.2 z.1 w)) h := by
 unfold mCallT; rw [rB_bind]; congr; funext avs ρ1
 cases gather ρ1 avs.1 with
 | none => rfl
 | some y => show rB (callRf avs.1 y.2 (f (y.1 ++ [avs.2]))) k h = _; rw [rB_callRf]; rfl
end
section
variable (k : List AV → Env → T)
theorem rB_gNil : rB (gNil ρ) k h = k [] ρ := rfl
theorem rB_gD (a : M D) (r : M (List AV)) : rB (gD a r ρ) k h = rB (a ρ) (fun x ρ1 => rB (r ρ1) (fun xs ρ2 => k (.d x :: xs) ρ2) h) h := by
 unfold gD; rw [rB_bind]; congr; funext x ρ1; rw [rB_bind]; rfl
theorem rB_gO (i : Nat) (r : M (List AV)) : rB (gO i r ρ) k h = oB (gt ρ i) fun _ => rB (r ρ) (fun xs ρ2 => k (.o i :: xs) ρ2) h := by
 unfold gO gt
 cases ρ[i]? with
 | none => rfl
 | some w => cases w with
  | none => rfl
  | some o =>
   show rB ((r ρ).bind _) k h = rB (r ρ) _ h
   rw [rB_bind]; rfl
end
section
variable (k : List AV × OV → Env → T)
theorem rB_gT (m : M OV) : rB (gT m ρ) k h = rB (m ρ) (fun o ρ1 => k ([], o) ρ1) h := by unfold gT; rw [rB_bind]; rfl
theorem rB_gDt (a : M D) (r : M (List AV × OV)) : rB (gDt a r ρ) k h = rB (a ρ) (fun x ρ1 => rB (r ρ1) (fun z ρ2 => k (.d x :: z.1, z.2) ρ2) h) h := by
 unfold gDt; rw [rB_bind]; congr; funext x ρ1; rw [rB_bind]; rfl
theorem rB_gOt (i : Nat) (r : M (List AV × OV)) : rB (gOt i r ρ) k h = oB (gt ρ i) fun _ => rB (r ρ) (fun z ρ2 => k (.o i :: z.1, z.2) ρ2) h := by
 unfold gOt gt
 cases ρ[i]? with
 | none => rfl
 | some w => cases w with
  | none => rfl
  | some o =>
   show rB ((r ρ).bind _) k h = rB (r ρ) _ h
   rw [rB_bind]; rfl
end
theorem gath_nil (k : List OV × Env → T) : oB (gather ρ []) k = k ([], ρ) := rfl
theorem gath_d (x : D) (r : List AV) (k : List OV × Env → T) : oB (gather ρ (.d x :: r)) k = oB (gather ρ r) fun y => k (.d x :: y.1, y.2) := by
 show oB ((gather ρ r).map _) k = _
 cases gather ρ r <;> rfl
theorem gath_o (i : Nat) (r : List AV) (k : List OV × Env → T) : oB (gather ρ (.o i :: r)) k = oB (gt ρ i) fun o => oB (gather (ρ.set i none) r) fun y => k (o :: y.1, y.2) := by
 rw [gather]
 unfold gt
 cases ρ[i]? with
 | none => rfl
 | some w => cases w with
  | none => rfl
  | some o =>
   show oB ((gather (ρ.set i none) r).map _) k = oB (some o) _
   rw [oB_some]
   cases gather (ρ.set i none) r <;> rfl
theorem pb_nil (w : Env) : putBack ρ [] w = ρ := by cases w <;> rfl
theorem pb_d (x : D) (r : List AV) (w : Env) : putBack ρ (.d x :: r) w = putBack ρ r w.tail := by
 cases w with
 | nil => cases r with
  | nil => rfl
  | cons a r => cases a <;> rfl
 | cons o w => rfl
theorem pb_o (i : Nat) (r : List AV) (w : Env) (hi : gt ρ i = none) : putBack ρ (.o i :: r) w = putBack (ρ.set i (gt w 0)) r w.tail := by
 cases w with
 | nil =>
  have e : ρ.set i (gt [] 0) = ρ := set_none_self fun o z => by unfold gt at hi; rw [z] at hi; cases hi
  rw [e]
  show ρ = putBack ρ r []
  cases r with
  | nil => rfl
  | cons a r => cases a <;> rfl
 | cons o w => rfl
section
variable (k : Fl → Env → T)
def sq (f : Fl) (x : T) (y : T) : T := match f with
 | .nx => x
 | _ => y
@[simp] theorem sq_nx (x y : T) : sq .nx x y = x := rfl
@[simp] theorem sq_rt (o : OV) (x y : T) : sq (.rt o) x y = y := rfl
@[simp] theorem sq_bk (x y : T) : sq .bk x y = y := rfl
@[simp] theorem sq_ct (x y : T) : sq .ct x y = y := rfl
theorem rB_seq (a b : M Fl) : rB (sSeq a b ρ) k h = rB (a ρ) (fun f ρ1 => sq f (rB (b ρ1) k h) (k f ρ1)) h := by
 unfold sSeq; rw [rB_bind]; congr; funext f ρ1
 cases f <;> rfl
theorem rB_sNil : rB (sNil ρ) k h = k .nx ρ := rfl
theorem rB_set (i : Nat) (m : M D) : rB (sSet i m ρ) k h = rB (m ρ) (fun x ρ1 => k .nx (ρ1.set i (some (.d x)))) h := by unfold sSet; rw [rB_bind]; rfl
theorem rB_setO (i : Nat) (m : M OV) : rB (sSetO i m ρ) k h = rB (m ρ) (fun x ρ1 => k .nx (ρ1.set i (some x))) h := by unfold sSetO; rw [rB_bind]; rfl
theorem rB_ret (m : M OV) : rB (sRet m ρ) k h = rB (m ρ) (fun x ρ1 => k (.rt x) ρ1) h := by unfold sRet; rw [rB_bind]; rfl
theorem rB_drop (m : M OV) : rB (sDrop m ρ) k h = rB (m ρ) (fun _ ρ1 => k .nx ρ1) h := by unfold sDrop; rw [rB_bind]; rfl
theorem rB_put (i : Nat) (mi mv : M D) : rB (sPut i mi mv ρ) k h = rB (mv ρ) (fun v ρ1 => oB (lO (gt ρ1 i)) fun _ => rB (mi ρ1) (fun x ρ2 => oB (lO (gt ρ2 i)) fun xs => oB ((iO x).bind (ixN xs.length)) fun n => k .nx (ρ2.set i (some (.lst (xs.set n v))))) h) h := by
 unfold sPut; rw [rB_bind]; congr; funext v ρ1
 unfold gt
 cases ρ1[i]? with
 | none => rfl
 | some w => cases w with
  | none => rfl
  | some o => cases o with
   | lst ys =>
    show rB ((mi ρ1).bind _) k h = rB (mi ρ1) _ h
    rw [rB_bind]; congr; funext x ρ2
    cases ρ2[i]? with
    | none => rfl
    | some w => cases w with
     | none => rfl
     | some o => cases o with
      | lst xs =>
       cases x with
       | int j =>
        show rB (match ixN xs.length j with | some n => .ok .nx (ρ2.set i (some (.lst (xs.set n v)))) | none => .bad) k h = oB (ixN xs.length j) _
        cases ixN xs.length j <;> rfl
       | _ => rfl
      | _ => cases x <;> rfl
   | _ => rfl
def twoO (xs : List D) : Option (D × D) := match xs with
 | [x, y] => some (x, y)
 | _ => none
@[simp] theorem twoO_2 (x y : D) : twoO [x, y] = some (x, y) := rfl
theorem rB_par (i j : Nat) (m : M (List D)) : rB (sPar i j m ρ) k h = rB (m ρ) (fun xs ρ1 => oB (twoO xs) fun z => k .nx ((ρ1.set i (some (.d z.1))).set j (some (.d z.2)))) h := by
 unfold sPar; rw [rB_bind]; congr; funext xs ρ1
 rcases xs with _ | ⟨x, _ | ⟨y, _ | _⟩⟩ <;> rfl
theorem rB_tgt (t : D → Env → Option Env) (m : M D) : rB (sTgt t m ρ) k h = rB (m ρ) (fun x ρ1 => oB (t x ρ1) fun ρ2 => k .nx ρ2) h := by
 unfold sTgt; rw [rB_bind]; congr; funext x ρ1
 cases t x ρ1 <;> rfl
theorem rB_aug (g : D → D → Option D) (i : Nat) (m : M D) : rB (sAug g i m ρ) k h = oB (dO (gt ρ i)) fun x => rB (m ρ) (fun y ρ1 => oB (g x y) fun z => k .nx (ρ1.set i (some (.d z)))) h := by
 unfold sAug gt
 cases ρ[i]? with
 | none => rfl
 | some w => cases w with
  | none => rfl
  | some o => cases o with
   | d x =>
    show rB ((m ρ).bind _) k h = rB (m ρ) _ h
    rw [rB_bind]; congr; funext y ρ1
    cases g x y <;> rfl
   | _ => rfl
theorem rB_raise (x : Str) : rB (sRaise x ρ) k h = h ⟨.own x, []⟩ ρ := rfl
theorem rB_sK (vs : List Nat) (m : M Fl) : rB (sK vs m ρ) k h = rB (m ρ) (fun f ρ1 => k f (wipeE ρ1 vs)) h := by unfold sK; rw [rB_bind]; rfl
theorem rB_sKb (vs : List Nat) (m : M Fl) : rB (sKb vs m ρ) k h = rB (m (wipeE ρ vs)) k h := rfl
theorem rB_for (it : M (List D)) (tg : D → Env → Option Env) (b : M Fl) : rB (sFor it tg b ρ) k h = rB (it ρ) (fun xs ρ1 => rB (forGo tg b xs ρ1) k h) h := by unfold sFor; rw [rB_bind]
theorem rB_try (b : M Fl) (hs : List ((ECls → Option Bool) × M Fl)) : rB (sTry b hs ρ) k h = rB (b ρ) k fun ξ ρ1 => rB (tryH hs ξ ρ1) k h := by
 unfold sTry; cases b ρ <;> rfl
theorem rB_noEx (r : Res Fl) : rB (noEx r) k h = rB r k hN := by cases r <;> rfl
theorem rB_h0 (ξ : Exc) : rB (tryH [] ξ ρ) k h = h ξ ρ := rfl
theorem rB_h1 (x : (ECls → Option Bool) × M Fl) (r : List ((ECls → Option Bool) × M Fl)) (ξ : Exc) : rB (tryH (x :: r) ξ ρ) k h = tH (x.1 ξ.c) (rB (x.2 ρ) k hN) (rB (tryH r ξ ρ) k h) := by
 rw [tryH]
 rcases x.1 ξ.c with _ | _ | _
 ·rfl
 ·rfl
 ·show rB (noEx _) k h = _; rw [rB_noEx]; rfl
end
theorem og_name (i : Nat) (x : D) (k : Env → T) : oB (tName i x ρ) k = k (ρ.set i (some (.d x))) := rfl
def tupO (n : Nat) (x : D) : Option (List D) := match x with
 | .tuple xs => if xs.length = n then some xs else none
 | _ => none
theorem og_tup (n : Nat) (u : List D → Env → Option Env) (x : D) (k : Env → T) : oB (tTup n u x ρ) k = oB (tupO n x) fun xs => oB (u xs ρ) k := by
 unfold tTup tupO
 cases x with
 | tuple xs =>
  show oB (if xs.length = n then _ else _) k = oB (if xs.length = n then _ else _) _
  split <;> rfl
 | _ => rfl
def starO (n : Nat) (x : D) : Option (List D) := match x with
 | .tuple xs => if n ≤ xs.length then some (xs.take n ++ [.list (xs.drop n)]) else none
 | .list xs => if n ≤ xs.length then some (xs.take n ++ [.list (xs.drop n)]) else none
 | _ => none
theorem og_star (n : Nat) (u : List D → Env → Option Env) (x : D) (k : Env → T) : oB (tStar n u x ρ) k = oB (starO n x) fun xs => oB (u xs ρ) k := by
 unfold tStar starO
 cases x with
 | tuple xs =>
  show oB (if n ≤ xs.length then _ else _) k = oB (if n ≤ xs.length then _ else _) _
  split <;> rfl
 | list xs =>
  show oB (if n ≤ xs.length then _ else _) k = oB (if n ≤ xs.length then _ else _) _
  split <;> rfl
 | _ => rfl
def nilO (xs : List D) : Option Unit := match xs with
 | [] => some ()
 | _ => none
def conO (xs : List D) : Option (D × List D) := match xs with
 | x :: r => some (x, r)
 | [] => none
@[simp] theorem nilO_n : nilO [] = some () := rfl
@[simp] theorem conO_c (x : D) (r : List D) : conO (x :: r) = some (x, r) := rfl
theorem og_nil (xs : List D) (k : Env → T) : oB (tsNil xs ρ) k = oB (nilO xs) fun _ => k ρ := by cases xs <;> rfl
theorem og_cons (t : D → Env → Option Env) (u : List D → Env → Option Env) (xs : List D) (k : Env → T) : oB (tsCons t u xs ρ) k = oB (conO xs) fun z => oB (t z.1 ρ) fun ρ1 => oB (u z.2 ρ1) k := by
 cases xs with
 | nil => rfl
 | cons x r =>
  show oB ((t x ρ).bind _) k = oB (t x ρ) _
  cases t x ρ <;> rfl
end
end DL
end
section
namespace DL
open PySem PySem.Spec PyProof.Rows L2 PySem.W
section
variable {T α β γ σ : Type} [Tg T]
def endF (fx : List Nat) (os : List OV) : Fl → Env → Rf := fun f ρ' => match f with
 | .rt o => .ok o (outsOf fx ρ' 0 os)
 | .nx => .ok (.d .none) (outsOf fx ρ' 0 os)
 | _ => .bad
theorem endF_rt (fx : List Nat) (os : List OV) (o : OV) (ρ' : Env) : endF fx os (.rt o) ρ' = .ok o (outsOf fx ρ' 0 os) := rfl
theorem endF_nx (fx : List Nat) (os : List OV) (ρ' : Env) : endF fx os .nx ρ' = .ok (.d .none) (outsOf fx ρ' 0 os) := rfl
theorem endF_bk (fx : List Nat) (os : List OV) (ρ' : Env) : endF fx os .bk ρ' = .bad := rfl
theorem endF_ct (fx : List Nat) (os : List OV) (ρ' : Env) : endF fx os .ct ρ' = .bad := rfl
theorem fn_eq {n np : Nat} {fx : List Nat} {m : M Fl} {os : List OV} {ρ : Env} (hl : os.length = np) (e : os.map some ++ List.replicate (n - np) none = ρ) : fnOf n np fx m os = rB (m ρ) (endF fx os) hE := by
 unfold fnOf
 rw [if_pos hl, e]
 cases m ρ with
 | ok f ρ' => cases f <;> rfl
 | ex ξ ρ' => rfl
 | bad => rfl
def cn : Fl → Fl
 | .ct => .nx
 | f => f
def stp (t : D → Env → Option Env) (b : M Fl) (x : D) (ρ : Env) : Pr (Fl × Env) := oB (t x ρ) fun ρ1 => rB (b ρ1) (fun f ρ2 => .ok (cn f, ρ2)) hE
@[simp] theorem cn_nx : cn .nx = .nx := rfl
@[simp] theorem cn_ct : cn .ct = .nx := rfl
@[simp] theorem cn_bk : cn .bk = .bk := rfl
@[simp] theorem cn_rt (o : OV) : cn (.rt o) = .rt o := rfl
def forS (b : D → σ → Pr σ) : List D → σ → Pr σ
 | [], s => .ok s
 | x :: xs, s => pB (b x s) fun s => forS b xs s
theorem rB_forGo (t : D → Env → Option Env) (b : M Fl) (x : D) (xs : List D) (ρ : Env) (k : Fl → Env → T) : rB (forGo t b (x :: xs) ρ) k hE = pB (stp t b x ρ) fun z => match z.1 with
  | .nx => rB (forGo t b xs z.2) k hE
  | .ct => rB (forGo t b xs z.2) k hE
  | .bk => k .nx z.2
  | .rt o => k (.rt o) z.2 := by
 rw [forGo_cons]
 unfold stp
 rw [pB_o]
 cases t x ρ with
 | none => rfl
 | some ρ1 =>
  rw [oB_some]
  show rB ((b ρ1).bind _) k hE = _
  rw [rB_bind]
  cases b ρ1 with
  | ok f ρ2 => cases f <;> rfl
  | ex ξ ρ2 => rfl
  | bad => rfl
theorem for_rB {t : D → Env → Option Env} {b : M Fl} {E : σ → Env} {pb : D → σ → Pr σ} (H : ∀ x s, stp t b x (E s) = pB (pb x s) fun s' => .ok (.nx, E s')) (k : Fl → Env → T) : ∀ xs s, rB (forGo t b xs (E s)) k hE = pB (forS pb xs s) fun s' => k .nx (E s')
 | [], s => rfl
 | x :: xs, s => by
  rw [rB_forGo, H, pB_p, forS, pB_p]
  congr
  funext s'
  exact for_rB H k xs s'
inductive Fo (σ : Type) where
 | nx (s : σ)
 | bk (s : σ)
 | rt (o : OV) (s : σ)
def foF (E : σ → Env) : Fo σ → Fl × Env
 | .nx s => (.nx, E s)
 | .bk s => (.bk, E s)
 | .rt o s => (.rt o, E s)
theorem foF_nx (E : σ → Env) (s : σ) : foF E (.nx s) = (.nx, E s) := rfl
theorem foF_bk (E : σ → Env) (s : σ) : foF E (.bk s) = (.bk, E s) := rfl
theorem foF_rt (E : σ → Env) (o : OV) (s : σ) : foF E (.rt o s) = (.rt o, E s) := rfl
def foB (z : Fo σ) (n : σ → T) (r : OV → σ → T) : T := match z with
 | .nx s => n s
 | .bk s => n s
 | .rt o s => r o s
@[simp] theorem foB_nx (s : σ) (n : σ → T) (r : OV → σ → T) : foB (.nx s) n r = n s := rfl
@[simp] theorem foB_rt (o : OV) (s : σ) (n : σ → T) (r : OV → σ → T) : foB (.rt o s) n r = r o s := rfl
theorem pB_fo (z : Fo σ) (n : σ → Pr α) (r : OV → σ → Pr α) (k : α → T) : pB (foB z n r) k = foB z (fun s => pB (n s) k) fun o s => pB (r o s) k := by cases z <;> rfl
theorem nB_fo (z : Fo σ) (n : σ → Pr α) (r : OV → σ → Pr α) (k : α → T) : nB (foB z n r) k = foB z (fun s => nB (n s) k) fun o s => nB (r o s) k := by cases z <;> rfl
def lF (r : Pr (Fo σ)) (rt : OV → σ → T) (k : σ → T) : T := pB r fun z => foB z k rt
theorem lF_d (r : Pr (Fo σ)) (rt : OV → σ → T) (k : σ → T) : lF r rt k = pB r fun z => foB z k rt := rfl
@[simp] theorem lF_nx (s : σ) (rt : OV → σ → T) (k : σ → T) : lF (.ok (.nx s)) rt k = k s := rfl
@[simp] theorem lF_rt (o : OV) (s : σ) (rt : OV → σ → T) (k : σ → T) : lF (.ok (.rt o s)) rt k = rt o s := rfl
def forF (b : D → σ → Pr (Fo σ)) : List D → σ → Pr (Fo σ)
 | [], s => .ok (.nx s)
 | x :: xs, s => pB (b x s) fun z => match z with
  | .nx s => forF b xs s
  | .bk s => .ok (.nx s)
  | .rt o s => .ok (.rt o s)
theorem for_rBF {t : D → Env → Option Env} {b : M Fl} {E : σ → Env} {pb : D → σ → Pr (Fo σ)} (H : ∀ x s, stp t b x (E s) = pB (pb x s) fun z => .ok (foF E z)) (k : Fl → Env → T) : ∀ xs s, rB (forGo t b xs (E s)) k hE = pB (forF pb xs s) fun z => foB z (fun s => k .nx (E s)) fun o s => k (.rt o) (E s)
 | [], s => rfl
 | x :: xs, s => by
  rw [rB_forGo, H, pB_p, forF, pB_p]
  congr
  funext z
  cases z with
  | nx s' => exact for_rBF H k xs s'
  | bk s' => rfl
  | rt o s' => rfl
def lst1 (vs : List Nat) (t : D → Env → Option Env) (tst : M Bool) (e : M D) (x : D) (ρ : Env) : Pr (Option D × Env) := oB (t x ρ) fun ρ1 => rB (tst ρ1) (fun b ρ2 => if b = true then rB (e ρ2) (fun y ρ3 => .ok (some y, wipeE ρ3 vs)) hN else .ok (none, wipeE ρ2 vs)) hN
def opC (o : Option D) (ys : List D) : List D := match o with
 | some y => y :: ys
 | none => ys
def lcP (pe : D → Pr (Option D)) : List D → Pr (List D)
 | [] => .ok []
 | x :: xs => nB (pe x) fun o => nB (lcP pe xs) fun ys => .ok (opC o ys)
def lcS (pe : D → σ → Pr (Option D × σ)) : List D → σ → Pr (List D × σ)
 | [], s => .ok ([], s)
 | x :: xs, s => nB (pe x s) fun o => nB (lcS pe xs o.2) fun z => .ok (opC o.1 z.1, z.2)
theorem rB_lcGo (vs : List Nat) (t : D → Env → Option Env) (tst : M Bool) (e : M D) (x : D) (xs : List D) (ρ : Env) (k : List D → Env → T) (h : Exc → Env → T) : rB (lcGo vs t tst e (x :: xs) ρ) k h = nB (lst1 vs t tst e x ρ) fun o => rB (lcGo vs t tst e xs o.2) (fun ys ρ' => k (opC o.1 ys) ρ') hN := by
 have hd : lcGo vs t tst e (x :: xs) ρ = match t x ρ with
  | none => .bad
  | some ρ1 => (tst ρ1).bindN fun b ρ2 => if b = true then (e ρ2).bindN fun y ρ3 => (lcGo vs t tst e xs (wipeE ρ3 vs)).bindN fun ys ρ4 => .ok (y :: ys) ρ4 else lcGo vs t tst e xs (wipeE ρ2 vs) := rfl
 have nx : ∀ (xs : List D) (ρ : Env) (h h' : Exc → Env → T) (k : List D → Env → T), rB (lcGo vs t tst e xs ρ) k h = rB (lcGo vs t tst e xs ρ) k h' := by
  intro xs
  induction xs with
  | nil => intros; rfl
  | cons x xs ih =>
   intro ρ h h' k
   have hd : lcGo vs t tst e (x :: xs) ρ = match t x ρ with
    | none => .bad
    | some ρ1 => (tst ρ1).bindN fun b ρ2 => if b = true then (e ρ2).bindN fun y ρ3 => (lcGo vs t tst e xs (wipeE ρ3 vs)).bindN fun ys ρ4 => .ok (y :: ys) ρ4 else lcGo vs t tst e xs (wipeE ρ2 vs) := rfl
   rw [hd]
   cases t x ρ with
   | none => rfl
   | some ρ1 =>
    show rB ((tst ρ1).bindN _) k h = rB ((tst ρ1).bindN _) k h'
    rw [rB_bindN, rB_bindN]
    congr
    funext b ρ2
    cases b with
    | true => show rB ((e ρ2).bindN _) k h = rB ((e ρ2).bindN _) k h'; rw [rB_bindN, rB_bindN]; congr; funext y ρ3; rw [rB_bindN, rB_bindN]; rfl
    | false => exact ih _ _ _ _
 rw [hd]
 unfold lst1
 cases t x ρ with
 | none => rfl
 | some ρ1 =>
  rw [oB_some]
  show rB ((tst ρ1).bindN _) k h = _
  rw [rB_bindN]
  cases tst ρ1 with
  | ok b ρ2 =>
   cases b with
   | true =>
    show rB ((e ρ2).bindN _) k h = nB (rB (e ρ2) _ hN) _
    rw [rB_bindN]
    cases e ρ2 with
    | ok y ρ3 =>
     show rB ((lcGo vs t tst e xs (wipeE ρ3 vs)).bindN _) k h = rB (lcGo vs t tst e xs (wipeE ρ3 vs)) _ hN
     rw [rB_bindN]
     rfl
    | ex ξ ρ3 => rfl
    | bad => rfl
   | false => exact nx _ _ _ _ _
  | ex ξ ρ2 => rfl
  | bad => rfl
theorem lc_rB {vs : List Nat} {t : D → Env → Option Env} {tst : M Bool} {e : M D} {ρ : Env} {pe : D → Pr (Option D)} (H : ∀ x, lst1 vs t tst e x ρ = nB (pe x) fun o => .ok (o, ρ)) : ∀ (xs : List D) (k : List D → Env → T) (h : Exc → Env → T), rB (lcGo vs t tst e xs ρ) k h = nB (lcP pe xs) fun ys => k ys ρ
 | [], k, h => rfl
 | x :: xs, k, h => by
  rw [rB_lcGo, H, nB_n, lcP, nB_n]
  congr
  funext o
  rw [nB_ok, lc_rB H xs, nB_n]
  rfl
theorem lc_rBS {vs : List Nat} {t : D → Env → Option Env} {tst : M Bool} {e : M D} {E : σ → Env} {pe : D → σ → Pr (Option D × σ)} (H : ∀ x s, lst1 vs t tst e x (E s) = nB (pe x s) fun o => .ok (o.1, E o.2)) : ∀ (xs : List D) (s : σ) (k : List D → Env → T) (h : Exc → Env → T), rB (lcGo vs t tst e xs (E s)) k h = nB (lcS pe xs s) fun z => k z.1 (E z.2)
 | [], s, k, h => rfl
 | x :: xs, s, k, h => by
  rw [rB_lcGo, H, nB_n, lcS, nB_n]
  congr
  funext o
  rw [nB_ok, lc_rBS H xs, nB_n]
  rfl
theorem rB_lc (vs : List Nat) (it : M (List D)) (t : D → Env → Option Env) (tst : M Bool) (e : M D) (ρ : Env) (k : List D → Env → T) (h : Exc → Env → T) : rB (mLc vs it t tst e ρ) k h = rB (it ρ) (fun xs ρ1 => if dataAt ρ1 vs = true then rB (lcGo vs t tst e xs (wipeE ρ1 vs)) (fun ys ρ2 => k ys (backE ρ1 vs ρ2)) hN else Tg.bad) h := by
 unfold mLc; rw [rB_bind]; congr; funext xs ρ1; rw [rB_i, rB_bindN]; rfl
theorem rB_lcN (c : FC) (it b : M (List D)) (ρ : Env) (k : List D → Env → T) (h : Exc → Env → T) : rB (mLcN c it b ρ) k h = rB (it ρ) (fun xs ρ1 => if dataAt ρ1 c.vs = true then rB (cLoop c b xs (wipeE ρ1 c.vs)) (fun ys ρ2 => k ys (backE ρ1 c.vs ρ2)) hN else Tg.bad) h := by
 unfold mLcN; rw [rB_bind]; congr; funext xs ρ1; rw [rB_i, rB_bindN]; rfl
theorem rB_cIn (c : FC) (it b : M (List D)) (ρ : Env) (k : List D → Env → T) (h : Exc → Env → T) : rB (cIn c it b ρ) k h = rB (it ρ) (fun xs ρ1 => rB (cLoop c b xs (wipeE ρ1 c.vs)) k h) hN := by
 unfold cIn; rw [rB_bindN]
theorem rB_cEnd (e : M D) (ρ : Env) (k : List D → Env → T) (h : Exc → Env → T) : rB (cEnd e ρ) k h = rB (e ρ) (fun y ρ1 => k [y] ρ1) hN := by
 unfold cEnd; rw [rB_bindN]; rfl
def szO (ys : List D) : Option (List D) := if ys.length ≤ sizeLine then some ys else none
theorem rB_lc2 (vs : List Nat) (it : M (List D)) (t : D → Env → Option Env) (tst : M Bool) (vs1 : List Nat) (it1 : M (List D)) (t1 : D → Env → Option Env) (tst1 : M Bool) (e : M D) (ρ : Env) (k : List D → Env → T) (h : Exc → Env → T) : rB (mLc2 vs it t tst vs1 it1 t1 tst1 e ρ) k h = rB (mLcN ⟨vs, t, tst⟩ it (cIn ⟨vs1, t1, tst1⟩ it1 (cEnd e)) ρ) (fun ys ρ1 => oB (szO ys) fun ys => k ys ρ1) h := by
 unfold mLc2; rw [rB_bind]; congr; funext ys ρ1
 unfold szO
 rw [rB_i]
 split <;> rfl
theorem rB_dc (vs : List Nat) (it : M (List D)) (t : D → Env → Option Env) (tst : M Bool) (x y : M D) (ρ : Env) (k : KD → Env → T) (h : Exc → Env → T) : rB (mDc vs it t tst x y ρ) k h = rB (mLcN ⟨vs, t, tst⟩ it (cEnd (mPairE x y)) ρ) (fun ys ρ1 => oB (szO ys) fun ys => k (kdsOf ys) ρ1) h := by
 unfold mDc; rw [rB_bind]; congr; funext ys ρ1
 unfold szO
 rw [rB_i]
 split <;> rfl
noncomputable def iB (c : Prop) (x : T) : T := by
 classical exact if c then x else Tg.bad
theorem iB_t {c : Prop} (h : c) (x : T) : iB c x = x := if_pos h
@[simp] theorem iB_True (x : T) : iB True x = x := if_pos trivial
theorem pB_iB (c : Prop) (x : Pr α) (k : α → T) : pB (iB c x) k = iB c (pB x k) := by
 by_cases h : c
 ·rw [iB_t h, iB_t h]
 ·unfold iB; rw [if_neg h, if_neg h]; rfl
theorem nB_iB (c : Prop) (x : Pr α) (k : α → T) : nB (iB c x) k = iB c (nB x k) := by
 by_cases h : c
 ·rw [iB_t h, iB_t h]
 ·unfold iB; rw [if_neg h, if_neg h]; rfl
theorem rB_tmp (i : Nat) (fb : List Nat) (b : M Fl) (ρ : Env) (k : Fl → Env → T) (h : Exc → Env → T) : rB (sTmp i fb b ρ) k h = oB (lO (gt ρ i)) fun xs => rB (b (ρ.set i (some (.d (.list xs))))) (fun f ρ' => sq f (iB (ρ'[i]? = some (some (.d (.list xs))) ∧ okSlots i fb 0 (ρ.set i (some (.d (.list xs)))) ρ') (k .nx (ρ'.set i (some (.lst xs))))) Tg.bad) hN := by
 unfold sTmp gt
 cases ρ[i]? with
 | none => rfl
 | some w => cases w with
  | none => rfl
  | some o => cases o with
   | lst xs =>
    simp only [lO, oB_some]
    cases b (ρ.set i (some (.d (.list xs)))) with
    | ok f ρ' =>
     cases f with
     | nx =>
      by_cases q : ρ'[i]? = some (some (.d (.list xs))) ∧ okSlots i fb 0 (ρ.set i (some (.d (.list xs)))) ρ'
      ·simp only [rB, sq, iB_t q, if_pos q]
      ·simp only [rB, sq, iB, if_neg q]
     | _ => rfl
    | ex ξ ρ' => rfl
    | bad => rfl
   | _ => rfl
end
section
variable {α σ : Type}
theorem forS_inv {b : D → σ → Pr σ} : ∀ {xs : List D} {s : σ} (I : Nat → σ → Prop), I 0 s → (∀ i x s, xs[i]? = some x → I i s → ∃ s', b x s = .ok s' ∧ I (i + 1) s') → ∃ s', forS b xs s = .ok s' ∧ I xs.length s'
 | [], s, I, h0, _ => ⟨s, rfl, h0⟩
 | x :: xs, s, I, h0, hs => by
  obtain ⟨s1, h2, h3⟩ := hs 0 x s rfl h0
  obtain ⟨s', h4, h5⟩ := forS_inv (xs := xs) (s := s1) (fun i => I (i + 1)) h3 fun i y s hy hp => hs (i + 1) y s (by simpa using hy) hp
  exact ⟨s', by rw [forS, h2]; exact h4, h5⟩
theorem forS_map {b : D → σ → Pr σ} {f : α → D} : ∀ {l : List α} {s : σ} (I : List α → σ → Prop), I [] s → (∀ pre a post s, l = pre ++ a :: post → I pre s → ∃ s', b (f a) s = .ok s' ∧ I (pre ++ [a]) s') → ∃ s', forS b (l.map f) s = .ok s' ∧ I l s'
 | l, s, I, h0, hs => by
  obtain ⟨s', h1, h2⟩ := forS_inv (b := b) (xs := l.map f) (s := s) (fun i s => I (l.take i) s) (by simpa using h0) fun i x s hx hI => by
   rw [List.getElem?_map] at hx
   obtain ⟨a, ha, rfl⟩ := Option.map_eq_some_iff.mp hx
   obtain ⟨hi, e⟩ := List.getElem?_eq_some_iff.mp ha
   have sp : l = l.take i ++ a :: l.drop (i + 1) := by rw [← e]; simp
   obtain ⟨s', k1, k2⟩ := hs _ _ _ s sp hI
   exact ⟨s', k1, by rw [List.take_add_one, ha]; exact k2⟩
  rw [List.length_map, List.take_length] at h2
  exact ⟨s', h1, h2⟩
theorem forF_inv {b : D → σ → Pr (Fo σ)} : ∀ {xs : List D} {s : σ} (I : Nat → σ → Prop) (R : Fo σ → Prop), I 0 s → (∀ s, I xs.length s → R (.nx s)) → (∀ i x s, xs[i]? = some x → I i s → (∃ s', b x s = .ok (.nx s') ∧ I (i + 1) s') ∨ (∃ s', b x s = .ok (.bk s') ∧ R (.nx s')) ∨ ∃ o s', b x s = .ok (.rt o s') ∧ R (.rt o s')) → ∃ z, forF b xs s = .ok z ∧ R z
 | [], s, I, R, h0, hn, _ => ⟨.nx s, rfl, hn s h0⟩
 | x :: xs, s, I, R, h0, hn, hs => by
  rcases hs 0 x s rfl h0 with ⟨s1, h2, h3⟩ | ⟨s1, h2, h3⟩ | ⟨o, s1, h2, h3⟩
  ·obtain ⟨z, h4, h5⟩ := forF_inv (xs := xs) (s := s1) (fun i => I (i + 1)) R h3 hn fun i y s hy hp => hs (i + 1) y s (by simpa using hy) hp
   exact ⟨z, by rw [forF, h2]; exact h4, h5⟩
  ·exact ⟨.nx s1, by rw [forF, h2]; rfl, h3⟩
  ·exact ⟨.rt o s1, by rw [forF, h2]; rfl, h3⟩
theorem forF_all {b : D → σ → Pr (Fo σ)} : ∀ {xs : List D} {s : σ} (I : Nat → σ → Prop), I 0 s → (∀ i x s, xs[i]? = some x → I i s → ∃ s', b x s = .ok (.nx s') ∧ I (i + 1) s') → ∃ s', forF b xs s = .ok (.nx s') ∧ I xs.length s'
 | xs, s, I, h0, hs => by
  obtain ⟨z, h1, s', rfl, h2⟩ := forF_inv (b := b) (xs := xs) (s := s) I (fun z => ∃ s', z = .nx s' ∧ I xs.length s') h0 (fun s h => ⟨s, rfl, h⟩) fun i x s hx hI => .inl (hs i x s hx hI)
  exact ⟨s', h1, h2⟩
theorem lcP_map {pe : D → Pr (Option D)} {f : α → D} {g : α → D} : ∀ {l : List α}, (∀ a ∈ l, pe (f a) = .ok (some (g a))) → lcP pe (l.map f) = .ok (l.map g)
 | [], _ => rfl
 | a :: l, h => by
  rw [List.map_cons, lcP, h a List.mem_cons_self, nB_ok, lcP_map fun y hy => h y (List.mem_cons_of_mem _ hy)]
  rfl
theorem lcP_filt {pe : D → Pr (Option D)} {f : α → D} {g : α → D} {p : α → Bool} : ∀ {l : List α}, (∀ a ∈ l, pe (f a) = .ok (if p a = true then some (g a) else none)) → lcP pe (l.map f) = .ok ((l.filter p).map g)
 | [], _ => rfl
 | a :: l, h => by
  rw [List.map_cons, lcP, h a List.mem_cons_self, nB_ok, lcP_filt fun y hy => h y (List.mem_cons_of_mem _ hy)]
  cases q : p a with
  | true => rw [List.filter_cons_of_pos q]; rfl
  | false => rw [List.filter_cons_of_neg (by rw [q]; exact Bool.false_ne_true)]; rfl
theorem lcS_inv {pe : D → σ → Pr (Option D × σ)} {β : Type} {G : β → D} : ∀ {xs : List D} {s : σ} (I : Nat → List β → σ → Prop), I 0 [] s → (∀ i x ys s, xs[i]? = some x → I i ys s → ∃ y s', pe x s = .ok (some (G y), s') ∧ I (i + 1) (ys ++ [y]) s') → ∃ ys s', lcS pe xs s = .ok (ys.map G, s') ∧ I xs.length ys s'
 | xs, s, I, h0, hs => by
  have gen : ∀ (xs : List D) (i : Nat) (pre : List β) (s : σ), I i pre s → (∀ j x ys s, xs[j]? = some x → I (i + j) ys s → ∃ y s', pe x s = .ok (some (G y), s') ∧ I (i + j + 1) (ys ++ [y]) s') → ∃ ys s', lcS pe xs s = .ok (ys.map G, s') ∧ I (i + xs.length) (pre ++ ys) s' := by
   intro xs
   induction xs with
   | nil => intro i pre s h _; exact ⟨[], s, rfl, by simpa using h⟩
   | cons x xs ih =>
    intro i pre s h hs
    obtain ⟨y, s1, h1, h2⟩ := hs 0 x pre s rfl h
    obtain ⟨ys, s', h3, h4⟩ := ih (i + 1) (pre ++ [y]) s1 h2 fun j x ys s hx hI => by
     have := hs (j + 1) x ys s (by simpa using hx) (by rw [show i + (j + 1) = i + 1 + j by omega]; exact hI)
     rw [show i + (j + 1) + 1 = i + 1 + j + 1 by omega] at this
     exact this
    refine ⟨y :: ys, s', ?_, ?_⟩
    ·rw [lcS, h1, nB_ok, h3]; rfl
    ·rw [List.length_cons, show i + (xs.length + 1) = i + 1 + xs.length by omega]
     simpa using h4
  obtain ⟨ys, s', h1, h2⟩ := gen xs 0 [] s h0 fun j x ys s hx hI => by
   rw [Nat.zero_add] at hI ⊢
   exact hs j x ys s hx hI
  exact ⟨ys, s', h1, by simpa using h2⟩
end
end DL
end
section
namespace DL
open PySem PySem.Spec PyProof.Rows L2 PySem.W
theorem ite_b {T : Type} (b : Bool) (x y : T) : (if (!b) = true then x else y) = if b = true then y else x := by cases b <;> rfl
theorem if_tt {T : Type} (x y : T) : (if true = true then x else y) = x := rfl
theorem if_ff {T : Type} (x y : T) : (if false = true then x else y) = y := rfl
theorem if_T {T : Type} [d : Decidable True] (x y : T) : (@ite T True d x y) = x := if_pos trivial
theorem if_F {T : Type} [d : Decidable False] (x y : T) : (@ite T False d x y) = y := if_neg id
theorem tt_and (b : Bool) : (true && b) = b := rfl
theorem ff_or (b : Bool) : (false || b) = b := rfl
theorem not_ff : (!false) = true := rfl
theorem cont_n (v : Nat) : ([] : List Nat).contains v = false := rfl
theorem cont_c (a v : Nat) (l : List Nat) : (a :: l).contains v = ((v == a) || l.contains v) := List.contains_cons
theorem gt_getE (a : Option OV) (ρ : Env) (i : Nat) : (a :: ρ)[i + 1]? = ρ[i]? := List.getElem?_cons_succ
theorem gt_z (a : Option OV) (ρ : Env) : (a :: ρ)[0]? = some a := rfl
theorem set_s (a w : Option OV) (ρ : Env) (i : Nat) : List.set (a :: ρ) (i + 1) w = a :: List.set ρ i w := rfl
theorem set_z (a w : Option OV) (ρ : Env) : List.set (a :: ρ) 0 w = w :: ρ := rfl
theorem nil_app' (z : OV) : ([] : List OV) ++ [z] = [z] := rfl
theorem con_app' (a z : OV) (r : List OV) : (a :: r) ++ [z] = a :: (r ++ [z]) := rfl
theorem bind_some' {α β : Type} (a : α) (f : α → Option β) : (some a).bind f = f a := rfl
theorem dAt_nil (ρ : Env) : dataAt ρ [] = true := rfl
theorem dAt_d (ρ : Env) (v : Nat) (vs : List Nat) : dataAt ρ (v :: vs) = ((match gt ρ v with
  | some (.d _) => !vs.contains v
  | some _ => false
  | _ => true) && dataAt ρ vs) := by
 unfold gt
 rw [dataAt]
 cases ρ[v]? with
 | none => rfl
 | some w => cases w with
  | none => rfl
  | some o => cases o <;> rfl
theorem back_nil (ρ1 ρ2 : Env) : backE ρ1 [] ρ2 = ρ2 := rfl
theorem back_cons (ρ1 ρ2 : Env) (v : Nat) (vs : List Nat) : backE ρ1 (v :: vs) ρ2 = backE ρ1 vs (ρ2.set v (gt ρ1 v)) := rfl
theorem fst_d {α β : Type} (a : α) (b : β) : (a, b).1 = a := rfl
theorem snd_d {α β : Type} (a : α) (b : β) : (a, b).2 = b := rfl
abbrev RB1 := And.intro @oB_some <| And.intro @oB_none <| And.intro @pB_ok <| And.intro @pB_ex <| And.intro @pB_bad <| And.intro @nB_ok <| And.intro @nB_ex <| And.intro @nB_bad <| And.intro @cX_ok <| And.intro @cX_ex <| And.intro @cX_bad <| And.intro @tH_t <| And.intro @tH_f <| And.intro @bad_rf <| And.intro @ex_rf <| And.intro @bad_pr <| And.intro @ex_pr <| And.intro @pB_o <| And.intro @pB_p <| And.intro @pB_n <| And.intro @pB_x <| And.intro @pB_i <| And.intro @pB_h <| And.intro @nB_o <| And.intro @nB_p <| And.intro @nB_n <| And.intro @nB_x <| And.intro @nB_i <| And.intro @cB_d <| And.intro @gt_0 <| And.intro @gt_s <| And.intro @gt_tail <| And.intro @dO_d <| And.intro @lO_l <| And.intro @lk_d <| And.intro @lk_l <| And.intro @fz_d <| And.intro @fz_l <| And.intro @bO_b <| And.intro @iO_i <| And.intro @sO_s <| And.intro @foB_nx <| And.intro @foB_rt <| And.intro @pB_fo <| And.intro @nB_fo <| And.intro @lF_d <| And.intro @pB_iB @nB_iB
abbrev RB2 := And.intro @rB_ok <| And.intro @rB_ex <| And.intro @rB_bad <| And.intro @rB_i <| And.intro @rB_var <| And.intro @rB_C <| And.intro @rB_look <| And.intro @rB_frzV <| And.intro @rB_bin <| And.intro @rB_f1 <| And.intro @rB_chain <| And.intro @rB_mV <| And.intro @rB_andV <| And.intro @rB_orV <| And.intro @rB_notV <| And.intro @rB_tup <| And.intro @rB_lstF <| And.intro @rB_frz <| And.intro @rB_sl <| And.intro @rB_LM <| And.intro @rB_extend <| And.intro @rB_lenK <| And.intro @rB_txt <| And.intro @rB_dict <| And.intro @rB_dcF <| And.intro @rB_pairE <| And.intro @rB_nilP <| And.intro @rB_consP <| And.intro @rB_B <| And.intro @rB_and <| And.intro @rB_or <| And.intro @rB_not <| And.intro @rB_yes <| And.intro @rB_if <| And.intro @rB_nil <| And.intro @rB_cons <| And.intro @rB_fN <| And.intro @rB_binN <| And.intro @rB_items <| And.intro @rB_itemsP <| And.intro @rB_range1 <| And.intro @rB_range2 <| And.intro @rB_range3 <| And.intro @rB_zip <| And.intro @rB_enum <| And.intro @rB_enumA <| And.intro @rB_sortK <| And.intro @rB_setOf <| And.intro @rB_setC <| And.intro @rB_setOr <| And.intro @rB_bNo <| And.intro @rB_bTo <| And.intro @rB_D <| And.intro @rB_lst <| And.intro @rB_move <| And.intro @rB_dictO @rB_dcO
abbrev RB3 := And.intro @rB_call <| And.intro @rB_callT <| And.intro @rB_gNil <| And.intro @rB_gD <| And.intro @rB_gO <| And.intro @rB_gT <| And.intro @rB_gDt <| And.intro @rB_gOt <| And.intro @gath_nil <| And.intro @gath_d <| And.intro @gath_o <| And.intro @pb_nil <| And.intro @pb_d <| And.intro @pb_o <| And.intro @sq_nx <| And.intro @sq_rt <| And.intro @sq_bk <| And.intro @sq_ct <| And.intro @rB_seq <| And.intro @rB_sNil <| And.intro @rB_set <| And.intro @rB_setO <| And.intro @rB_ret <| And.intro @rB_drop <| And.intro @rB_put <| And.intro @rB_par <| And.intro @rB_tgt <| And.intro @rB_aug <| And.intro @rB_raise <| And.intro @rB_sK <| And.intro @rB_sKb <| And.intro @rB_for <| And.intro @rB_try <| And.intro @rB_h0 <| And.intro @rB_h1 <| And.intro @og_name <| And.intro @og_tup <| And.intro @og_star <| And.intro @og_nil <| And.intro @og_cons <| And.intro @twoO_2 <| And.intro @nilO_n <| And.intro @conO_c <| And.intro @endF_rt <| And.intro @endF_nx <| And.intro @endF_bk <| And.intro @endF_ct <| And.intro @cn_nx <| And.intro @cn_ct <| And.intro @cn_bk <| And.intro @cn_rt <| And.intro @foF_nx <| And.intro @foF_bk <| And.intro @foF_rt <| And.intro @rB_lc <| And.intro @rB_lcN <| And.intro @rB_cIn <| And.intro @rB_cEnd <| And.intro @rB_lc2 <| And.intro @rB_dc @rB_tmp
abbrev RB4 := And.intro @tt_and <| And.intro @ff_or <| And.intro @not_ff <| And.intro @cont_n <| And.intro @cont_c <| And.intro @if_T <| And.intro @if_F <| And.intro @ite_b <| And.intro @if_tt <| And.intro @if_ff <| And.intro @gt_getE <| And.intro @gt_z <| And.intro @set_s <| And.intro @set_z <| And.intro @nil_app' <| And.intro @con_app' <| And.intro @bind_some' <| And.intro @dAt_nil <| And.intro @dAt_d <| And.intro @back_nil <| And.intro @back_cons <| And.intro @wipeE_nil <| And.intro @wipeE_cons <| And.intro @fst_d @snd_d
abbrev RB := And.intro RB1 (And.intro RB2 (And.intro RB3 RB4))
end DL
end
section
namespace DL
open PySem PySem.Spec PyProof.Rows L2
abbrev HTr := Value × Option Nat × (Addr → Value → Option Addr → TS)
inductive OnOk (X : Cx) : Option Str → Option Nat → Prop
 | no : OnOk X none none
 | as {n : Str} {i : Nat} (hN : X.N.Nodup) (hi : X.N[i]? = some n) (hl : X.env.kindOf n = some .local) : OnOk X (some n) (some i)
inductive HdsM (X : Cx) : List ExceptHandler → List HTr → Prop
 | nil : HdsM X [] []
 | cons {x : Str} {h : HTr} {b₀ : Stmt} {suite : List Stmt} {np pos' : Pos} {hds : List ExceptHandler} {l : List HTr} {on : Option Str} (hc : Names X x h.1) (ho : OnOk X on h.2.1)
   (hsu : ∀ (a : Addr) (oe : Obj) (cls : Value) (d : Option Addr) (pn : List (Addr × Obj)), Zc cls d oe → (∃ vs, oe.data = .fields vs) → PSs (X.suite a ((a, oe) :: pn)) (b₀ :: suite) (h.2.2 a cls d)) (r : HdsM X hds l) :
   HdsM X (.ExceptHandler (some (.Name x np)) on (b₀ :: suite) pos' :: hds) (h :: l)
section
variable {X : Cx} {Wo : WX} {D : Ends} {a : Addr} {B : Heap} {sI s' : Shared} {pins : List (Addr × Obj)} {σ : Sl} {H : Hp} {cls : Value} {d : Option Addr}
end
end DL
end
section
namespace DL
open PySem PySem.Spec PyProof.Rows L2
section
variable {K : Frag} {ca : Str → Addr} {F H : Hp}
end
def cutI : Option Nat → Env → Env
 | none, ρ => ρ
 | some i, ρ => ρ.set i none
def notFx : Option Nat → List Nat → Bool
 | none, _ => true
 | some i, fx => !fx.contains i
abbrev Ct.su (c : Ct) (F H : Hp) (O : List Addr) (σ : Sl) (i : Option Nat) : Ct := ⟨c.ca, F, H, O, (match i with | some i => i :: c.fx | none => c.fx), σ, fun _ _ _ _ => False⟩
section
variable {K : Frag} {c : Ct} {F H F1 H1 : Hp} {σ σ1 : Sl} {ρ ρ1 : Env} {O O1 : List Addr} {a : Addr}
end
structure HdX where
 cv : Value
 isa : ECls → Option Bool
 ix : Option Nat
 m : Exc → M Fl
abbrev HP := (ECls → Option Bool) × Option Nat × (Exc → M Fl)
def HdX.p (h : HdX) : HP := (h.isa, h.ix, h.m)
def cutR (i : Option Nat) : Res Fl → Res Fl
 | .ok f ρ => .ok f (cutI i ρ)
 | _ => .bad
def tryX : List HP → Exc → M Fl
 | [], ξ => fun ρ => .ex ξ ρ
 | h :: r, ξ => fun ρ => match h.1 ξ.c with
  | some true => cutR h.2.1 (h.2.2 ξ (cutI h.2.1 ρ))
  | some false => tryX r ξ ρ
  | none => .bad
def sTryX (b : M Fl) (hs : List HP) : M Fl := fun ρ => match b ρ with
 | .ok f ρ1 => .ok f ρ1
 | .ex ξ ρ1 => tryX hs ξ ρ1
 | .bad => .bad
structure SuF (K : Frag) (c : Ct) (i : Option Nat) (a : Addr) (cls : Value) (d : Option Addr) (ξ : Exc) : Prop where
 nm : ∀ j, i = some j → j ∈ c.fx ∧ (c.σ[j]? = some (some (.ref a)) ∨ c.σ[j]? = none)
 xr : XR K c.ca c.F c.H cls d ξ
 no : ∀ b ∈ c.O, ∀ fs, c.H b ≠ some (.xd fs)
inductive HsX (X : Cx) (c : Ct) : List ExceptHandler → List HdX → Prop
 | nil : HsX X c [] []
 | cons {x : Str} {h : HdX} {b₀ : Stmt} {suite : List Stmt} {np pos' : Pos} {hds : List ExceptHandler} {l : List HdX} {on : Option Str} (hc : Names X x h.cv) (ho : OnOk X on h.ix) (nf : notFx h.ix c.fx = true)
   (hi : ∀ e b, h.isa e = some b → PySem.W.exmOne X.K (ecV c.ca e) h.cv = some b)
   (hsu : ∀ (a : Addr) (oe : Obj) (cls : Value) (d : Option Addr) (pn : List (Addr × Obj)) (F H : Hp) (O : List Addr) (σ : Sl) (ξ : Exc), Zc cls d oe → (∃ vs, oe.data = .fields vs) → SuF X.K (c.su F H O σ h.ix) h.ix a cls d ξ →
    PSs (X.suite a ((a, oe) :: pn)) (b₀ :: suite) (ts X.K (c.su F H O σ h.ix) (h.m ξ))) (r : HsX X c hds l) :
   HsX X c (.ExceptHandler (some (.Name x np)) on (b₀ :: suite) pos' :: hds) (h :: l)
section
variable {X : Cx} {c : Ct} {body : List Stmt} {hds : List ExceptHandler} {h₀ : ExceptHandler} {l : List HdX} {b : M Fl} {pos : Pos}
end
def xfO (ys : List Str) (ξ : Exc) (f : Str) : Option D := match ξ.c with
 | .own y => if y ∈ ys then ξ.fs.lookup f else none
 | .blt _ => none
def mXf (ys : List Str) (ξ : Exc) (f : Str) : M D := fun ρ => ofO (xfO ys ξ f) ρ
section
variable {X : Cx} {c : Ct} {a : Addr} {oe : Obj} {cls : Value} {d : Option Addr} {pn : List (Addr × Obj)} {ξ : Exc} {pos pos' : Pos} {f x : Str}
end
end DL
end
section
namespace DL
open PySem PySem.Spec PyProof.Rows L2
section
variable {X : Cx} {e : Expr} {es : List Expr} {ta : TA} {x : Str} {S : Addr} {p1 p2 pos : Pos}
end
section
variable {P : Program} {w : World} {K : Frag} {mg : Str → Option Value} {base : Heap} {x qual g g2 : Str} {params : Arguments} {body : List Stmt} {scope : Scope} {dvs : List V} {kws : List (Str × V)} {f C : Addr} {fd : FuncData} {k : Nat} {m : V}
end
structure XnC (K : Frag) (C fI : Addr) : Prop where
 T : OexC K C
 iC : PySem.W.findIn K (.ref C) "__init__" = some (some (.ref fI))
 tI : PySem.W.typeIn K (.ref fI) = some (.type "function")
def avD : List AV → Option (List D)
 | [] => some []
 | .d x :: r => (avD r).map (x :: ·)
 | .o _ :: _ => none
def sRaiseX (y : Str) (gs : List Str) (m : M (List AV)) : M Fl := fun ρ => (m ρ).bind fun as ρ1 => match avD as with
 | some xs => if xs.length = gs.length then .ex ⟨.own y, (gs.zip xs).reverse⟩ ρ1 else .bad
 | none => .bad
section
variable {X : Cx} {c : Ct} {CX : CXT} {C fI : Addr} {fd : FuncData} {ps gs : List Str} {k : Nat} {x y : Str} {e : Expr} {es : List Expr} {m : M (List AV)} {p pos pos' : Pos}
end
end DL
end
section
namespace DL
open PySem PySem.Spec PyProof.Rows L2
def oexB (K : Frag) (C : Addr) : Bool := (match K.lookup C with
 | some ⟨.type t, _, .cls cd, sl⟩ => decide (t = "type") && (match cd.mro, sl.toList with
  | .ref D :: bm, [_, _, _, _, some (.builtin n), _] => decide (D = C) && (decide (n = "ValueError.__new__") && (!cd.hasDel && (cd.hasDict && HandSPX.refsVE bm)))
  | _, _ => false)
 | _ => false) && (decide (PySem.W.findIn K (.ref C) "__setattr__" = some (some (.builtin "object.__setattr__"))) && (decide (PySem.W.subIn K (.ref C) (.type "BaseException") = some true) && (decide (PySem.W.typeIn K (.ref C) = some (.type "type")) && PySem.W.keepIn K (.ref C))))
def xbB (K : Frag) (S : Addr) : Bool := decide (PySem.W.specialIn K (.ref S) "__getattribute__" = some (some (.builtin "type.__getattribute__"))) && (PySem.W.readsIn K S (.type "type") &&
 (match PySem.W.findCls K (.ref S) (.type "type") "__init__" with
 | some (.val (.builtin n)) => decide (n = "ValueError.__init__")
 | _ => false))
def etB (K : Frag) (a : Addr) : Bool := match K.lookup a with
 | some ⟨.type t, none, .seq its _, _⟩ => decide (t = "tuple") && its.toList.isEmpty
 | _ => false
def kwAt (f x : Str) (K : PySem.W.Frag) : Addr := match K.lookup (He.fAd K (f, none)) with
 | some ⟨_, _, .func fd, _⟩ => (match fd.kwdefaults with
  | .ref D => (match PySem.W.nsIn K D x with
   | some (some (.ref b)) => b
   | _ => 0)
  | _ => 0)
 | _ => 0
inductive Fx where
 | oex (x : Str) | xb (x : Str) | xf (x : Str) | et (f : Str) (i : Nat) | ek (f x : Str)
def Fx.ok (K : Frag) : Fx → Bool
 | .oex x => oexB K (He.ga K x)
 | .xb x => xbB K (He.ga K x)
 | .xf x => xfB K (He.ga K x)
 | .et f i => etB K (He.dflAt (f, none) i K)
 | .ek f x => etB K (kwAt f x K)
def fxB (l : List Fx) (K : Frag) : Bool := l.all fun f => f.ok K
abbrev AlZ : Type := He.AlD × Bool
def obsZ (n : Nat) (xs : List Addr) (fa : List He.Fa) (fn : List He.DefD) (fx : List Fx) (g : Addr → Option Obj) : AlZ := (He.obsD fa fn (He.frG g (He.asD g n ++ xs)), fxB fx (He.frG g (He.asD g n ++ xs)))
def hookZ (n : Nat) (xs : List Addr) (fa : List He.Fa) (fn : List He.DefD) (fx : List Fx) : PySem.W.Hook where
 α := AlZ
 obs := fun s => obsZ n xs fa fn fx s.heap.get?
 val := fun _ => (He.valD fn, true)
 says := fun _ h => ∃ K : PySem.W.Frag, K.In h ∧ He.SaysD fa fn K ∧ fxB fx K = true
 of := fun _ _ e => ⟨_, He.frG_in, congrArg (fun z : AlZ => z.1) e, congrArg (fun z : AlZ => z.2) e⟩
 keeps := fun _ _ _ ⟨K, hK, c⟩ k => ⟨K, PySem.W.Frag.In.keeps hK k, c⟩
theorem obsZ_eq {n : Nat} {xs : List Addr} {fa : List He.Fa} {fn : List He.DefD} {fx : List Fx} {g : Addr → Option Obj} {s : Shared} (h : ∀ a, g a = s.heap.get? a) : obsZ n xs fa fn fx g = (hookZ n xs fa fn fx).obs s := by
 have e : g = s.heap.get? := funext h
 rw [e] <;> rfl
section
variable {T : Type} [Tg T] {ρ : DL.Env}
section
variable {k : D → DL.Env → T} {h : Exc → DL.Env → T}
theorem rB_xf (ys : List Str) (ξ : Exc) (f : Str) : rB (mXf ys ξ f ρ) k h = oB (xfO ys ξ f) fun x => k x ρ := by unfold mXf; rw [rB_ofO]
end
variable {k : Fl → DL.Env → T} {h : Exc → DL.Env → T}
def xcO (y : Str) (gs : List Str) (as : List AV) : Option Exc := (avD as).bind fun xs => if xs.length = gs.length then some ⟨.own y, (gs.zip xs).reverse⟩ else none
theorem xcO_1 (y g : Str) (x : D) : xcO y [g] [.d x] = some ⟨.own y, [(g, x)]⟩ := rfl
theorem xcO_2 (y g g2 : Str) (x z : D) : xcO y [g, g2] [.d x, .d z] = some ⟨.own y, [(g2, z), (g, x)]⟩ := rfl
theorem rB_raiseX (y : Str) (gs : List Str) (m : M (List AV)) : rB (sRaiseX y gs m ρ) k h = rB (m ρ) (fun as ρ1 => oB (xcO y gs as) fun ξ => h ξ ρ1) h := by
 unfold sRaiseX; rw [rB_bind]; congr; funext as ρ1
 unfold xcO
 cases avD as with
 | none => rfl
 | some xs =>
  show rB (if xs.length = gs.length then _ else _) k h = oB (if xs.length = gs.length then _ else _) _
  by_cases e : xs.length = gs.length
  ·rw [if_pos e, if_pos e]; rfl
  ·rw [if_neg e, if_neg e]; rfl
theorem rB_tryX (b : M Fl) (hs : List HP) : rB (sTryX b hs ρ) k h = rB (b ρ) k fun ξ ρ1 => rB (tryX hs ξ ρ1) k h := by
 unfold sTryX; cases b ρ <;> rfl
theorem rB_tx0 (ξ : Exc) : rB (tryX [] ξ ρ) k h = h ξ ρ := rfl
theorem rB_tx1 (x : HP) (r : List HP) (ξ : Exc) : rB (tryX (x :: r) ξ ρ) k h = tH (x.1 ξ.c) (rB (x.2.2 ξ (cutI x.2.1 ρ)) (fun f ρ1 => k f (cutI x.2.1 ρ1)) hN) (rB (tryX r ξ ρ) k h) := by
 rw [tryX]
 rcases x.1 ξ.c with _ | _ | _
 ·rfl
 ·rfl
 ·show rB (cutR _ _) k h = rB _ _ _
  cases x.2.2 ξ (cutI x.2.1 ρ) <;> rfl
theorem cutI_n (ρ : DL.Env) : cutI none ρ = ρ := rfl
theorem cutI_s (i : Nat) (ρ : DL.Env) : cutI (some i) ρ = ρ.set i none := rfl
end
abbrev RBX := And.intro @rB_xf <| And.intro @xcO_1 <| And.intro @xcO_2 <| And.intro @rB_raiseX <| And.intro @rB_tryX <| And.intro @rB_tx0 <| And.intro @rB_tx1 <| And.intro @cutI_n @cutI_s
end DL
end
namespace DL
open PySem PySem.Spec PyProof.Rows L2
section
variable {X : Cx} {c : Ct} {pos : Pos}
theorem vvA (i : Nat) {x : Str} (hN : X.N[i]? = some x := by rfl) (hv : visB X.env.scope x = true := by kernel_rfl) (hd : (x == ("__debug__" : Str)) = false := by kernel_rfl) (hcd : (x == ("__classdict__" : Str)) = false := by kernel_rfl) : PE X (.Name x pos) (te X.K c false true (mVar i)) := se_var i hN (vis_of hv) hd hcd
theorem vkA (i : Nat) {x : Str} (hN : X.N[i]? = some x := by rfl) (hv : visB X.env.scope x = true := by kernel_rfl) (hd : (x == ("__debug__" : Str)) = false := by kernel_rfl) (hcd : (x == ("__classdict__" : Str)) = false := by kernel_rfl) : PE X (.Name x pos) (te X.K c true true (mLook i)) := se_look i hN (vis_of hv) hd hcd
theorem loA {sc : Scope} {x : Str} (h : locB sc x = true := by kernel_rfl) : Loc sc x := loc_of h
theorem glA {X : Cx} {x : Str} (h : X.env.scope.names.lookup x = some .globalImplicit := by kernel_rfl) : Gl X x := gl_of h
end
end DL
section
namespace K11
open PySem PySem.Spec PyProof.Rows L2 DL
abbrev P : Program := PySem.Challenge.pw_shutnames_k11_counts_names_and_holes
def top (i : Nat) : Stmt := P.main.body.getD i (.Pass ⟨0, 0, 0, 0⟩)
abbrev s_is_called : Stmt := top 7
abbrev s_is_name : Stmt := top 8
abbrev s_is_turn : Stmt := top 9
abbrev s_is_hole : Stmt := top 12
abbrev s_is_term : Stmt := top 13
abbrev s_sure_terms : Stmt := top 14
abbrev s_inner : Stmt := top 15
abbrev s_every_part : Stmt := top 16
abbrev s_own_names : Stmt := top 17
abbrev s_all_names : Stmt := top 18
abbrev s_all_holes : Stmt := top 19
abbrev s_parts_of : Stmt := top 20
abbrev s_level_count : Stmt := top 21
abbrev s_levels_of : Stmt := top 22
abbrev s_names_in : Stmt := top 23
abbrev s_holes_in : Stmt := top 24
abbrev s__law_mixed : Stmt := top 26
abbrev s__law_pile : Stmt := top 27
abbrev s__law_take : Stmt := top 28
abbrev s__law_name : Stmt := top 29
abbrev s__law_names : Stmt := top 30
abbrev s__law_order : Stmt := top 31
abbrev s__law_turn : Stmt := top 32
abbrev s__law_holes : Stmt := top 33
abbrev s__law_sign : Stmt := top 34
abbrev s__law_term : Stmt := top 35
abbrev s__law_any : Stmt := top 36
abbrev s__law_in : Stmt := top 37
abbrev s__law_parts : Stmt := top 38
abbrev s__law_levels : Stmt := top 39
abbrev s__law_own : Stmt := top 40
abbrev s__law_is_count : Stmt := top 41
abbrev s_law : Stmt := top 42
open PySem PySem.Spec PyProof.Rows L2 DL
def dd_is_called : He.DefD := ⟨("is_called", none), "is_called", "is_called", defArgs s_is_called, defBody s_is_called, defScope s_is_called, [], []⟩
def dd_is_name : He.DefD := ⟨("is_name", none), "is_name", "is_name", defArgs s_is_name, defBody s_is_name, defScope s_is_name, [], []⟩
def dd_is_turn : He.DefD := ⟨("is_turn", none), "is_turn", "is_turn", defArgs s_is_turn, defBody s_is_turn, defScope s_is_turn, [], []⟩
def dd_is_hole : He.DefD := ⟨("is_hole", none), "is_hole", "is_hole", defArgs s_is_hole, defBody s_is_hole, defScope s_is_hole, [], []⟩
def dd_is_term : He.DefD := ⟨("is_term", none), "is_term", "is_term", defArgs s_is_term, defBody s_is_term, defScope s_is_term, [], []⟩
def dd_sure_terms : He.DefD := ⟨("sure_terms", none), "sure_terms", "sure_terms", defArgs s_sure_terms, defBody s_sure_terms, defScope s_sure_terms, [], []⟩
def dd_inner : He.DefD := ⟨("inner", none), "inner", "inner", defArgs s_inner, defBody s_inner, defScope s_inner, [], []⟩
def dd_every_part : He.DefD := ⟨("every_part", none), "every_part", "every_part", defArgs s_every_part, defBody s_every_part, defScope s_every_part, [], []⟩
def dd_own_names : He.DefD := ⟨("own_names", none), "own_names", "own_names", defArgs s_own_names, defBody s_own_names, defScope s_own_names, [], []⟩
def dd_all_names : He.DefD := ⟨("all_names", none), "all_names", "all_names", defArgs s_all_names, defBody s_all_names, defScope s_all_names, [], []⟩
def dd_all_holes : He.DefD := ⟨("all_holes", none), "all_holes", "all_holes", defArgs s_all_holes, defBody s_all_holes, defScope s_all_holes, [], []⟩
def dd_parts_of : He.DefD := ⟨("parts_of", none), "parts_of", "parts_of", defArgs s_parts_of, defBody s_parts_of, defScope s_parts_of, [], []⟩
def dd_level_count : He.DefD := ⟨("level_count", none), "level_count", "level_count", defArgs s_level_count, defBody s_level_count, defScope s_level_count, [], []⟩
def dd_levels_of : He.DefD := ⟨("levels_of", none), "levels_of", "levels_of", defArgs s_levels_of, defBody s_levels_of, defScope s_levels_of, [], []⟩
def dd_names_in : He.DefD := ⟨("names_in", none), "names_in", "names_in", defArgs s_names_in, defBody s_names_in, defScope s_names_in, [], []⟩
def dd_holes_in : He.DefD := ⟨("holes_in", none), "holes_in", "holes_in", defArgs s_holes_in, defBody s_holes_in, defScope s_holes_in, [], []⟩
def dd__law_mixed : He.DefD := ⟨("_law_mixed", none), "_law_mixed", "_law_mixed", defArgs s__law_mixed, defBody s__law_mixed, defScope s__law_mixed, [], []⟩
def dd__law_pile : He.DefD := ⟨("_law_pile", none), "_law_pile", "_law_pile", defArgs s__law_pile, defBody s__law_pile, defScope s__law_pile, [], []⟩
def dd__law_take : He.DefD := ⟨("_law_take", none), "_law_take", "_law_take", defArgs s__law_take, defBody s__law_take, defScope s__law_take, [], []⟩
def dd__law_name : He.DefD := ⟨("_law_name", none), "_law_name", "_law_name", defArgs s__law_name, defBody s__law_name, defScope s__law_name, [], []⟩
def dd__law_names : He.DefD := ⟨("_law_names", none), "_law_names", "_law_names", defArgs s__law_names, defBody s__law_names, defScope s__law_names, [], []⟩
def dd__law_order : He.DefD := ⟨("_law_order", none), "_law_order", "_law_order", defArgs s__law_order, defBody s__law_order, defScope s__law_order, [], []⟩
def dd__law_turn : He.DefD := ⟨("_law_turn", none), "_law_turn", "_law_turn", defArgs s__law_turn, defBody s__law_turn, defScope s__law_turn, [], []⟩
def dd__law_holes : He.DefD := ⟨("_law_holes", none), "_law_holes", "_law_holes", defArgs s__law_holes, defBody s__law_holes, defScope s__law_holes, [], []⟩
def dd__law_sign : He.DefD := ⟨("_law_sign", none), "_law_sign", "_law_sign", defArgs s__law_sign, defBody s__law_sign, defScope s__law_sign, [], []⟩
def dd__law_term : He.DefD := ⟨("_law_term", none), "_law_term", "_law_term", defArgs s__law_term, defBody s__law_term, defScope s__law_term, [], []⟩
def dd__law_any : He.DefD := ⟨("_law_any", none), "_law_any", "_law_any", defArgs s__law_any, defBody s__law_any, defScope s__law_any, [], []⟩
def dd__law_in : He.DefD := ⟨("_law_in", none), "_law_in", "_law_in", defArgs s__law_in, defBody s__law_in, defScope s__law_in, [], []⟩
def dd__law_parts : He.DefD := ⟨("_law_parts", none), "_law_parts", "_law_parts", defArgs s__law_parts, defBody s__law_parts, defScope s__law_parts, [], []⟩
def dd__law_levels : He.DefD := ⟨("_law_levels", none), "_law_levels", "_law_levels", defArgs s__law_levels, defBody s__law_levels, defScope s__law_levels, [], []⟩
def dd__law_own : He.DefD := ⟨("_law_own", none), "_law_own", "_law_own", defArgs s__law_own, defBody s__law_own, defScope s__law_own, [], []⟩
def dd__law_is_count : He.DefD := ⟨("_law_is_count", none), "_law_is_count", "_law_is_count", defArgs s__law_is_count, defBody s__law_is_count, defScope s__law_is_count, [], []⟩
def dd_law : He.DefD := ⟨("law", none), "law", "law", defArgs s_law, defBody s_law, defScope s_law, [], []⟩
def fnL : List He.DefD := [dd_is_called, dd_is_name, dd_is_turn, dd_is_hole, dd_is_term, dd_sure_terms, dd_inner, dd_every_part, dd_own_names, dd_all_names, dd_all_holes, dd_parts_of, dd_level_count, dd_levels_of, dd_names_in, dd_holes_in, dd__law_mixed, dd__law_pile, dd__law_take, dd__law_name, dd__law_names, dd__law_order, dd__law_turn, dd__law_holes, dd__law_sign, dd__law_term, dd__law_any, dd__law_in, dd__law_parts, dd__law_levels, dd__law_own, dd__law_is_count, dd_law]
def fa0 : List He.Fa := [.glo "is_called", .glo "is_name", .glo "is_turn", .glo "is_hole", .glo "is_term", .glo "sure_terms", .glo "inner", .glo "every_part", .glo "own_names", .glo "all_names", .glo "all_holes", .glo "parts_of", .glo "level_count", .glo "levels_of", .glo "names_in", .glo "holes_in", .glo "_law_mixed", .glo "_law_pile", .glo "_law_take", .glo "_law_name", .glo "_law_names", .glo "_law_order", .glo "_law_turn", .glo "_law_holes", .glo "_law_sign", .glo "_law_term", .glo "_law_any", .glo "_law_in", .glo "_law_parts", .glo "_law_levels"]
def fa1 : List He.Fa := [.glo "_law_own", .glo "_law_is_count", .glo "law", .free "abs", .free "all", .free "bool", .free "int", .free "isinstance", .free "len", .free "list", .free "max", .free "range", .free "set", .free "sorted", .free "str", .free "tuple", .free "zip", .str "FIGURES" "0123456789", .str "GREAT" "ABCDEFGHIJKLMNOPQRSTUVWXYZ", .int "LONGEST" 8, .str "SMALL" "abcdefghijklmnopqrstuvwxyz", .glo "NoTerm", .exc "NoTerm"]
def faL : List He.Fa := fa0 ++ fa1
def fxL : List Fx := []
abbrev R : PySem.W.OpenRow := PySem.W.OpenLaw.row PySem.Challenge.rw_shutnames_k11_counts_names_and_holes
abbrev hk : PySem.W.Hook := hookZ 0 (List.range 1200) faL fnL fxL
def ob (s : PySem.W.SharedT) : AlZ := obsZ 0 (List.range 1200) faL fnL fxL (HandSHeadRun.getT s)
theorem ob_eq (s : PySem.W.SharedT) : ob s = hk.obs s.abs := obsZ_eq (HandSHeadRun.getT_eq s)
def lo0 : List Str := ["ShutError", "NoTerm", "SMALL", "FIGURES", "LONGEST", "is_called", "is_name", "is_turn", "GREAT", "is_hole", "is_term", "sure_terms", "inner", "every_part", "own_names", "all_names", "all_holes", "parts_of", "level_count", "levels_of", "names_in", "holes_in", "_law_mixed", "_law_pile", "_law_take", "_law_name", "_law_names", "_law_order", "_law_turn", "_law_holes"]
def lo1 : List Str := ["_law_sign", "_law_term", "_law_any", "_law_in", "_law_parts", "_law_levels", "_law_own", "_law_is_count"]
def loL : List Str := lo0 ++ lo1
theorem run (w : World) : HandSHeadRun.RunEq R (PySem.W.view R.prog [42]) hk ob 30000 loL w := by
 intro os
 kernel_rfl
end K11
end
section
namespace DL
open PySem PySem.Spec PyProof.Rows L2 PySem.W
section
variable {X : Cx} {c : Ct} {a b : Expr} {pos : Pos} {ka kb pa pb : Bool} {ma mb : M D}
end
end DL
end
section
namespace PySem.W
open PySem PySem.Calls PyProof.Rows
section
variable {M : Model} {A : Around} {E : Value → Shared → Prop} {s : Shared}
end
section
variable {prog : Program} {w : World} {A : Around} {E : Value → Shared → Prop} {s : Shared}
variable {β : Type} {vs : List Value} {bs : List β} {enc : β → PyData} {R : Value → β → Prop}
end
end PySem.W
namespace DL
open PySem PySem.Spec PyProof.Rows L2 PySem.W
end DL
end
section
namespace DL
open PySem PySem.Spec PyProof.Rows L2 PySem.W
inductive AW where
 | d (x : D) | o (i : Nat) | n (o : OV)
def gatX : Env → List AW → Option (List OV × Env)
 | ρ, [] => some ([], ρ)
 | ρ, .d x :: r => (gatX ρ r).map fun z => (.d x :: z.1, z.2)
 | ρ, .n o :: r => (gatX ρ r).map fun z => (o :: z.1, z.2)
 | ρ, .o i :: r => match ρ[i]? with
  | some (some o) => (gatX (ρ.set i none) r).map fun z => (o :: z.1, z.2)
  | _ => none
def backX : Env → List AW → Env → Env
 | ρ, .d _ :: r, _ :: s => backX ρ r s
 | ρ, .n _ :: r, _ :: s => backX ρ r s
 | ρ, .o i :: r, o :: s => backX (ρ.set i o) r s
 | ρ, _, _ => ρ
def callXf (ws : List AW) (ρ2 : Env) (r : Rf) : Res OV := match r with
 | .ok r outs => .ok r (backX ρ2 ws outs)
 | .ex ξ => .ex ξ ρ2
 | .bad => .bad
def callXe (f : Fn) (dds : List D) (ws : List AW) (z : Option (List OV × Env)) : Res OV := match z with
 | none => .bad
 | some y => callXf ws y.2 (f (y.1 ++ dds.map .d))
def mCallX (f : Fn) (dds : List D) (m : M (List AW)) : M OV := fun ρ => (m ρ).bind fun ws ρ1 => callXe f dds ws (gatX ρ1 ws)
def wNil : M (List AW) := fun ρ => .ok [] ρ
def wD (a : M D) (r : M (List AW)) : M (List AW) := fun ρ => (a ρ).bind fun x ρ1 => (r ρ1).bind fun xs ρ2 => .ok (.d x :: xs) ρ2
def wN (a : M OV) (r : M (List AW)) : M (List AW) := fun ρ => (a ρ).bind fun x ρ1 => (r ρ1).bind fun xs ρ2 => .ok (.n x :: xs) ρ2
def wO (i : Nat) (r : M (List AW)) : M (List AW) := fun ρ => match ρ[i]? with
 | some (some _) => (r ρ).bind fun xs ρ2 => .ok (.o i :: xs) ρ2
 | _ => .bad
inductive AwAll (K : Frag) (ca : Str → Addr) (F H : Hp) (σ : Sl) : List V → List AW → List Addr → Prop where
 | nil : AwAll K ca F H σ [] [] []
 | d {v : V} {x : D} {vs : List V} {as : List AW} {A : List Addr} : Rp K F v x → AwAll K ca F H σ vs as A → AwAll K ca F H σ (v :: vs) (.d x :: as) A
 | o {v : V} {i : Nat} {vs : List V} {as : List AW} {A : List Addr} : σ[i]? = some (some v) → AwAll K ca F H σ vs as A → AwAll K ca F H σ (v :: vs) (.o i :: as) A
 | n {v : V} {o : OV} {vs : List V} {as : List AW} {A B : List Addr} : OwR K ca F H v o A → AwAll K ca F H σ vs as B → AwAll K ca F H σ (v :: vs) (.n o :: as) (A ++ B)
section
variable {X : Cx} {c : Ct} {e : Expr} {es : List Expr} {pos p : Pos} {p1 : Bool} {me : M D} {mo : M OV} {ms : M (List AW)}
end
end DL
end
section
namespace DL
open PySem PySem.Spec PyProof.Rows L2 PySem.W
section
variable {K : Frag} {ca : Str → Addr} {F H : Hp}
end
section
variable {X : Cx} {c : Ct} {e : Expr} {es : List Expr} {pos p : Pos} {ms : M (List AW)} {k : Nat} {f : Addr} {fd : FuncData} {ps : List Str} {fn : Fn} {x : Str} {ds : List Value} {dvs : List V} {dds : List D}
end
end DL
end
section
namespace DL
open PySem PySem.Spec PyProof.Rows L2 PySem.W
section
variable {X : Cx} {c : Ct} {a b : Expr} {pos p : Pos} {ka pa kb pb : Bool} {ma mb : M D} {g : D → D → Option D} {id : String} {x : Str}
end
section
variable {T : Type} [Tg T] {ρ : DL.Env} {h : Exc → DL.Env → T}
theorem rB_callX (k : OV → DL.Env → T) (f : Fn) (dds : List D) (m : M (List AW)) : rB (mCallX f dds m ρ) k h = rB (m ρ) (fun ws ρ1 => oB (gatX ρ1 ws) fun y => cX (f (y.1 ++ dds.map .d)) (fun ξ => h ξ y.2) fun o w => k o (backX y.2 ws w)) h := by
 unfold mCallX; rw [rB_bind]; congr; funext ws ρ1
 cases gatX ρ1 ws with
 | none => rfl
 | some y =>
  show rB (callXf ws y.2 (f (y.1 ++ dds.map .d))) k h = cX _ _ _
  cases f (y.1 ++ dds.map .d) <;> rfl
variable (k : List AW → DL.Env → T)
theorem rB_wNil : rB (wNil ρ) k h = k [] ρ := rfl
theorem rB_wD (a : M D) (r : M (List AW)) : rB (wD a r ρ) k h = rB (a ρ) (fun x ρ1 => rB (r ρ1) (fun xs ρ2 => k (.d x :: xs) ρ2) h) h := by
 unfold wD; rw [rB_bind]; congr; funext x ρ1; rw [rB_bind]; rfl
theorem rB_wN (a : M OV) (r : M (List AW)) : rB (wN a r ρ) k h = rB (a ρ) (fun x ρ1 => rB (r ρ1) (fun xs ρ2 => k (.n x :: xs) ρ2) h) h := by
 unfold wN; rw [rB_bind]; congr; funext x ρ1; rw [rB_bind]; rfl
theorem rB_wO (i : Nat) (r : M (List AW)) : rB (wO i r ρ) k h = oB (gt ρ i) fun _ => rB (r ρ) (fun xs ρ2 => k (.o i :: xs) ρ2) h := by
 unfold wO gt
 cases ρ[i]? with
 | none => rfl
 | some w => cases w with
  | none => rfl
  | some o =>
   show rB ((r ρ).bind _) k h = rB (r ρ) _ h
   rw [rB_bind]; rfl
end
section
variable {T : Type} [Tg T] {ρ : DL.Env} (k : List OV × DL.Env → T)
theorem gx_nil : oB (gatX ρ []) k = k ([], ρ) := rfl
theorem gx_d (x : D) (r : List AW) : oB (gatX ρ (.d x :: r)) k = oB (gatX ρ r) fun y => k (.d x :: y.1, y.2) := by
 show oB ((gatX ρ r).map _) k = _
 cases gatX ρ r <;> rfl
theorem gx_n (x : OV) (r : List AW) : oB (gatX ρ (.n x :: r)) k = oB (gatX ρ r) fun y => k (x :: y.1, y.2) := by
 show oB ((gatX ρ r).map _) k = _
 cases gatX ρ r <;> rfl
theorem gx_o (i : Nat) (r : List AW) : oB (gatX ρ (.o i :: r)) k = oB (gt ρ i) fun o => oB (gatX (ρ.set i none) r) fun y => k (o :: y.1, y.2) := by
 rw [gatX]
 unfold gt
 cases ρ[i]? with
 | none => rfl
 | some w => cases w with
  | none => rfl
  | some o =>
   show oB ((gatX (ρ.set i none) r).map _) k = oB (some o) _
   rw [oB_some]
   cases gatX (ρ.set i none) r <;> rfl
end
theorem bx_nil (ρ w : DL.Env) : backX ρ [] w = ρ := by cases w <;> rfl
theorem bx_e (ρ : DL.Env) (r : List AW) : backX ρ r [] = ρ := by
 cases r with
 | nil => rfl
 | cons a r => cases a <;> rfl
theorem bx_d (ρ : DL.Env) (x : D) (r : List AW) (w : DL.Env) : backX ρ (.d x :: r) w = backX ρ r w.tail := by
 cases w with
 | nil => rw [List.tail_nil, bx_e, bx_e]
 | cons o w => rfl
theorem bx_n (ρ : DL.Env) (x : OV) (r : List AW) (w : DL.Env) : backX ρ (.n x :: r) w = backX ρ r w.tail := by
 cases w with
 | nil => rw [List.tail_nil, bx_e, bx_e]
 | cons o w => rfl
theorem bx_o (ρ : DL.Env) (i : Nat) (r : List AW) (w : DL.Env) (hi : gt ρ i = none) : backX ρ (.o i :: r) w = backX (ρ.set i (gt w 0)) r w.tail := by
 cases w with
 | nil =>
  have e : ρ.set i (gt [] 0) = ρ := set_none_self fun o z => by unfold gt at hi; rw [z] at hi; cases hi
  rw [e, List.tail_nil, bx_e, bx_e]
 | cons o w => rfl
theorem ov_nil (xs : List OV) : ([] : List OV) ++ xs = xs := rfl
theorem ov_cons (x : OV) (r xs : List OV) : (x :: r) ++ xs = x :: (r ++ xs) := rfl
theorem md_nil : ([] : List D).map OV.d = [] := rfl
theorem md_cons (x : D) (r : List D) : (x :: r).map OV.d = .d x :: r.map OV.d := rfl
abbrev RBY := And.intro RBX <| And.intro @rB_callX <| And.intro @rB_wNil <| And.intro @rB_wD <| And.intro @rB_wN <| And.intro @rB_wO <| And.intro @gx_nil <| And.intro @gx_d <| And.intro @gx_n <| And.intro @gx_o <| And.intro @bx_nil <| And.intro @bx_d <| And.intro @bx_n <| And.intro @bx_o <| And.intro @ov_nil <| And.intro @ov_cons <| And.intro @md_nil @md_cons
end DL
end
section
namespace DL
open PySem PySem.Spec PyProof.Rows L2 PySem.W
section
variable {X : Cx} {c : Ct} {a b : Expr} {pos : Pos} {ka pa kb pb : Bool} {ma mb : M D}
end
end DL
end
section
namespace DL
open PySem PySem.Spec PyProof.Rows L2
def idxL (xs : List D) (y : D) : Option D := match allStr xs, y with
 | some l, .str z => if z ∈ l then some (.int (l.idxOf z : Nat)) else none
 | _, _ => none
def seqO : D → Option (List D)
 | .list xs => some xs
 | .tuple xs => some xs
 | _ => none
def mIdx (ma me : M D) : M D := fun ρ => (ma ρ).bind fun x ρ1 => match seqO x with
 | some xs => (me ρ1).bind fun y ρ2 => ofO (idxL xs y) ρ2
 | none => .bad
section
variable {X : Cx} {c : Ct} {a e : Expr} {pos apos : Pos} {ka pa pu : Bool} {ma me : M D}
end
def kdO : D → Option (List (D × D))
 | .dict kvs => match cells kvs with
  | some _ => none
  | none => some kvs
 | _ => none
def mGet1 (ma mk : M D) : M D := fun ρ => (ma ρ).bind fun x ρ1 => match kdO x with
 | some kvs => (mk ρ1).bind fun y ρ2 => ofO (getKD kvs y .none) ρ2
 | none => .bad
def mGet2 (ma mk mx : M D) : M D := fun ρ => (ma ρ).bind fun x ρ1 => match kdO x with
 | some kvs => (mk ρ1).bind fun y ρ2 => (mx ρ2).bind fun z ρ3 => ofO (getKD kvs y z) ρ3
 | none => .bad
section
variable {X : Cx} {c : Ct} {a e f : Expr} {pos apos : Pos} {ka pa pb pc : Bool} {ma mk mx : M D}
end
end DL
end
section
namespace DL
open PySem PySem.Spec PyProof.Rows L2
def pairsK : List D → Option KD
 | [] => some []
 | .tuple [a, b] :: r => (keyOf a).bind fun k => (pairsK r).map fun l => (k, b) :: l
 | _ => none
def dctO : D → Option (List (D × D))
 | .list xs => (pairsK xs).map fun l => (mergeKD [] l).map fun p => (kD p.1, p.2)
 | .tuple xs => (pairsK xs).map fun l => (mergeKD [] l).map fun p => (kD p.1, p.2)
 | .dict kvs => kdO (.dict kvs)
 | _ => none
def mDictOf (m : M D) : M OV := fun ρ => (m ρ).bind fun x ρ1 => (ofO (dctO x) ρ1).bind fun l ρ2 => .ok (.dct l) ρ2
section
variable {X : Cx} {c : Ct} {e : Expr} {p pos : Pos} {ka pu : Bool} {me : M D} {mo : M OV}
def OV.frzK : OV → Option D
 | .dct kvs => some (.dict kvs)
 | _ => none
def mFrzK (m : M OV) : M D := fun ρ => (m ρ).bind fun o ρ1 => ofO o.frzK ρ1
end
def wMore (dos : List OV) (m : M (List AW)) : M (List AW) := fun ρ => (m ρ).bind fun ws ρ1 => .ok (ws ++ dos.map .n) ρ1
section
variable {X : Cx} {c : Ct} {e : Expr} {es : List Expr} {pos p : Pos} {x : Str} {mw : M (List AW)} {k : Nat} {f : Addr} {fd : FuncData} {ps : List Str} {fn : Fn} {dvs : List V} {dos : List OV}
end
def truD : D → Option Bool
 | .none => some false
 | .bool b => some b
 | .int i => some (i != 0)
 | .tuple xs => some (!xs.isEmpty)
 | .list xs => some (!xs.isEmpty)
 | _ => none
def mOrT (a b : M D) : M D := fun ρ => (a ρ).bind fun x ρ1 => match truD x with
 | some true => .ok x ρ1
 | some false => b ρ1
 | none => .bad
section
variable {X : Cx} {c : Ct} {a b : Expr} {rest : List Expr} {pos : Pos} {pa pb : Bool} {ma mb : M D}
end
section
variable {T : Type} [Tg T] {ρ : DL.Env} {h : Exc → DL.Env → T}
section
variable {k : D → DL.Env → T}
theorem rB_idx (ma me : M D) : rB (mIdx ma me ρ) k h = rB (ma ρ) (fun x ρ1 => oB (seqO x) fun xs => rB (me ρ1) (fun y ρ2 => oB (idxL xs y) fun z => k z ρ2) h) h := by
 unfold mIdx; rw [rB_bind]; congr; funext x ρ1
 cases seqO x with
 | none => rfl
 | some xs =>
  show rB ((me ρ1).bind fun y ρ2 => ofO (idxL xs y) ρ2) k h = rB (me ρ1) _ h
  rw [rB_bind]; congr; funext y ρ2; rw [rB_ofO]
theorem rB_get1 (ma mk : M D) : rB (mGet1 ma mk ρ) k h = rB (ma ρ) (fun x ρ1 => oB (kdO x) fun kvs => rB (mk ρ1) (fun y ρ2 => oB (getKD kvs y .none) fun z => k z ρ2) h) h := by
 unfold mGet1; rw [rB_bind]; congr; funext x ρ1
 cases kdO x with
 | none => rfl
 | some xs =>
  show rB ((mk ρ1).bind fun y ρ2 => ofO (getKD xs y .none) ρ2) k h = rB (mk ρ1) _ h
  rw [rB_bind]; congr; funext y ρ2; rw [rB_ofO]
theorem rB_get2 (ma mk mx : M D) : rB (mGet2 ma mk mx ρ) k h = rB (ma ρ) (fun x ρ1 => oB (kdO x) fun kvs => rB (mk ρ1) (fun y ρ2 => rB (mx ρ2) (fun z ρ3 => oB (getKD kvs y z) fun u => k u ρ3) h) h) h := by
 unfold mGet2; rw [rB_bind]; congr; funext x ρ1
 cases kdO x with
 | none => rfl
 | some xs =>
  show rB ((mk ρ1).bind fun y ρ2 => (mx ρ2).bind fun z ρ3 => ofO (getKD xs y z) ρ3) k h = rB (mk ρ1) _ h
  rw [rB_bind]; congr; funext y ρ2; rw [rB_bind]; congr; funext z ρ3; rw [rB_ofO]
theorem rB_frzK (m : M OV) : rB (mFrzK m ρ) k h = rB (m ρ) (fun o ρ1 => oB o.frzK fun x => k x ρ1) h := by unfold mFrzK; rw [rB_bind]; congr; funext x ρ1; rw [rB_ofO]
theorem rB_orT (a b : M D) : rB (mOrT a b ρ) k h = rB (a ρ) (fun x ρ1 => oB (truD x) fun t => if t = true then k x ρ1 else rB (b ρ1) k h) h := by
 unfold mOrT; rw [rB_bind]; congr; funext x ρ1
 cases truD x with
 | none => rfl
 | some t => cases t <;> rfl
end
theorem rB_dictOf {k : OV → DL.Env → T} (m : M D) : rB (mDictOf m ρ) k h = rB (m ρ) (fun x ρ1 => oB (dctO x) fun l => k (.dct l) ρ1) h := by
 unfold mDictOf; rw [rB_bind]; congr; funext x ρ1; rw [rB_bind, rB_ofO]; rfl
theorem rB_wMore {k : List AW → DL.Env → T} (dos : List OV) (m : M (List AW)) : rB (wMore dos m ρ) k h = rB (m ρ) (fun ws ρ1 => k (ws ++ dos.map .n) ρ1) h := by
 unfold wMore; rw [rB_bind]; rfl
theorem aw_nil (xs : List AW) : ([] : List AW) ++ xs = xs := rfl
theorem aw_cons (x : AW) (r xs : List AW) : (x :: r) ++ xs = x :: (r ++ xs) := rfl
theorem mn_nil : ([] : List OV).map AW.n = [] := rfl
theorem mn_cons (x : OV) (r : List OV) : (x :: r).map AW.n = .n x :: r.map AW.n := rfl
@[simp] theorem frzK_d (kvs : List (D × D)) : (OV.dct kvs).frzK = some (.dict kvs) := rfl
end
abbrev RBU := And.intro @rB_idx <| And.intro @rB_get1 <| And.intro @rB_get2 <| And.intro @rB_frzK <| And.intro @rB_orT <| And.intro @rB_dictOf <| And.intro @rB_wMore <| And.intro aw_nil <| And.intro aw_cons <| And.intro mn_nil <| And.intro mn_cons frzK_d
end DL
end
section
namespace PySem.W
open PySem PySem.Calls PyProof.Rows
section
variable {prog : Program} {w : World} {A : Around} {E : Value → Shared → Prop} {s : Shared}
variable {κ : PyProof.Rows.KeyKind}
variable {β : Type} {vs : List Value} {bs : List β} {enc : β → PyData} {R : Value → β → Prop}
end
end PySem.W
namespace DL
open PySem PySem.Spec PyProof.Rows L2 PySem.W
section
variable {X : Cx} {xs : List Stmt} {c : Ct} {m1 m2 m3 m4 m5 m6 r : M Fl}
end
end DL
end
section
namespace DL
open PySem PySem.Spec PyProof.Rows L2
def kdsO : List (D × D) → Option KD
 | [] => some []
 | (k, v) :: r => (keyOf k).bind fun j => (kdsO r).map fun l => (j, v) :: l
def unK (l : KD) : List (D × D) := l.map fun p => (kD p.1, p.2)
def putD (kvs : List (D × D)) (k v : D) : Option (List (D × D)) := (kdsO kvs).bind fun l => (keyOf k).bind fun j => if l.length < sizeLine then some (unK (putKD l j v)) else none
def updD (kvs more : List (D × D)) : Option (List (D × D)) := (kdsO kvs).bind fun l => (kdsO more).bind fun m => if l.length + m.length ≤ sizeLine then some (unK (mergeKD l m)) else none
section
variable {K : Frag} {c : Ct} {F H : Hp} {σ : Sl} {ρ : Env} {O : List Addr}
end
def mDict0 : M OV := fun ρ => .ok (.dct []) ρ
section
variable {X : Cx} {c : Ct} {pos : Pos}
theorem PE.two {e : Expr} {t1 t2 : TE} (h1 : PE X e t1) (h2 : PE X e t2) : PE X e (fun σ H Q => t1 σ H Q ∨ t2 σ H Q) := ⟨fun pins s σ H Q I h => h.elim (h1.run pins s σ H Q I) (h2.run pins s σ H Q I)⟩
end
def sPutK (i : Nat) (mk mv : M D) : M Fl := fun ρ => (mv ρ).bind fun v ρ1 => match ρ1[i]? with
 | some (some (.dct _)) => (mk ρ1).bind fun k ρ2 => match ρ2[i]? with
  | some (some (.dct l)) => match putD l k v with
   | some z => .ok .nx (ρ2.set i (some (.dct z)))
   | none => .bad
  | _ => .bad
 | _ => .bad
section
variable {X : Cx} {c : Ct} {e o ix : Expr} {pos spos npos : Pos} {p1 p2 : Bool} {mi mv : M D} {x : Str}
end
def OV.frzA : OV → Option D
 | .d x => some x
 | .dct l => some (.dict l)
 | _ => none
def mFrzKV (i : Nat) : M D := fun ρ => match ρ[i]? with
 | some (some o) => match o.frzA with
  | some x => .ok x (ρ.set i (some (.d x)))
  | none => .bad
 | _ => .bad
section
variable {X : Cx} {c : Ct} {pos : Pos}
end
def OV.frzU : OV → Option D
 | .d x => some x
 | .lst xs => some (.list xs)
 | .dct l => some (.dict l)
 | _ => none
def mFrzU (m : M OV) : M D := fun ρ => (m ρ).bind fun o ρ1 => ofO o.frzU ρ1
section
variable {X : Cx} {c : Ct} {e : Expr} {mo : M OV}
end
def sFz (i : Nat) (m : M Fl) : M Fl := fun ρ => match ρ[i]? with
 | some (some o) => match o.frzU with
  | some x => m (ρ.set i (some (.d x)))
  | none => .bad
 | _ => .bad
section
variable {X : Cx} {c : Ct} {st : Stmt} {m : M Fl}
end
def mUpd (i : Nat) (m : M D) : M D := fun ρ => match ρ[i]? with
 | some (some (.dct _)) => (m ρ).bind fun y ρ1 => match ρ1[i]? with
  | some (some (.dct l)) => match (kdO y).bind fun k => updD l k with
   | some z => .ok .none (ρ1.set i (some (.dct z)))
   | none => .bad
  | _ => .bad
 | _ => .bad
section
variable {X : Cx} {c : Ct} {e : Expr} {pos apos cpos npos : Pos} {pu : Bool} {me : M D} {x : Str}
end
def kO (w : Option OV) : Option (List (D × D)) := match w with
 | some (.dct l) => some l
 | _ => none
def fzA (w : Option OV) : Option D := match w with
 | some o => o.frzA
 | none => none
def fzU (w : Option OV) : Option D := match w with
 | some o => o.frzU
 | none => none
@[simp] theorem fzU_d (x : D) : fzU (some (.d x)) = some x := rfl
@[simp] theorem fzU_l (l : List D) : fzU (some (.lst l)) = some (.list l) := rfl
@[simp] theorem fzU_k (l : List (D × D)) : fzU (some (.dct l)) = some (.dict l) := rfl
@[simp] theorem kO_d (l : List (D × D)) : kO (some (.dct l)) = some l := rfl
@[simp] theorem frzU_d (x : D) : (OV.d x).frzU = some x := rfl
@[simp] theorem frzU_l (x : List D) : (OV.lst x).frzU = some (.list x) := rfl
@[simp] theorem frzU_k (x : List (D × D)) : (OV.dct x).frzU = some (.dict x) := rfl
@[simp] theorem fzA_d (x : D) : fzA (some (.d x)) = some x := rfl
@[simp] theorem fzA_k (l : List (D × D)) : fzA (some (.dct l)) = some (.dict l) := rfl
@[simp] theorem lk_k (l : List (D × D)) : lk (some (.dct l)) = some (.dict l) := rfl
section
variable {T : Type} [Tg T] {ρ : DL.Env} {h : Exc → DL.Env → T}
theorem rB_frzU {k : D → DL.Env → T} (m : M OV) : rB (mFrzU m ρ) k h = rB (m ρ) (fun o ρ1 => oB o.frzU fun x => k x ρ1) h := by unfold mFrzU; rw [rB_bind]; congr; funext x ρ1; rw [rB_ofO]
theorem rB_fz {k : Fl → DL.Env → T} (i : Nat) (m : M Fl) : rB (sFz i m ρ) k h = oB (fzU (gt ρ i)) fun x => rB (m (ρ.set i (some (.d x)))) k h := by
 unfold sFz gt
 cases ρ[i]? with
 | none => rfl
 | some w => cases w with
  | none => rfl
  | some o =>
   show rB (match o.frzU with | some x => m (ρ.set i (some (.d x))) | none => .bad) k h = oB o.frzU _
   cases o.frzU <;> rfl
theorem rB_dict0 {k : OV → DL.Env → T} : rB (mDict0 ρ) k h = k (.dct []) ρ := rfl
theorem rB_frzKV {k : D → DL.Env → T} (i : Nat) : rB (mFrzKV i ρ) k h = oB (fzA (gt ρ i)) fun x => k x (ρ.set i (some (.d x))) := by
 unfold mFrzKV gt
 cases ρ[i]? with
 | none => rfl
 | some w => cases w with
  | none => rfl
  | some o =>
   show rB (match o.frzA with | some x => .ok x (ρ.set i (some (.d x))) | none => .bad) k h = oB o.frzA _
   cases o.frzA <;> rfl
theorem rB_putK {k : Fl → DL.Env → T} (i : Nat) (mk mv : M D) : rB (sPutK i mk mv ρ) k h = rB (mv ρ) (fun v ρ1 => oB (kO (gt ρ1 i)) fun _ => rB (mk ρ1) (fun y ρ2 => oB (kO (gt ρ2 i)) fun l => oB (putD l y v) fun z => k .nx (ρ2.set i (some (.dct z)))) h) h := by
 unfold sPutK; rw [rB_bind]; congr; funext v ρ1
 unfold gt
 cases ρ1[i]? with
 | none => rfl
 | some w => cases w with
  | none => rfl
  | some o => cases o with
   | dct l0 =>
    show rB ((mk ρ1).bind _) k h = rB (mk ρ1) _ h
    rw [rB_bind]; congr; funext y ρ2
    cases ρ2[i]? with
    | none => rfl
    | some w => cases w with
     | none => rfl
     | some o => cases o with
      | dct l =>
       show rB (match putD l y v with | some z => .ok .nx (ρ2.set i (some (.dct z))) | none => .bad) k h = oB (putD l y v) _
       cases putD l y v <;> rfl
      | _ => rfl
   | _ => rfl
theorem rB_upd {k : D → DL.Env → T} (i : Nat) (m : M D) : rB (mUpd i m ρ) k h = oB (kO (gt ρ i)) fun _ => rB (m ρ) (fun y ρ1 => oB (kO (gt ρ1 i)) fun l => oB (kdO y) fun j => oB (updD l j) fun z => k .none (ρ1.set i (some (.dct z)))) h := by
 unfold mUpd gt
 cases ρ[i]? with
 | none => rfl
 | some w => cases w with
  | none => rfl
  | some o => cases o with
   | dct l0 =>
    show rB ((m ρ).bind _) k h = rB (m ρ) _ h
    rw [rB_bind]; congr; funext y ρ1
    cases ρ1[i]? with
    | none => rfl
    | some w => cases w with
     | none => rfl
     | some o => cases o with
      | dct l =>
       show rB (match (kdO y).bind fun j => updD l j with | some z => .ok .none (ρ1.set i (some (.dct z))) | none => .bad) k h = oB (kO (some (.dct l))) fun l => oB (kdO y) fun j => oB (updD l j) _
       rw [kO_d, oB_some]
       cases kdO y with
       | none => rfl
       | some j =>
        rw [oB_some, Option.bind_some]
        cases updD l j <;> rfl
      | _ => rfl
   | _ => rfl
end
abbrev RBW := And.intro @rB_dict0 <| And.intro @rB_frzKV <| And.intro @rB_putK <| And.intro @rB_upd <| And.intro kO_d <| And.intro fzA_d <| And.intro fzA_k <| And.intro lk_k <| And.intro @rB_frzU <| And.intro frzU_d <| And.intro frzU_l <| And.intro frzU_k <| And.intro @rB_fz <| And.intro fzU_d <| And.intro fzU_l fzU_k
end DL
end
section
namespace PySem.W
open PySem PySem.Calls PyProof.Rows
section
variable {prog : Program} {w : World} {A : Around} {E : Value → Shared → Prop} {s : Shared}
variable {β : Type} {vs : List Value} {bs : List β} {enc : β → PyData} {R : Value → β → Prop}
end
end PySem.W
namespace DL
open PySem PySem.Spec PyProof.Rows L2 PySem.W
end DL
end
section
namespace DL
open PySem PySem.Spec PyProof.Rows L2 PySem.W
section
variable {κ : Type} [DecidableEq κ] {P : Program} {w : World} (knd : KeyKind P w κ)
def CalmK : Prop := ∀ k v, knd.is k v = true → ∀ n, ofAClassStatement n v = pure false ∧ ∃ b, hashByValue n v = pure b
abbrev Row (κ : Type) := Addr × List κ
abbrev hk (k : List κ) : Int := tupleKeyHash knd k
abbrev go0 (t : SetTable) (n : Int) : SetTable.Probe := runAt t.mask (SetTable.bits n % (t.mask + 1)) (SetTable.bits n)
def rowVs (L : List (Row κ)) : List (Int × Value) := L.map fun r => (hk knd r.2, Value.ref r.1)
structure TR (h : Heap) (a : Addr) (L : List (Row κ)) (es : Array (Int × Value)) (ep : Nat) (t : SetTable) : Prop where
 obj : ∃ o, h.get? a = some o ∧ o.ExactSet ∧ o.data = .set es ep t
 rows : es.toList = rowVs knd L
 tab : TabOk t (L.map fun r => hk knd r.2)
 nd : (L.map (·.2)).Nodup
 key : ∀ r ∈ L, IsTupleKey knd h r.2 r.1
 led : w.params.followText "set-order" = true ∨ t.led = true
 free : L.length * 5 < t.mask * 3
 few : L.length < 64
end
section
variable {κ : Type} [DecidableEq κ] {P : Program} {w : World} {knd : KeyKind P w κ} {A : Around} {E : Value → Shared → Prop} {s : Shared}
theorem calm_items (cm : CalmK knd) {ks : List κ} {vs : List Value} (h : ItemsAre knd ks vs) : ∀ v ∈ vs, ∀ n, ofAClassStatement n v = pure false ∧ ∃ b, hashByValue n v = pure b := by
 induction h with
 | nil => exact fun v z => by cases z
 | cons h1 _ ih =>
  intro v z
  rcases List.mem_cons.mp z with rfl | z
  ·exact cm _ _ h1
  ·exact ih v z
theorem tup_noclass (cm : CalmK knd) {ks : List κ} {b : Addr} {Q : Bool → Shared → Prop} (x : IsTupleKey knd s.heap ks b) (q : Q false s) : wpAny (model P w) A (ofAClassStatement 8 (.ref b)) Q E s := by
 have ty := x.typeIs
 obtain ⟨ob, its, n, g1, _, g2, g3⟩ := x
 unfold ofAClassStatement
 refine wpAny_bind (wpAny_typeOf ty ?_)
 have e : (("tuple" : String) == "tuple") = true := by decide
 dsimp only
 simp only [e, if_true, Bool.not_true, Bool.false_eq_true, if_false]
 try refine wpAny_bind (wpAny_pure ?_)
 try simp only [Bool.not_true, Bool.false_eq_true, if_false]
 refine wpAny_bind (wpAny_seqItems g1 g2 ?_)
 dsimp only
 refine wpAny_bind ?_
 show wpAny _ _ (forIn its _ _) _ _ s
 rw [← Array.forIn_toList]
 refine wpAny_forIn_list _ (fun more r s1 => r.1 = none ∧ s1 = s ∧ ∀ v ∈ more, ∀ n, ofAClassStatement n v = pure false ∧ ∃ b, hashByValue n v = pure b) _ (fun v more r s1 ⟨c1, c2, c3⟩ => ?_) (fun ⟨r1, r2⟩ s1 ⟨c1, c2, _⟩ => ?_) _ _ ⟨rfl, rfl, calm_items cm g3⟩
 ·subst c2
  rw [(c3 v List.mem_cons_self _).1]
  refine wpAny_bind (wpAny_pure ?_)
  simp only [Bool.false_eq_true, if_false]
  exact wpAny_pure ⟨rfl, rfl, fun u z => c3 u (List.mem_cons_of_mem _ z)⟩
 ·simp only at c1
  subst c1 c2
  exact wpAny_pure q
theorem tup_byval (cm : CalmK knd) {ks : List κ} {b : Addr} {Q : Bool → Shared → Prop} (x : IsTupleKey knd s.heap ks b) (q : ∀ z, Q z s) : wpAny (model P w) A (hashByValue 8 (.ref b)) Q E s := by
 have ty := x.typeIs
 obtain ⟨ob, its, n, g1, _, g2, g3⟩ := x
 unfold hashByValue
 refine wpAny_bind (wpAny_specialOf ty PySem.F.slot_tuple_hash.lookup ?_)
 refine wpAny_bind (wpAny_seqItems g1 g2 ?_)
 refine wpAny_bind ?_
 show wpAny _ _ (forIn its _ _) _ _ s
 rw [← Array.forIn_toList]
 refine wpAny_forIn_list _ (fun more r s1 => r.1 = none ∧ s1 = s ∧ ∀ v ∈ more, ∀ n, ofAClassStatement n v = pure false ∧ ∃ b, hashByValue n v = pure b) _ (fun v more r s1 ⟨c1, c2, c3⟩ => ?_) (fun ⟨r1, r2⟩ s1 ⟨c1, c2, _⟩ => ?_) _ _ ⟨rfl, rfl, calm_items cm g3⟩
 ·subst c2
  obtain ⟨z0, hz0⟩ := (c3 v List.mem_cons_self 7).2
  rw [hz0]
  refine wpAny_bind (wpAny_pure ?_)
  cases z0
  ·simp only [Bool.not_false, if_true]
   exact wpAny_pure (wpAny_pure (q false))
  ·simp only [Bool.not_true, Bool.false_eq_true, if_false]
   exact wpAny_pure ⟨rfl, rfl, fun u z => c3 u (List.mem_cons_of_mem _ z)⟩
 ·simp only at c1
  subst c1 c2
  exact wpAny_pure (q true)
theorem tup_unseen (cm : CalmK knd) {ks : List κ} {b : Addr} {Q : Bool → Shared → Prop} (x : IsTupleKey knd s.heap ks b) {ys : List Value} (hy : ∀ y ∈ ys, ∃ js c, y = Value.ref c ∧ IsTupleKey knd s.heap js c) (q : Q false s) :
  wpAny (model P w) A (searchCouldBeSeen (.ref b) ys) Q E s := by
 unfold searchCouldBeSeen
 refine wpAny_bind (wpAny_forIn_list _ (fun more r s1 => r.1 = none ∧ s1 = s ∧ ∀ y ∈ more, ∃ js c, y = Value.ref c ∧ IsTupleKey knd s.heap js c) _ (fun v more r s1 ⟨c1, c2, c3⟩ => ?_) (fun ⟨r1, r2⟩ s1 ⟨c1, c2, _⟩ => ?_) _ _ ⟨rfl, rfl, hy⟩)
 ·subst c2
  obtain ⟨js, c, rfl, xc⟩ := c3 v List.mem_cons_self
  have nxt : ∀ y ∈ more, ∃ js c, y = Value.ref c ∧ IsTupleKey knd s1.heap js c := fun u z => c3 u (List.mem_cons_of_mem _ z)
  dsimp only
  by_cases same : (b == c || (carriedByValue (.ref b) && carriedByValue (.ref c))) = true
  ·exact wp_if_pos same (wpAny_pure ⟨rfl, rfl, nxt⟩)
  ·refine wp_if_neg same (wpAny_bind (wpAny_eqIsQuiet_tuple x ?_))
   simp only [Bool.not_true, Bool.false_eq_true, if_false]
   refine wpAny_bind (wpAny_eqIsQuiet_tuple xc ?_)
   simp only [Bool.not_true, Bool.false_eq_true, if_false]
   refine wpAny_bind (tup_noclass cm x ?_)
   simp only [Bool.false_eq_true, if_false]
   refine wpAny_bind (tup_noclass cm xc ?_)
   simp only [Bool.false_eq_true, if_false]
   exact wpAny_pure ⟨rfl, rfl, nxt⟩
 ·simp only at c1
  subst c1 c2
  exact wpAny_pure q
variable {a : Addr} {L : List (Row κ)} {es : Array (Int × Value)} {ep : Nat} {t : SetTable}
theorem TR.count {h : Heap} (R : TR knd h a L es ep t) : es.size = L.length := by
 rw [← Array.length_toList, R.rows, rowVs, List.length_map]
theorem TR.fit {h : Heap} (R : TR knd h a L es ep t) : t.fits es.size = true := by
 have c1 := R.tab.sz
 have c2 := R.count
 have c3 := R.free
 rw [List.length_map] at c1
 unfold SetTable.fits SetTable.fill
 rw [R.tab.dm, Bool.and_eq_true, beq_iff_eq, decide_eq_true_eq]
 refine ⟨by rw [c1, c2], ?_⟩
 show t.place.size + 0 ≤ t.mask
 omega
theorem TR.get {h : Heap} (R : TR knd h a L es ep t) {i : Nat} {r : Row κ} (e : L[i]? = some r) : es[i]? = some (hk knd r.2, Value.ref r.1) := by
 rw [← Array.getElem?_toList, R.rows, rowVs, List.getElem?_map, e]
 rfl
theorem nodum (m : Nat) : ∀ (n : Nat) (p : SetTable.Probe), p.dummy = none → (nth m p n).dummy = none
 | 0, _, e => e
 | n + 1, p, e => nodum m n (adv m p) (by unfold adv; split <;> exact e)
theorem find_from (cm : CalmK knd) (R : TR knd s.heap a L es ep t) {x : Addr} {k : List κ} (X : IsTupleKey knd s.heap k x) (room : A.units < cLine) {N : Nat} (n1 : N < 10 * SetTable.turns t.mask) (n2 : way t.mask (hk knd k) N ∉ t.place.toList)
  (n3 : ∀ c, c < N → way t.mask (hk knd k) c ∈ t.place.toList) {Q : SetFound → Shared → Prop} (yes : k ∈ L.map (·.2) → Q (.there none) s) (no : k ∉ L.map (·.2) → Q (.free (way t.mask (hk knd k) N) false) s) :
  ∀ (fuel c : Nat) (from_ : Option SetTable.Probe), from_.getD (t.probeStart (hk knd k)) = nth t.mask (go0 t (hk knd k)) c → c ≤ N → N - c < fuel →
   (∀ (i : Nat) (r : Row κ), L[i]? = some r → r.2 = k → ∃ d, c ≤ d ∧ d < N ∧ t.place.toList[i]? = some (way t.mask (hk knd k) d)) → wpAny (model P w) A (setSearchFrom a (.ref x) (hk knd k) true fuel from_) Q E s := by
 intro fuel
 induction fuel with
 | zero => intro c _ _ _ z; exact absurd z (Nat.not_lt_zero _)
 | succ fuel ih =>
  intro c from_ hf hc hfu hre
  obtain ⟨ob, g1, g2, g3⟩ := R.obj
  rw [setSearchFrom_succ]
  refine wpAny_bind (wpAny_setState_of g1 g3 R.fit ?_)
  dsimp only
  have gw : ¬ t.gaveWay = true := by
   unfold SetTable.gaveWay
   rw [mask_odd R.tab.mok]
   decide
  refine wp_if_neg gw ?_
  try refine wpAny_bind (wpAny_pure ?_)
  have comp : ∀ q, nth t.mask (nth t.mask (go0 t (hk knd k)) c) q = nth t.mask (go0 t (hk knd k)) (c + q) := fun q => (nth_add t.mask c _ q).symm
  have compj : ∀ q, (nth t.mask (nth t.mask (go0 t (hk knd k)) c) q).j = way t.mask (hk knd k) (c + q) := fun q => congrArg SetTable.Probe.j (comp q)
  have cN : c + (N - c) = N := by omega
  have hh : ∀ (i : Nat) (r : Row κ), L[i]? = some r → (es[i]?.map (·.1)).getD 0 = hk knd r.2 := fun i r e => by
   rw [R.get e]; rfl
  rcases go_spec t R.tab.ris R.tab.dm (fun i => (es[i]?.map (·.1)).getD 0) (hk knd k) (10 * SetTable.turns t.mask) (N - c) (nth t.mask (go0 t (hk knd k)) c) (nodum _ c _ rfl) (by omega)
   (fun q z => by rw [compj]; exact n3 _ (by omega)) (by rw [compj, cN]; exact n2) with ⟨q, i, q1, q2, q3, q4, q5⟩ | ⟨q4, q5⟩
  ·rw [hf, show t.probe (fun i => (es[i]?.map (·.1)).getD 0) (hk knd k) (nth t.mask (go0 t (hk knd k)) c) = some (.candidate (way t.mask (hk knd k) (c + q)) i (nth t.mask (go0 t (hk knd k)) (c + (q + 1)))) by rw [← compj, ← comp]; exact q5]
   dsimp only
   rw [compj] at q2
   have il : i < L.length := by
    have e1 := (List.getElem?_eq_some_iff.mp q2).1
    have e2 := R.tab.sz
    rw [List.length_map] at e2
    rw [Array.length_toList, e2] at e1
    exact e1
   obtain ⟨r, hr⟩ : ∃ r, L[i]? = some r := ⟨L[i], List.getElem?_eq_getElem il⟩
   have rm : r ∈ L := List.mem_of_getElem? hr
   have sl : t.slot (way t.mask (hk knd k) (c + q)) = .live i := slot_live R.tab.ris q2
   have cand : wpAny (model P w) A (searchRest a (.ref x) (hk knd k) true fuel es t (way t.mask (hk knd k) (c + q)) i (nth t.mask (go0 t (hk knd k)) (c + (q + 1)))) Q E s := by
    unfold searchRest
    rw [R.get hr]
    dsimp only
    refine wpAny_bind (wpAny_holding (wpAny_eqBool_tuple room (R.key r rm) X (wpAny_bind (wpAny_setState_of g1 g3 R.fit ?_))))
    dsimp only
    by_cases ek : r.2 = k
    ·exact wp_if_pos (by simp [ek]) (wpAny_pure (yes (List.mem_map.mpr ⟨r, rm, ek⟩)))
    ·refine wp_if_neg (by simp [ek]) ?_
     try refine wpAny_bind (wpAny_pure ?_)
     rw [sameMem]
     dsimp only
     simp only [if_true, sl, R.get hr]
     refine wpAny_bind (wpAny_isSame_ref_self (wpAny_bind (wpAny_pure ?_)))
     simp only [if_true]
     refine wp_if_neg (by simp [ek]) (ih (c + (q + 1)) _ rfl (by omega) (by omega) fun i' r' hr' ek' => ?_)
     obtain ⟨d, d1, d2, d3⟩ := hre i' r' hr' ek'
     refine ⟨d, ?_, d2, d3⟩
     refine Nat.succ_le_of_lt (Nat.lt_of_not_le fun (dq : d ≤ c + q) => ?_)
     rcases Nat.lt_or_eq_of_le dq with lt | eq
     ·exact q4 (d - c) i' (by omega) (by rw [compj, show c + (d - c) = d by omega]; exact d3) ((hh i' r' hr').trans (by rw [ek']))
     ·rw [eq] at d3
      have s2 := slot_live R.tab.ris d3
      rw [sl] at s2
      cases s2
      rw [hr] at hr'
      exact ek (by rw [Option.some.inj hr']; exact ek')
   by_cases hl : t.led = true
   ·refine wp_if_neg (by simp [hl]) ?_
    try refine wpAny_bind (wpAny_pure ?_)
    exact cand
   ·refine wp_if_pos (by simp [hl]) (wpAny_bind (tup_unseen cm X (fun y hy => ?_) ?_))
    ·obtain ⟨en, e1, e2⟩ := List.mem_map.mp hy
     have e3 : en ∈ es.toList := by
      have : en ∈ es ∧ en.1 = hk knd k := by simpa using e1
      simpa using this.1
     rw [R.rows] at e3
     obtain ⟨r', h1, h2⟩ := List.mem_map.mp e3
     exact ⟨r'.2, r'.1, by rw [← e2, ← h2], R.key r' h1⟩
    ·refine wp_if_neg (by decide) ?_
     try refine wpAny_bind (wpAny_pure ?_)
     exact cand
  ·rw [hf, show t.probe (fun i => (es[i]?.map (·.1)).getD 0) (hk knd k) (nth t.mask (go0 t (hk knd k)) c) = some (.empty (way t.mask (hk knd k) N) none) by rw [show way t.mask (hk knd k) N = way t.mask (hk knd k) (c + (N - c)) by rw [cN], ← compj]; exact q5]
   dsimp only
   refine wpAny_pure (no fun m => ?_)
   obtain ⟨r, rm, ek⟩ := List.mem_map.mp m
   obtain ⟨i, il, hr⟩ := List.getElem_of_mem rm
   have hr : L[i]? = some r := by rw [List.getElem?_eq_getElem il, hr]
   obtain ⟨d, d1, d2, d3⟩ := hre i r hr ek
   exact q4 (d - c) i (by omega) (by rw [compj, show c + (d - c) = d by omega]; exact d3) ((hh i r hr).trans (by rw [ek]))
theorem find_add (cm : CalmK knd) (R : TR knd s.heap a L es ep t) {x : Addr} {k : List κ} (X : IsTupleKey knd s.heap k x) (room : A.units < cLine) {Q : SetFound → Shared → Prop} (yes : k ∈ L.map (·.2) → Q (.there none) s)
  (no : ∀ N, k ∉ L.map (·.2) → way t.mask (hk knd k) N ∉ t.place.toList → (∀ c, c < N → way t.mask (hk knd k) c ∈ t.place.toList) → Q (.free (way t.mask (hk knd k) N) false) s) : wpAny (model P w) A (setSearch a (.ref x) (hk knd k) true) Q E s := by
 have fr := R.free
 obtain ⟨N, n1, n2, n3⟩ := R.tab.first (by rw [List.length_map]; omega) (hk knd k)
 have small : 10 * SetTable.turns t.mask ≤ 1420 := by
  unfold SetTable.turns
  rcases R.tab.mok with e | e | e <;> omega
 unfold setSearch
 refine find_from cm R X room n1 n2 n3 yes (fun z => no N z n2 n3) 100000 0 none rfl (Nat.zero_le _) (by omega) fun i r hr ek => ?_
 have e1 : (L.map fun r => hk knd r.2)[i]? = some (hk knd k) := by rw [List.getElem?_map, hr, ← ek]; rfl
 have e2 : i < t.place.toList.length := by
  have e3 := R.tab.sz
  rw [List.length_map] at e3
  rw [Array.length_toList, e3]
  exact (List.getElem?_eq_some_iff.mp hr).1
 obtain ⟨c, c1, c2⟩ := R.tab.before n2 e1 (List.getElem?_eq_getElem e2)
 exact ⟨c, Nat.zero_le _, c1, by rw [List.getElem?_eq_getElem e2, c2]⟩
end
end DL
end
section
namespace DL
open PySem PySem.Spec PyProof.Rows L2 PySem.W PySem.Calls
section
variable {κ : Type} [DecidableEq κ] {P : Program} {w : World} {knd : KeyKind P w κ} {A : Around} {E : Value → Shared → Prop} {s : Shared} {a : Addr} {L : List (Row κ)} {es : Array (Int × Value)} {ep : Nat} {t : SetTable}
theorem key_but {h h' : Heap} {k : List κ} {b : Addr} {o : Obj} (x : IsTupleKey knd h k b) (e : h.get? a = some o) (d : o.data = .set es ep t) (sb : Heap.SameBut a h h') : IsTupleKey knd h' k b := by
 obtain ⟨ob, its, n, g1, g2, g3, g4⟩ := x
 refine ⟨ob, its, n, (sb.2 b fun z => ?_).trans g1, g2, g3, g4⟩
 subst z
 rw [g1] at e
 cases e
 rw [g3] at d
 cases d
theorem key_up {h h' : Heap} {k : List κ} {b : Addr} (x : IsTupleKey knd h k b) (kp : ∀ c o, h.get? c = some o → h'.get? c = some o) : IsTupleKey knd h' k b := by
 obtain ⟨ob, its, n, g1, g⟩ := x
 exact ⟨ob, its, n, kp b ob g1, g⟩
theorem rows_by (order : Array Nat) (hr : es.toList = rowVs knd L) (pm : order.toList.Perm (List.range L.length)) :
  ∃ M, (order.filterMap (es[·]?)).toList = rowVs knd M ∧ M.Perm L ∧ (M.map fun r => hk knd r.2) = order.toList.map fun i => (es.map (·.1)).getD i 0 := by
 have at_ : ∀ i : Nat, es[i]? = (L[i]?).map fun r : Row κ => (hk knd r.2, Value.ref r.1) := fun i => by
  rw [← Array.getElem?_toList, hr, rowVs, List.getElem?_map]
 have lo : ∀ i ∈ order.toList, i < L.length := fun i hi => List.mem_range.mp (pm.mem_iff.mp hi)
 refine ⟨order.toList.filterMap fun i => L[i]?, ?_, ?_, ?_⟩
 ·rw [Array.toList_filterMap, rowVs, List.map_filterMap]
  congr 1
  funext i
  exact at_ i
 ·refine (pm.filterMap fun i => L[i]?).trans (List.Perm.of_eq ?_)
  have all : ∀ n, n ≤ L.length → (List.range n).filterMap (fun i => L[i]?) = L.take n := fun n => by
   induction n with
   | zero => intro _; rfl
   | succ n ih =>
    intro hn
    rw [List.range_succ, List.filterMap_append, ih (by omega), List.take_add_one, List.getElem?_eq_getElem (show n < L.length by omega)]
    simp [List.getElem?_eq_getElem (show n < L.length by omega)]
  rw [all _ (Nat.le_refl _), List.take_length]
 ·have gen : ∀ l : List Nat, (∀ i ∈ l, i < L.length) → ((l.filterMap fun i => L[i]?).map fun r => hk knd r.2) = l.map fun i => (es.map (·.1)).getD i 0 := fun l => by
   induction l with
   | nil => intro _; rfl
   | cons i l ih =>
    intro hl
    have hi := hl i List.mem_cons_self
    rw [List.filterMap_cons_some (List.getElem?_eq_getElem hi), List.map_cons, List.map_cons, ih fun j hj => hl j (List.mem_cons_of_mem _ hj)]
    congr 1
    have e1 : (es.map (·.1))[i]? = some (hk knd L[i].2) := by
     rw [Array.getElem?_map, at_, List.getElem?_eq_getElem hi]; rfl
    rw [Array.getD_eq_getD_getElem?, e1]
    rfl
  exact gen _ lo
theorem lay_anew {o : Obj} (e0 : s.heap.get? a = some o) (ex : o.ExactSet) (ed : o.data = .set es ep t) (hr : es.toList = rowVs knd L) (sz : t.place.size = es.size) (dm : t.dummies = #[]) (low : es.size ≤ t.mask) (nd : (L.map (·.2)).Nodup)
  (ks : ∀ r ∈ L, IsTupleKey knd s.heap r.2 r.1) (ld : w.params.followText "set-order" = true ∨ t.led = true) (few : L.length < 64) {wanted M : Nat} (wM : SetTable.sizeAbove wanted - 1 = M) (mM : MaskOk M) (w128 : SetTable.sizeAbove wanted ≤ 128) (fr : L.length * 5 < M * 3)
  {Q : Unit → Shared → Prop} (q : ∀ h' L' es' ep' t', Heap.SameBut a s.heap h' → TR knd h' a L' es' ep' t' → L'.Perm L → Q () { s with heap := h' }) : wpAny (model P w) A (setRelay a wanted) Q E s := by
 have n1 : es.size = L.length := by rw [← Array.length_toList, hr, rowVs, List.length_map]
 have ft : t.fits es.size = true := by
  unfold SetTable.fits SetTable.fill
  rw [dm, Bool.and_eq_true, beq_iff_eq, decide_eq_true_eq]
  refine ⟨sz, ?_⟩
  show t.place.size + 0 ≤ t.mask
  omega
 obtain ⟨t', order, r1, r2, r3, r4, r5, r6, r7⟩ := relaid_ok t (hs := es.map (·.1)) (wanted := wanted) wM mM (by rw [Array.size_map, n1]; omega)
 rw [Array.size_map, n1] at r2
 obtain ⟨L', m1, m2, m3⟩ := rows_by (knd := knd) order hr r2
 rw [← m3] at r3
 have n2 : (order.filterMap (es[·]?)).size = es.size := by
  rw [← Array.length_toList, m1, rowVs, List.length_map, m2.length_eq, n1]
 rw [setRelay_eq]
 refine wpAny_bind (wpAny_setState_of e0 ed ft ?_)
 dsimp only
 refine wp_if_neg (by rw [sizeLine_eq]; omega) ?_
 try refine wpAny_bind (wpAny_pure ?_)
 rw [r1]
 dsimp only
 refine wpAny_bind (wp_if_neg (by rw [n2]; simp) ?_)
 try refine wpAny_bind (wpAny_pure ?_)
 refine wpAny_pure ?_
 dsimp only
 refine wpAny_storeSet_of e0 ed ?_ (by rw [n2, n1, sizeLine_eq]; omega)
 have sb : Heap.SameBut a s.heap (s.heap.update a (Obj.putSet (order.filterMap (es[·]?)) t')) := Heap.SameBut.update ..
 exact q _ L' _ _ t' sb ⟨⟨_, store_at e0 ed, ⟨ex.1, ex.2.1, ex.2.2⟩, rfl⟩, m1, r3, (m2.map (·.2)).nodup_iff.mpr nd, fun r z => key_but (ks r (m2.mem_iff.mp z)) e0 ed sb, by rw [r5]; exact ld, by rw [m2.length_eq, r4]; exact fr, by rw [m2.length_eq]; exact few⟩ m2
theorem put_tup (cm : CalmK knd) (R : TR knd s.heap a L es ep t) {x : Addr} {k : List κ} (X : IsTupleKey knd s.heap k x) (room : A.units < cLine) (few : L.length + 1 < 64) {Q : Bool → Shared → Prop}
  (q : ∀ b h' L' es' ep' t', Heap.SameBut a s.heap h' → TR knd h' a L' es' ep' t' → (k ∈ L.map (·.2) → L' = L) → (k ∉ L.map (·.2) → L'.Perm ((x, k) :: L)) → Q b { s with heap := h' }) : wpAny (model P w) A (setAddHashed a (.ref x) (hk knd k)) Q E s := by
 obtain ⟨ob, g1, g2, g3⟩ := R.obj
 have cnt := R.count
 have fr := R.free
 unfold setAddHashed
 refine wpAny_holding ?_
 rw [show (100000 : Nat) = 99999 + 1 from rfl, setAddHashedIn_succ]
 refine wpAny_bind (wpAny_setState_of g1 g3 R.fit ?_)
 dsimp only
 refine wp_if_neg (by simp [byScan, Value.scannable]) ?_
 try refine wpAny_bind (wpAny_pure ?_)
 refine wpAny_bind (find_add cm R X room (fun hm => ?_) fun N hm n2 n3 => ?_)
 ·exact wpAny_pure (q false s.heap L es ep t (Heap.SameBut.refl a s.heap) R (fun _ => rfl) fun z => absurd hm z)
 dsimp only
 refine wpAny_bind (wpAny_setState_of g1 g3 R.fit ?_)
 dsimp only
 have pt := R.tab.put n2 n3
 generalize wy : way t.mask (hk knd k) N = slot at pt ⊢
 obtain ⟨q1, q2, q3, q4, q5, q6, _, _, q9⟩ := pt
 generalize t.put slot = pr at q1 q3 q4 q5 q9 ⊢
 obtain ⟨t1, p⟩ := pr
 dsimp only at q1 q3 q4 q5 q9 ⊢
 rw [← q1] at q2 q3
 have pl : ∀ {kk : Bool → Sem Bool}, (∀ z, wpAny (model P w) A (kk z) Q E s) → wpAny (model P w) A (if t1.plain = true then hashByValue 8 (.ref x) >>= kk else pure true >>= kk) Q E s := fun {kk} q' => by
  by_cases z : t1.plain = true
  ·exact wp_if_pos z (wpAny_bind (tup_byval cm X q'))
  ·exact wp_if_neg z (wpAny_bind (wpAny_pure (q' true)))
 refine pl fun bv => ?_
 obtain ⟨t2, ht2⟩ : ∃ t2, t2 = (if bv = true then t1 else { t1 with plain := false }) := ⟨_, rfl⟩
 have q3' : TabOk t2 ((L.take p ++ (x, k) :: L.drop p).map fun r => hk knd r.2) := by
  rw [List.map_append, List.map_cons, List.map_take, List.map_drop]
  subst ht2
  cases bv
  ·exact ⟨q3.ris, q3.dm, q3.sz, q3.mok, q3.bd, q3.reach⟩
  ·exact q3
 have q4' : t2.mask = t.mask := by subst ht2; cases bv <;> exact q4
 have q5' : t2.led = t.led := by subst ht2; cases bv <;> exact q5
 have q9' : t2.fill = t1.fill := by subst ht2; cases bv <;> rfl
 rw [← q9'] at q9
 rw [← ht2]
 clear ht2 q9'
 clear q4 q5 q3
 have pm := put_perm L p (x, k)
 have n1 : (L.take p ++ (x, k) :: L.drop p).length = L.length + 1 := pm.length_eq
 have hr : (SetTable.insertAt es p (hk knd k, Value.ref x)).toList = rowVs knd (L.take p ++ (x, k) :: L.drop p) := by
  rw [SetTable.toList_insertAt, R.rows, rowVs, rowVs, List.map_append, List.map_cons, List.map_take, List.map_drop]
 have hq3 := q3'
 have nd : ((L.take p ++ (x, k) :: L.drop p).map (·.2)).Nodup := (pm.map (·.2)).nodup_iff.mpr (by
  rw [List.map_cons]; exact List.nodup_cons.mpr ⟨hm, R.nd⟩)
 generalize L.take p ++ (x, k) :: L.drop p = L1 at pm n1 hr hq3 nd
 generalize SetTable.insertAt es p (hk knd k, Value.ref x) = es1 at hr ⊢
 have c1 : es1.size = L.length + 1 := by rw [← Array.length_toList, hr, rowVs, List.length_map, n1]
 refine wpAny_bind (wpAny_storeSet_of g1 g3 ?_ (by rw [c1, sizeLine_eq]; omega))
 have sb : Heap.SameBut a s.heap (s.heap.update a (Obj.putSet es1 t2)) := Heap.SameBut.update ..
 have at1 := store_at (es' := es1) (t' := t2) g1 g3
 generalize s.heap.update a (Obj.putSet es1 t2) = h1 at sb at1 ⊢
 have ks1 : ∀ r ∈ L1, IsTupleKey knd h1 r.2 r.1 := fun r z => by
  rcases List.mem_cons.mp (pm.mem_iff.mp z) with rfl | z
  ·exact key_but X g1 g3 sb
  ·exact key_but (R.key r z) g1 g3 sb
 have ld1 : w.params.followText "set-order" = true ∨ t2.led = true := by rw [q5']; exact R.led
 have full_iff : t2.tooFull = true ↔ (L.length + 1) * 5 ≥ t2.mask * 3 := by
  unfold SetTable.tooFull
  rw [decide_eq_true_eq, q9, List.length_map]
 by_cases full : t2.tooFull = true
 ·first
   | (refine wpAny_bind (wp_if_pos (by simp [full]) ?_))
   | (refine wp_if_pos (by simp [full]) (wpAny_bind ?_))
  have ov := full_iff.mp full
  rw [q4'] at ov
  have two : (t.mask = 7 ∧ L.length = 4) ∨ (t.mask = 31 ∧ L.length = 18) := by
   rcases R.tab.mok with e | e | e <;> rw [e] at ov fr
   ·exact .inl ⟨e, by omega⟩
   ·exact .inr ⟨e, by omega⟩
   ·omega
  have hsz : t2.place.size = es1.size := by
   have z := hq3.sz
   rw [List.length_map, n1] at z
   rw [z, c1]
  have grow : ∀ M, SetTable.sizeAbove (SetTable.grown (L.length + 1)) - 1 = M → MaskOk M → SetTable.sizeAbove (SetTable.grown (L.length + 1)) ≤ 128 → (L.length + 1) * 5 < M * 3 →
    wpAny (model P w) A (setRelay a (SetTable.grown (L.length + 1))) (fun _ s1 => wpAny (model P w) A (pure true) Q E s1) E { s with heap := h1 } := fun M u1 u2 u3 u4 =>
   lay_anew (s := { s with heap := h1 }) at1 ⟨g2.1, g2.2.1, g2.2.2⟩ rfl hr hsz hq3.dm (by rw [c1, q4']; rcases two with ⟨e, e2⟩ | ⟨e, e2⟩ <;> omega) nd ks1 ld1 (by rw [n1]; exact few) u1 u2 u3 (by rw [n1]; exact u4) fun h2 L2 es2 ep2 t3 sb2 R2 pm2 =>
    wpAny_pure (q true h2 L2 es2 ep2 t3 (sb.trans sb2) R2 (fun z => absurd z hm) fun _ => pm2.trans pm)
  rw [cnt]
  rcases two with ⟨_, e⟩ | ⟨_, e⟩
  ·exact grow 31 (by rw [e, size_20]) (.inr (.inl rfl)) (by rw [e, size_20]; decide) (by omega)
  ·exact grow 127 (by rw [e, size_76]) (.inr (.inr rfl)) (by rw [e, size_76]; decide) (by omega)
 ·have ov : (L.length + 1) * 5 < t2.mask * 3 := Nat.lt_of_not_le fun z => full (full_iff.mpr z)
  first
   | refine wp_if_neg (by simp [full]) ?_
   | (refine wpAny_bind (wp_if_neg (by simp [full]) (wpAny_pure ?_)))
  exact wpAny_pure (q true h1 L1 es1 (ep + 1) t2 sb ⟨⟨_, at1, ⟨g2.1, g2.2.1, g2.2.2⟩, rfl⟩, hr, hq3, nd, ks1, ld1, by rw [n1]; exact ov, by rw [n1]; exact few⟩ (fun z => absurd z hm) fun _ => pm)
theorem tr_fresh {h : Heap} (e : h.get? a = some (fSet w)) : TR knd h a [] #[] 0 (.fresh 0 0 (!w.params.followText "set-order")) where
 obj := ⟨_, e, ⟨rfl, rfl, rfl⟩, rfl⟩
 rows := rfl
 tab := ⟨.nil, rfl, rfl, .inl rfl, fun x z => (by cases z), fun i h j z => (by simp at z)⟩
 nd := .nil
 key := fun r z => by cases z
 led := by
  show _ ∨ (!w.params.followText "set-order") = true
  cases w.params.followText "set-order" with
  | false => exact .inr rfl
  | true => exact .inl rfl
 free := by show 0 * 5 < 7 * 3; decide
 few := by show 0 < 64; decide
theorem TR.up {h h' : Heap} (R : TR knd h a L es ep t) (ka : ∀ o, h.get? a = some o → h'.get? a = some o) (ks : ∀ r ∈ L, IsTupleKey knd h' r.2 r.1) : TR knd h' a L es ep t := by
 obtain ⟨o, g1, g⟩ := R.obj
 exact ⟨⟨o, ka o g1, g⟩, R.rows, R.tab, R.nd, ks, R.led, R.free, R.few⟩
structure Of (rs : List (Row κ)) (i : Nat) (L : List (Row κ)) : Prop where
 sub : ∀ r ∈ L, r ∈ rs.take i
 all : ∀ r ∈ rs.take i, r.2 ∈ L.map (·.2)
 len : L.length ≤ i
end
section
variable {κ : Type} [DecidableEq κ] {P : Program} {w : World} {knd : KeyKind P w κ} {A : Around} {R : Result → Shared → Prop} {I S : Addr} {fp wr : List Addr} {G : Array GenState → Array GenState → Prop} {n : Nat} {Pv : Nat → Value → Prop} {St : Nat → Shared → Prop}
theorem tup_loop (cm : CalmK knd) (W : WalksS P w A.in1 I fp wr G n Pv St) (hSf : S ∉ fp) (rs : List (Row κ)) (hn : n = rs.length) (few : ∀ L : List (Row κ), (L.map (·.2)).Nodup → (∀ r ∈ L, r ∈ rs) → L.length < 63) (val : ∀ i v, Pv i v → ∃ r, rs[i]? = some r ∧ v = .ref r.1) (h0 : Heap) (key0 : ∀ r ∈ rs, IsTupleKey knd h0 r.2 r.1)
  (n1 : h0.get? S = none) (n2 : ∀ b ∈ wr, h0.get? b = none) (room : A.in1.units < cLine) :
  ∀ (m i : Nat) (s : Shared), m + i = n → St i s → (∀ b o, h0.get? b = some o → s.heap.get? b = some o) → (∃ L es ep t, TR knd s.heap S L es ep t ∧ Of rs i L) →
   (∀ s' L es ep t, Moved (S :: wr) G s s' → TR knd s'.heap S L es ep t → Of rs n L → (∀ b o, h0.get? b = some o → s'.heap.get? b = some o) → R (.ok (.ret .none)) s') → codeAny (model P w) A (.builtin "set.update.loop" ⟨[.ref S, .ref I], []⟩) R s := by
 have out : S ∉ wr := fun z => hSf (W.sub _ z)
 have inc : ∀ b ∈ wr, b ∈ S :: wr := fun b z => List.mem_cons_of_mem _ z
 have mvk : ∀ {s s' : Shared}, Moved wr G s s' → (∀ b o, h0.get? b = some o → s.heap.get? b = some o) → ∀ b o, h0.get? b = some o → s'.heap.get? b = some o := fun mv kp b o e => mv.heap b o (fun z => by rw [n2 b z] at e; cases e) (kp b o e)
 intro m
 induction m with
 | zero =>
  intro i s hm st kp ⟨L, es, ep, t, R1, g⟩ fin
  rw [Nat.zero_add] at hm
  subst hm
  refine codeAny_builtin F.entry_set_update_loop ?_
  rw [Around.under_plainId F.plain_set_update_loop _]
  show wpAny _ A.in1 (pyNext (.ref I) >>= _) _ _ s
  refine wpAny_bind (W.done s _ _ st fun s1 mv => ?_)
  have kp1 := mvk mv kp
  exact wpAny_pure (fin s1 L es ep t (mv.mono inc) (R1.up (fun o e => mv.heap S o out e) fun r z => key_up (key0 r (List.mem_of_mem_take (g.sub r z))) kp1) g kp1)
 | succ m ih =>
  intro i s hm st kp ⟨L, es, ep, t, R1, g⟩ fin
  refine codeAny_builtin F.entry_set_update_loop ?_
  rw [Around.under_plainId F.plain_set_update_loop _]
  show wpAny _ A.in1 (pyNext (.ref I) >>= _) _ _ s
  refine wpAny_bind (W.item i s _ _ (by omega) st fun v s1 hv st1 mv => ?_)
  obtain ⟨r, hr, rfl⟩ := val i v hv
  have kp1 := mvk mv kp
  have R2 : TR knd s1.heap S L es ep t := R1.up (fun o e => mv.heap S o out e) fun r z => key_up (key0 r (List.mem_of_mem_take (g.sub r z))) kp1
  have X : IsTupleKey knd s1.heap r.2 r.1 := key_up (key0 r (List.mem_of_getElem? hr)) kp1
  show wpAny _ A.in1 (holding [Value.ref r.1] (setAdd S (.ref r.1)) >>= _) _ _ s1
  unfold setAdd
  refine wpAny_bind (wpAny_holding (wpAny_holding (wpAny_bind (wpAny_pyHash_tuple room X ?_))))
  refine put_tup (s := { s1 with toks := s1.toks + (r.2.length + 1) }) cm R2 X room (by have := few L R1.nd fun r z => List.mem_of_mem_take (g.sub r z); omega) fun b h' L' es' ep' t' sb R3 c1 c2 => ?_
  have tk : rs.take (i + 1) = rs.take i ++ [r] := by rw [List.take_add_one, hr]; rfl
  have g' : Of rs (i + 1) L' := by
   by_cases c : r.2 ∈ L.map (·.2)
   ·rw [c1 c]
    refine ⟨fun x z => by rw [tk]; exact List.mem_append_left _ (g.sub x z), fun x z => ?_, Nat.le_succ_of_le g.len⟩
    rw [tk] at z
    rcases List.mem_append.mp z with z | z
    ·exact g.all x z
    ·rw [List.mem_singleton.mp z]; exact c
   ·have pm := c2 c
    refine ⟨fun x z => ?_, fun x z => ?_, by rw [pm.length_eq]; exact Nat.succ_le_succ g.len⟩
    ·rw [tk]
     rcases List.mem_cons.mp (pm.mem_iff.mp z) with e | z
     ·rw [e]; exact List.mem_append_right _ List.mem_cons_self
     ·exact List.mem_append_left _ (g.sub x z)
    ·rw [(pm.map (·.2)).mem_iff, List.map_cons]
     rw [tk] at z
     rcases List.mem_append.mp z with z | z
     ·exact List.mem_cons_of_mem _ (g.all x z)
     ·rw [List.mem_singleton.mp z]; exact List.mem_cons_self
  have kp2 : ∀ b o, h0.get? b = some o → h'.get? b = some o := fun b o e => (sb.2 b fun z => by rw [z, n1] at e; cases e).trans (kp1 b o e)
  refine wpAny_pure ⟨plainId_quiet F.plain_set_update_loop _, ih (i + 1) _ (by omega) (W.frame _ s1 _ _ st1 (Nat.le_add_right _ _) fun b z o e => ?_) kp2 ⟨L', es', ep', t', R3, g'⟩ fun s3 L3 es3 ep3 t3 mv3 R4 g3 kp3 => ?_⟩
  ·rw [sb.2 b fun y => hSf (by rw [← y]; exact z)]; exact e
  ·refine fin s3 L3 es3 ep3 t3 (Moved.trans W.gtrans ((mv.mono inc).then_heap (Nat.le_add_right _ _) fun b o z e => ?_) mv3) R4 g3 kp3
   rw [sb.2 b fun y => z (by rw [y]; exact List.mem_cons_self)]; exact e
end
section
variable {κ : Type} [DecidableEq κ] {P : Program} {w : World} {knd : KeyKind P w κ} {A : Around} {E : Value → Shared → Prop} {s : Shared}
theorem call_setT {T : String} (C : Seq1 T) (cm : CalmK knd) {l : Addr} {ol : Obj} {Pv : Nat → Value → Prop} (rs : List (Row κ)) {Q : Value → Shared → Prop} (hl : s.heap.get? l = some ol) (hc : ol.cls = .type T) (few : ∀ L : List (Row κ), (L.map (·.2)).Nodup → (∀ r ∈ L, r ∈ rs) → L.length < 63) (val : ∀ i v, Pv i v → ∃ r, rs[i]? = some r ∧ v = .ref r.1)
  (key0 : ∀ r ∈ rs, IsTupleKey knd s.heap r.2 r.1) (room : A.units + 3 < cLine)
  (hit : ∀ (A' : Around) (s1 : Shared) (E' : Value → Shared → Prop) (Q' : Value → Shared → Prop), s1.heap.get? l = some ol → (∀ (I : Addr) (h' : Heap), I = s1.heap.objs.size → (∀ b o, s1.heap.get? b = some o → h'.get? b = some o) →
    (∀ A2 : Around, A2.handled = A.handled → ∃ St : Nat → Shared → Prop, WalksS P w A2 I [I, l] [I] (fun g g' => g' = g) rs.length Pv St ∧ St 0 { s1 with heap := h' }) → Q' (.ref I) { s1 with heap := h' }) → wpAny (model P w) A' (pyIter (.ref l)) Q' E' s1)
  (h : ∀ (s' : Shared) L es ep t, TR knd s'.heap s.heap.objs.size L es ep t → Of rs rs.length L → (∀ b o, s.heap.get? b = some o → s'.heap.get? b = some o) → s'.gens = s.gens → s'.drawn = s.drawn → s'.os = s.os → Q (.ref s.heap.objs.size) s') :
  wpAny (model P w) A (call (.type "set") [.ref l]) Q E s := by
 obtain ⟨c0, tl, hmro⟩ := PySem.F.called_set.mro
 have m1 := PySem.F.called_set.made
 have m2 := PySem.F.called_set.sub
 refine wpAny_call (codeAny_of_tree ?_)
 show wpAny _ _ (callAny (.type "set") _) _ _ _
 refine wpAny_pure ⟨Code.quiet_builtin _ (by decide +kernel), codeAny_builtin PySem.F.entry_type_call ?_⟩
 rw [Around.under_plain (weight_type_call_type "set" [.ref l] []) rfl]
 have m3 := PySem.F.called_set.notType
 have m4 := PySem.F.called_set.canCreate
 have m5 := PySem.F.typeCall_set_1 (.ref l)
 repeat (any_goals (first | assumption | wp_step))
 refine codeAny_mono (set_new1 (.ref l) (E := E) (Q := fun obj s1 => obj = .ref s.heap.objs.size ∧ s1 = { s with heap := s.heap.push (fSet w) }) ⟨rfl, rfl⟩) fun r s1 hr => ?_
 cases r with
 | error e => exact hr
 | ok fl =>
  cases fl with
  | ret obj =>
   obtain ⟨rfl, rfl⟩ := hr
   have e0 : (s.heap.push (fSet w)).get? s.heap.objs.size = some (fSet w) := Heap.get?_push_size _ rfl
   have hT : Shared.TypeIs { s with heap := s.heap.push (fSet w) } (.ref s.heap.objs.size) "set" := ⟨_, e0, rfl⟩
   have m6 := PySem.F.called_set.init.lookup
   have m7 := PySem.F.called_set.init.bind (.ref s.heap.objs.size)
   repeat (any_goals (first | assumption | wp_step))
   refine codeAny_mono (codeAny_call_builtin (R := wants (fun r s2 => r = .none ∧ ∃ L es ep t, TR knd s2.heap s.heap.objs.size L es ep t ∧ Of rs rs.length L ∧ (∀ b o, s.heap.get? b = some o → s2.heap.get? b = some o) ∧ s2.gens = s.gens ∧ s2.drawn = s.drawn ∧ s2.os = s.os) E)
    PySem.F.called_set.init.plain PySem.F.entry_set_init (check_set_init_1 hT ?_)) fun r2 s2 hr2 => ?_
   ·obtain ⟨oc, od, dt, sl⟩ := ol
    simp only at hc
    subst hc
    have e1 : (s.heap.push (fSet w)).get? l = some { cls := .type T, dict := od, data := dt, slots := sl } := Heap.get?_push_of_some _ hl
    have k1 := C.s1
    have k2 := C.s2
    have k3 := C.ne
    have hls : l < s.heap.objs.size := Heap.lt_size hl
    have none_of : ∀ b, s.heap.objs.size ≤ b → s.heap.get? b = none := fun b z => by
     cases e : s.heap.get? b with
     | none => rfl
     | some o => exact absurd (Nat.lt_of_lt_of_le (Heap.lt_size e) z) (Nat.lt_irrefl _)
    unfold Builtin.«set.__init__» noKeywords Builtin.Frozenset.updateFrom
    generalize hPI : pyIter = PI
    wp_walk
    subst hPI
    refine hit _ _ _ _ e1 fun I h' hI kp W => ?_
    refine wpAny_bind (wpAny_runValue ?_)
    obtain ⟨St, W1, st⟩ := W A.in1.in1.in1 rfl
    have eI : I = s.heap.objs.size + 1 := by rw [hI]; exact Heap.size_push ..
    refine tup_loop cm W1 (fun z => ?_) rs rfl few val s.heap key0 (none_of _ (Nat.le_refl _)) (fun b z => none_of b (by rw [List.mem_singleton.mp z, eI]; exact Nat.le_succ _)) room rs.length 0 _ (by omega) st (fun b o e => kp b o (Heap.get?_push_of_some _ e))
     ⟨[], #[], 0, _, tr_fresh (kp _ _ e0), ⟨fun r z => (by cases z), fun r z => (by simp at z), Nat.le_refl _⟩⟩ fun s' L es ep t mv R1 g kp1 => ?_
    ·rcases List.mem_cons.mp z with z | z
     ·exact absurd (z.trans eI) (Nat.ne_of_lt (Nat.lt_succ_self _))
     ·exact absurd (List.mem_singleton.mp z) (Nat.ne_of_gt hls)
    ·show wpAny _ _ _ _ _ _
     refine wpAny_pure ?_
     show wpAny _ _ (ret Value.none) _ _ _
     exact wpAny_pure ⟨rfl, L, es, ep, t, R1, g, kp1, mv.gens, mv.drawn, mv.os⟩
   ·cases r2 with
    | error e => exact hr2
    | ok f2 =>
     cases f2 with
     | ret r =>
      obtain ⟨rfl, L, es, ep, t, q1, q2, q3, q5, q6, q7⟩ := hr2
      repeat (any_goals (first | assumption | wp_step))
      exact h _ L es ep t q1 q2 q3 q5 q6 q7
     | _ => exact hr2.elim
  | _ => exact hr.elim
end
end DL
end
section
namespace DL
open PySem PySem.Spec PyProof.Rows L2 PySem.W PySem.Calls
def pairD (p : Str × Str) : D := .tuple [.str p.1, .str p.2]
def leQ : Str × Str → Str × Str → Bool := dataLe false pairD
def sortQ (l : List (Str × Str)) : List (Str × Str) := l.mergeSort leQ
def onceQ : List (Str × Str) → List (Str × Str)
 | [] => []
 | x :: r => if x ∈ r then onceQ r else x :: onceQ r
theorem onceQ_mem {x : Str × Str} : ∀ {l : List (Str × Str)}, x ∈ onceQ l ↔ x ∈ l
 | [] => Iff.rfl
 | y :: r => by
  unfold onceQ
  split
  ·rename_i h
   rw [onceQ_mem (l := r), List.mem_cons]
   exact ⟨.inr, fun z => z.elim (fun z => by rw [z]; exact h) id⟩
  ·rw [List.mem_cons, List.mem_cons, onceQ_mem (l := r)]
theorem onceQ_nd : ∀ l : List (Str × Str), (onceQ l).Nodup
 | [] => .nil
 | y :: r => by
  unfold onceQ
  split
  ·exact onceQ_nd r
  ·rename_i h
   exact List.nodup_cons.mpr ⟨fun z => h (onceQ_mem.mp z), onceQ_nd r⟩
theorem nd_le {α : Type} [DecidableEq α] : ∀ {l m : List α}, l.Nodup → (∀ x ∈ l, x ∈ m) → l.length ≤ m.length
 | [], _, _, _ => Nat.zero_le _
 | x :: l, m, n, h => by
  obtain ⟨n1, n2⟩ := List.nodup_cons.mp n
  have hx := h x List.mem_cons_self
  have ih := nd_le (m := m.erase x) n2 fun y hy => (List.mem_erase_of_ne (fun e => n1 (by rw [← e]; exact hy))).mpr (h y (List.mem_cons_of_mem _ hy))
  rw [List.length_erase_of_mem hx] at ih
  have : 0 < m.length := List.length_pos_of_mem hx
  rw [List.length_cons]
  omega
theorem leQ_lawful : TotalLe leQ := sortLe_total (listOrd itemOrd) false fun p => keyToks (pairD p)
theorem leQ_anti {a b : Str × Str} (h1 : leQ a b = true) (h2 : leQ b a = true) : a = b := by
 have e1 : (!PyProof.Rows.lexLt itemOrd (keyToks (pairD b)) (keyToks (pairD a))) = true := h1
 have e2 : (!PyProof.Rows.lexLt itemOrd (keyToks (pairD a)) (keyToks (pairD b))) = true := h2
 rw [Bool.not_eq_true'] at e1 e2
 have e := lex_total (O := itemOrd) _ _ e2 e1
 obtain ⟨a1, a2⟩ := a
 obtain ⟨b1, b2⟩ := b
 have e : keyToks (.tuple [.str a1, .str a2]) = keyToks (.tuple [.str b1, .str b2]) := e
 simp only [keyToks, keyToksAll, List.cons_append, List.nil_append, List.cons.injEq, Sum.inr.injEq, true_and, and_true] at e
 rw [cps_inj e.1, cps_inj e.2]
theorem sortQ_same {k l : List (Str × Str)} (nk : k.Nodup) (nl : l.Nodup) (e : ∀ x, x ∈ k ↔ x ∈ l) (pw : k.Pairwise fun a b => leQ a b = true) : k = sortQ l :=
 (((List.perm_ext_iff_of_nodup nk nl).mpr e).trans (List.mergeSort_perm l leQ).symm).eq_of_pairwise (le := fun a b => leQ a b = true) (fun a b _ _ => leQ_anti) pw (List.pairwise_mergeSort leQ_lawful.trans (fun a b => by rw [Bool.or_eq_true]; exact leQ_lawful.total a b) l)
def prsOf : List D → Option (List (Str × Str))
 | [] => some []
 | .tuple [.str a, .str b] :: r => (prsOf r).map fun l => (a, b) :: l
 | _ => none
def sortTO (x : D) : Option (List D) := match x with
 | .list xs => (prsOf xs).bind fun l => if (onceQ l).length < 63 then some ((sortQ (onceQ l)).map pairD) else none
 | .tuple xs => (prsOf xs).bind fun l => if (onceQ l).length < 63 then some ((sortQ (onceQ l)).map pairD) else none
 | _ => none
theorem prsOf_ok {K : Frag} {F : Hp} : ∀ {xs : List D} {l : List (Str × Str)} {vs : List V}, prsOf xs = some l → RpAll K F vs xs →
  ∃ rs : List (Addr × Str × Str), vs = rs.map (fun r => V.ref r.1) ∧ rs.map (·.2) = l ∧ ∀ r ∈ rs, Rp K F (.ref r.1) (pairD r.2) ∧ TupN K F r.1 [V.str r.2.1, V.str r.2.2]
 | [], l, vs, h, r => by
  cases h
  cases r
  exact ⟨[], rfl, rfl, fun r z => by cases z⟩
 | x :: xs, l, vs, h, r => by
  unfold prsOf at h
  split at h
  ·contradiction
  ·rename_i a b r' e
   cases e
   obtain ⟨m, hm, rfl⟩ := Option.map_eq_some_iff.mp h
   cases r with
   | cons r1 r2 =>
    obtain ⟨rs, rfl, e2, e3⟩ := prsOf_ok hm r2
    have r0 := r1
    cases r1 with
    | @tup p vs' _ ht rr =>
     refine ⟨(p, a, b) :: rs, rfl, by rw [List.map_cons, e2], fun q z => ?_⟩
     rcases List.mem_cons.mp z with rfl | z
     ·refine ⟨r0, ?_⟩
      cases rr with
      | cons ra rr =>
       cases rr with
       | cons rb rr =>
        cases rr
        cases ra
        cases rb
        exact ht
     ·exact e3 q z
  ·cases h
theorem calm_str {P : Program} {w : World} : CalmK (strKind P w) := fun k v h n => by
 obtain ⟨t, rfl⟩ := Value.isStrOf_shape h
 exact ⟨by cases n <;> rfl, _, hashByValue_scannable n (x := .str k t) rfl⟩
section
variable {X : Cx} {pins : List (Addr × Obj)} {σ : Sl} {H F : Hp} {s : Shared}
theorem pair_key (I : L2.Inv X pins σ H s) (sm : Same F H) {p : Addr} {a b : Str} (h : TupN X.K F p [V.str a, V.str b]) : IsTupleKey (strKind X.prog X.w) s.heap [a, b] p := by
 obtain ⟨its, rv, ⟨o, ho, hc, n, hd⟩, _⟩ := I.tuple (sq_t sm h.seq)
 refine ⟨o, its.toArray, n, ho, hc, hd, ?_⟩
 cases rv with
 | cons r1 rv =>
  cases rv with
  | cons r2 rv =>
   cases rv
   obtain ⟨t1, rfl⟩ := r1
   obtain ⟨t2, rfl⟩ := r2
   exact .cons (strKind_is _ _ _ _) (.cons (strKind_is _ _ _ _) .nil)
abbrev rowOf (r : Addr × Str × Str) : Row Str := (r.1, [r.2.1, r.2.2])
theorem set_prs {p : Addr} {rs : List (Addr × Str × Str)} {Q : Value → Shared → Prop} {E : Value → Shared → Prop} (hc : X.calm = true) (room : X.A.units + 66 < cLine) (I : L2.Inv X pins σ H s) (sm : Same F H) (hp : SqL X.K H p (rs.map fun r => V.ref r.1) ∨ SqT X.K H p (rs.map fun r => V.ref r.1)) (few : (onceQ (rs.map (·.2))).length < 63)
  (ht : ∀ r ∈ rs, TupN X.K F r.1 [V.str r.2.1, V.str r.2.2]) (h : ∀ a L es ep t s', TR (strKind X.prog X.w) s'.heap a L es ep t → (∀ r ∈ L, ∃ q ∈ rs, r = rowOf q) → (∀ q ∈ rs, (rowOf q).2 ∈ L.map (·.2)) → L2.Inv X pins σ H s' → Q (.ref a) s') :
  wpAny (model X.prog X.w) X.A (call (.type "set") [.ref p]) Q E s := by
 have hh := I.ok.hd hc
 have few : ∀ L : List (Row Str), (L.map (·.2)).Nodup → (∀ r ∈ L, r ∈ rs.map rowOf) → L.length < 63 := fun L nd hL => by
  refine Nat.lt_of_le_of_lt ?_ few
  have nd2 : (L.map fun r => (r.2.getD 0 "", r.2.getD 1 "")).Nodup := by
   refine List.pairwise_map.mpr (List.Pairwise.imp_of_mem (fun {r r'} hr hr' hne e => hne ?_) (List.pairwise_map.mp nd))
   obtain ⟨u, _, rfl⟩ := List.mem_map.mp (hL r hr)
   obtain ⟨u', _, rfl⟩ := List.mem_map.mp (hL r' hr')
   have e1 : u.2.1 = u'.2.1 := congrArg Prod.fst e
   have e2 : u.2.2 = u'.2.2 := congrArg Prod.snd e
   show [u.2.1, u.2.2] = [u'.2.1, u'.2.2]
   rw [e1, e2]
  have := nd_le nd2 (m := onceQ (rs.map (·.2))) fun x hx => by
   obtain ⟨r, hr, rfl⟩ := List.mem_map.mp hx
   obtain ⟨u, hu, rfl⟩ := List.mem_map.mp (hL r hr)
   exact onceQ_mem.mpr (List.mem_map.mpr ⟨u, hu, rfl⟩)
  rwa [List.length_map] at this
 have keys : ∀ r ∈ rs.map rowOf, IsTupleKey (strKind X.prog X.w) s.heap r.2 r.1 := fun r z => by
  obtain ⟨q, hq, rfl⟩ := List.mem_map.mp z
  exact pair_key I sm (ht q hq)
 have fin : ∀ (s' : Shared) L es ep t, TR (strKind X.prog X.w) s'.heap s.heap.objs.size L es ep t → Of (rs.map rowOf) (rs.map rowOf).length L → (∀ b o, s.heap.get? b = some o → s'.heap.get? b = some o) → s'.gens = s.gens → s'.drawn = s.drawn → s'.os = s.os → Q (.ref s.heap.objs.size) s' := fun s' L es ep t R g kp q4 q5 q6 => by
  have es' : s' = { s with heap := s'.heap, toks := s'.toks } := by
   cases s'
   cases s
   cases q4; cases q5; cases q6
   rfl
  refine h _ L es ep t s' R (fun r z => ?_) (fun q z => ?_) ?_
  ·have := g.sub r z
   rw [List.take_length] at this
   obtain ⟨q, hq, e⟩ := List.mem_map.mp this
   exact ⟨q, hq, e.symm⟩
  ·exact g.all (rowOf q) (by rw [List.take_length]; exact List.mem_map.mpr ⟨q, z, rfl⟩)
  ·rw [es']
   exact I.kept kp
 have val : ∀ us : List Value, Vals (rs.map fun r => V.ref r.1) us → ∀ (i : Nat) (v : Value), us.toArray[i]? = some v → ∃ r, (rs.map rowOf)[i]? = some r ∧ v = .ref r.1 := fun us r i v e => by
  have gen : ∀ {rs : List (Addr × Str × Str)} {us : List Value} {i : Nat}, Vals (rs.map fun r => V.ref r.1) us → us[i]? = some v → ∃ r, (rs.map rowOf)[i]? = some r ∧ v = .ref r.1 := fun {rs} => by
   induction rs with
   | nil => intro us i r e; cases r; simp at e
   | cons a rs ih =>
    intro us i r e
    cases r with
    | cons r1 r2 =>
     cases i with
     | zero =>
      simp at e
      subst e
      cases r1
      exact ⟨rowOf a, rfl, rfl⟩
     | succ i =>
      obtain ⟨q, e1, e2⟩ := ih r2 (show _ = some v by simpa using e)
      exact ⟨q, by simpa using e1, e2⟩
  exact gen r (by simpa using e)
 rcases hp with hp | hp
 ·obtain ⟨us, r, pl, _⟩ := I.list hp
  obtain ⟨o, n, e, oc, od, dt⟩ := pl
  have hl : us.toArray.size = (rs.map rowOf).length := by rw [List.size_toArray, ← r.length, List.length_map, List.length_map]
  refine call_setT (knd := strKind X.prog X.w) seq_l calm_str (Pv := fun i v => us.toArray[i]? = some v) (rs.map rowOf) e oc few (val us r) keys (by omega) (fun A' s1 E' Q' e1 k => ?_) fin
  have il : s1.heap.IsList p us.toArray := ⟨o, e1, oc, n, dt⟩
  have ne : p ≠ s1.heap.objs.size := Nat.ne_of_lt (Heap.lt_size e1)
  refine wpAny_pyIter_list il (k _ _ rfl (fun b u q => Heap.get?_push_of_some _ q) fun A2 h2 => ?_)
  have W := (Walks.list (prog := X.prog) (w := X.w) (A := A2) (h2.trans hh) s1.heap.objs.size p ne us.toArray).toS
  rw [hl] at W
  exact ⟨_, W, ⟨⟨_, Heap.get?_push_size _ rfl, rfl, rfl⟩, il.push _⟩⟩
 ·obtain ⟨us, r, pl, _⟩ := I.tuple hp
  obtain ⟨o, e, oc, n, dt⟩ := pl
  have hl : us.toArray.size = (rs.map rowOf).length := by rw [List.size_toArray, ← r.length, List.length_map, List.length_map]
  refine call_setT (knd := strKind X.prog X.w) seq_t calm_str (Pv := fun i v => us.toArray[i]? = some v) (rs.map rowOf) e oc few (val us r) keys (by omega) (fun A' s1 E' Q' e1 k => ?_) fin
  have it : s1.heap.IsTuple p us.toArray := ⟨o, e1, oc, n, dt⟩
  have ne : p ≠ s1.heap.objs.size := Nat.ne_of_lt (Heap.lt_size e1)
  refine wpAny_pyIter_tuple it (k _ _ rfl (fun b u q => Heap.get?_push_of_some _ q) fun A2 h2 => ?_)
  have W := (Walks.tuple (prog := X.prog) (w := X.w) (A := A2) (h2.trans hh) s1.heap.objs.size p ne us.toArray).toS
  rw [hl] at W
  exact ⟨_, W, ⟨⟨_, Heap.get?_push_size _ rfl, rfl, rfl⟩, it.push _⟩⟩
end
def encR (r : Row Str) : D := .tuple (r.2.map .str)
section
variable {P : Program} {w : World} {A : Around} {E : Value → Shared → Prop} {s : Shared} {a : Addr} {L : List (Row Str)} {es : Array (Int × Value)} {ep : Nat} {t : SetTable}
theorem reads_row {h : Heap} {r : Row Str} (x : IsTupleKey (strKind P w) h r.2 r.1) : Reads h (.ref r.1) (encR r) [] := by
 obtain ⟨b, ks⟩ := r
 obtain ⟨o, its, n, ho, hc, hd, hi⟩ := x
 refine .tuple ho hc hd ?_
 replace hi : ItemsAre (strKind P w) ks its.toList := hi
 show ReadsAll h its.toList (ks.map .str) []
 generalize its.toList = vs at hi
 clear hd ho
 induction hi with
 | nil => exact .nil
 | cons h1 _ ih =>
  obtain ⟨t, rfl⟩ := Value.isStrOf_shape h1
  exact .cons (as := []) (bs := []) (.str _ _) ih
theorem sorted_tr {Q : Value → Shared → Prop} (R : TR (strKind P w) s.heap a L es ep t) (two : ∀ r ∈ L, ∃ x y, r.2 = [x, y]) (hh : A.handled = none) (hu : A.units + 66 < cLine)
  (h : ∀ (s' : Shared) (p : Addr) (out : List Value) (c : Nat) (L' : List (Row Str)), (∀ b o, s.heap.get? b = some o → s'.heap.get? b = some o) → s'.gens = s.gens → s'.os = s.os → s.heap.objs.size ≤ p → s'.heap.get? p = some (seqObj "list" out.toArray c) → out = L'.map (fun r => Value.ref r.1) → L'.Perm L →
   L'.Pairwise (fun x y => dataLe false encR x y = true) → Q (.ref p) s') : wpAny (model P w) A (call (.builtin "sorted") [.ref a]) Q E s := by
 obtain ⟨o, g1, g2, g3⟩ := R.obj
 have cnt := R.count
 have few := R.few
 refine Calls.call_function_entry kind_sorted plain_sorted entry_sorted (args_sorted1 _) ?_
 unfold Builtin.«sorted»
 refine wpAny_bind (m := checkCount "sorted" 1 1 _) (wpAny_pure (wpAny_bind ?_))
 refine collect_set (A := A.in1) hh ⟨o, g1, g2.1, g3⟩ R.fit (by unfold scanBound; omega) R.tab.ris R.led fun s1 vs k1 z1 h1 o1 pm => ?_
 have each0 : EachIs (fun v r => v = Value.ref r.1 ∧ r ∈ L) (es.toList.map (·.2)) L := by
  rw [R.rows, rowVs, List.map_map]
  have gen : ∀ M : List (Row Str), (∀ r ∈ M, r ∈ L) → EachIs (fun v r => v = Value.ref r.1 ∧ r ∈ L) (M.map ((·.2) ∘ fun r => (hk (strKind P w) r.2, Value.ref r.1))) M := fun M => by
   induction M with
   | nil => intro _; exact .nil
   | cons r M ih => intro hM; exact .cons ⟨rfl, hM r List.mem_cons_self⟩ (ih fun x z => hM x (List.mem_cons_of_mem _ z))
  exact gen L fun r z => z
 obtain ⟨L1, e1, p1⟩ := each_perm pm each0
 have hl1 : vs.length = L.length := (each_len e1).trans p1.length_eq
 refine wpAny_bind (wpAny_newList ?_ (by rw [hl1, sizeLine_eq]; omega))
 have oL : (s1.heap.push (seqObj "list" vs.toArray 0)).get? s1.heap.objs.size = some (seqObj "list" vs.toArray 0) := Heap.get?_push_size _ rfl
 have al : AllAlike (L1.map encR) := fun d hd d' hd' => by
  obtain ⟨r, hr, rfl⟩ := List.mem_map.mp hd
  obtain ⟨r', hr', rfl⟩ := List.mem_map.mp hd'
  obtain ⟨x, y, e⟩ := two r (p1.mem_iff.mp hr)
  obtain ⟨x', y', e'⟩ := two r' (p1.mem_iff.mp hr')
  unfold encR
  rw [e, e']
  simp [alike, alikeAll]
 have so : Sortable (L1.map encR) := .inl fun d hd => by
  obtain ⟨r, hr, rfl⟩ := List.mem_map.mp hd
  obtain ⟨x, y, e⟩ := two r (p1.mem_iff.mp hr)
  unfold encR
  rw [e]
  exact ⟨_, _, rfl⟩
 have rd : EachIs (fun v r => ∃ as, Reads (s1.heap.push (seqObj "list" vs.toArray 0)) v (encR r) as ∧ s1.heap.objs.size ∉ as) vs L1 := e1.mono fun v r ⟨q1, q2⟩ => ⟨[], by
  subst q1
  exact reads_row (P := P) (w := w) (key_up (R.key r q2) fun c o e => Heap.get?_push_of_some _ (k1 c o e)), by simp⟩
 refine wpAny_bind (wpAny_holding (list_sort_data (s := { s1 with heap := s1.heap.push (seqObj "list" vs.toArray 0) }) (enc := encR) (R := fun v r => v = Value.ref r.1 ∧ r ∈ L) oL e1 rd al so (by rw [p1.length_eq, sizeLine_eq]; omega) (fun r hr => ?_) fun out ho eo => ?_))
 ·show A.in1.units + 1 + PyData.depth (encR r) < cLine
  have : A.in1.units ≤ A.units + 1 := by first | exact Nat.le_refl _ | simp [Around.in1]
  obtain ⟨x, y, e⟩ := two r (p1.mem_iff.mp hr)
  have : PyData.depth (encR r) ≤ 1 := by
   unfold encR
   rw [e]
   simp [PyData.depth, PyData.depthAll]
  omega
 ·obtain ⟨c, hc⟩ := PyProof.Rows.sortedHeap_at (vs := vs) (out := out.toArray) oL
  refine wpAny_pure ⟨_, rfl, h _ s1.heap.objs.size out c (L1.mergeSort (dataLe false encR)) (fun b u q => ?_) h1 o1 z1 hc ?_ ((List.mergeSort_perm _ _).trans p1) ?_⟩
  ·have q1 := k1 b u q
   have hlt := Heap.lt_size q1
   show (PyProof.Rows.sortedHeap (s1.heap.push (seqObj "list" vs.toArray 0)) s1.heap.objs.size vs out.toArray).get? b = some u
   rw [PyProof.Rows.sortedHeap_old (Nat.ne_of_lt hlt) (Nat.lt_of_lt_of_eq (Nat.lt_succ_of_lt hlt) (Heap.size_push ..).symm)]
   exact Heap.get?_push_of_some _ q1
  ·have gen : ∀ {us : List Value} {M : List (Row Str)}, EachIs (fun v r => v = Value.ref r.1 ∧ r ∈ L) us M → us = M.map fun r => Value.ref r.1 := fun {us M} q => by
    induction q with
    | nil => rfl
    | cons q _ ih => rw [List.map_cons, ← ih, q.1]
   exact gen eo
  ·have tot := sortLe_total (listOrd itemOrd) false fun r : Row Str => keyToks (encR r)
   exact List.pairwise_mergeSort tot.trans (fun a b => by rw [Bool.or_eq_true]; exact tot.total a b) L1
end
section
variable {X : Cx} {c : Ct} {e : Expr} {pos pos2 p p2 : Pos} {ka pu : Bool} {me : M D}
theorem n_sortT (hc : X.calm = true) (hu : X.A.units + 66 < cLine) (hm : X.mg "sorted" = none) (hm2 : X.mg "set" = none) (ha : PE X e (te X.K c ka pu me)) (hg : Gl X "sorted" := by rfl) (hg2 : Gl X "set" := by rfl) (na2 : starEach [e] X.env = (false, eval e X.env) :: starEach [] X.env := by rfl)
  (na : starEach [.Call (.Name "set" p2) [e] [] pos2] X.env = (false, eval (.Call (.Name "set" p2) [e] [] pos2) X.env) :: starEach [] X.env := by rfl) : PE X (.Call (.Name "sorted" p) [.Call (.Name "set" p2) [e] [] pos2] [] pos) (tn X.K c pu (mFN sortTO me)) := ⟨fun pins s σ H Q I ⟨F, ρ, O, ev, h⟩ => by
 refine Call_ (ld_blt I hg hm boot_sorted ?_)
 have inner : wpAny (model X.prog X.w) X.A (eval (.Call (.Name "set" p2) [e] [] pos2) X.env) (fun v s' => ∃ (a : Addr) (L : List (Row Str)) (es : Array (Int × Value)) (ep : Nat) (t : SetTable) (F1 : Hp) (ρ1 : Env) (O1 : List Addr) (H1 : Hp) (rs : List (Addr × Str × Str)), v = Value.ref a ∧ TR (strKind X.prog X.w) s'.heap a L es ep t ∧ (∀ r ∈ L, ∃ q ∈ rs, r = rowOf q) ∧ (∀ q ∈ rs, (rowOf q).2 ∈ L.map (·.2)) ∧ L2.Inv X pins σ H1 s' ∧ EnvR X.K c F1 H1 σ ρ1 O1 ∧ Same F F1 ∧ (pu = true → Same H H1) ∧
   (∀ r ∈ rs, Rp X.K F1 (.ref r.1) (pairD r.2)) ∧ PN X.K c pu F H σ Q ((sortQ (onceQ (rs.map (·.2)))).map pairD) ρ1) X.xe s := by
  refine Call_ (ld_blt I hg2 hm2 boot_set ?_)
  refine PyProof.Rows.callWith_type1 (PyProof.Rows.args_cons (thn (ha.run pins s σ H (fun v H1 => ∃ (F1 : Hp) (ρ1 : Env) (O1 : List Addr) (p : Addr) (rs : List (Addr × Str × Str)), EnvR X.K c F1 H1 σ ρ1 O1 ∧ Same F F1 ∧ (pu = true → Same H H1) ∧ v = .ref p ∧ (SqL X.K H1 p (rs.map fun r => V.ref r.1) ∨ SqT X.K H1 p (rs.map fun r => V.ref r.1)) ∧ (onceQ (rs.map (·.2))).length < 63 ∧ (∀ r ∈ rs, Rp X.K F1 (.ref r.1) (pairD r.2) ∧ TupN X.K F1 r.1 [V.str r.2.1, V.str r.2.2]) ∧
    PN X.K c pu F H σ Q ((sortQ (onceQ (rs.map (·.2)))).map pairD) ρ1) I ?_) fun v s1 ⟨x, H1, I1, r1, q1⟩ => PyProof.Rows.args_nil ?_) na2) na2 rfl
  ·refine te_step ev h fun y ρ1 F1 H1 O1 v h1 e1 s1 p1 v1 => ?_
   obtain ⟨z, hz, h2⟩ := post_ofO h1
   unfold sortTO at hz
   split at hz
   ·obtain ⟨l, hl, hz⟩ := Option.bind_eq_some_iff.mp hz
    split at hz
    ·rename_i few
     cases hz
     obtain ⟨p, vs, rfl, k1, k2⟩ := inv_list e1.sub v1.up0
     obtain ⟨rs, rfl, q2, q3⟩ := prsOf_ok hl k2
     subst q2
     exact ⟨F1, ρ1, O1, p, rs, e1, s1, p1, rfl, .inl (.of k1), few, q3, h2⟩
    ·cases hz
   ·obtain ⟨l, hl, hz⟩ := Option.bind_eq_some_iff.mp hz
    split at hz
    ·rename_i few
     cases hz
     obtain ⟨p, vs, rfl, k1, k2⟩ := inv_tup v1.up0
     obtain ⟨rs, rfl, q2, q3⟩ := prsOf_ok hl k2
     subst q2
     exact ⟨F1, ρ1, O1, p, rs, e1, s1, p1, rfl, .inr (sq_t e1.sub k1.seq), few, q3, h2⟩
    ·cases hz
   ·cases hz
  ·obtain ⟨F1, ρ1, O1, p, rs, e1, s1', p1, rfl, k1, few, q3, h2⟩ := q1
   cases r1
   exact set_prs hc hu I1 e1.sub k1 few (fun r z => (q3 r z).2) fun a L es ep t s' R c1 c2 I' => ⟨a, L, es, ep, t, F1, ρ1, O1, H1, rs, rfl, R, c1, c2, I', e1, s1', p1, fun r z => (q3 r z).1, h2⟩
 refine PyProof.Rows.callWith_builtin1 (PyProof.Rows.args_cons (thn inner fun v s1 ⟨a, L, es, ep, t, F1, ρ1, O1, H1, rs, hv, R, c1, c2, I1, e1, s1', p1, q3, h2⟩ => PyProof.Rows.args_nil ?_) na) na rfl
 subst hv
 have two : ∀ r ∈ L, ∃ x y, r.2 = [x, y] := fun r z => by
  obtain ⟨q, _, rfl⟩ := c1 r z
  exact ⟨_, _, rfl⟩
 refine sorted_tr R two (I1.ok.hd hc) hu fun s' q out cc L' keep hg' ho' hq hget eo pm pw => ?_
 have hn : H1 q = none := I1.hok.fresh hq
 subst eo
 have vs : Vals (L'.map fun r => V.ref r.1) (L'.map fun r => Value.ref r.1) := by
  clear pm pw hget
  induction L' with
  | nil => exact .nil
  | cons r L' ih => exact .cons rfl ih
 have hz : (L'.map fun r => V.ref r.1).length ≤ sizeLine := by
  have := R.few
  rw [List.length_map, pm.length_eq, sizeLine_eq]
  omega
 have J : L2.Inv X pins σ (upd H1 q (.lst (L'.map fun r => V.ref r.1))) { s1 with heap := s'.heap, gens := s'.gens, drawn := s'.drawn, toks := s'.toks } :=
  I1.call (ch := []) (Un.laid keep hq hn) (I1.hok.laid keep hq ⟨hz, _, cc, vs, hget⟩) (by rw [hg']; exact I1.bare) (fun _ z => nomatch z)
 have es : s' = { s1 with heap := s'.heap, gens := s'.gens, drawn := s'.drawn, toks := s'.toks } := by
  cases s'
  cases s1
  cases ho'
  rfl
 rw [es]
 have n1 := New.own e1.sub hn (.lst (L'.map fun r => V.ref r.1))
 refine ⟨.ref q, _, J, rfl, h2 F1 _ O1 q _ (e1.new n1) s1' (fun z => (p1 z).trans n1.hH) upd_same ?_ (e1.apart hn)⟩
 -- what it holds
 have cho : ∀ r ∈ L', ∃ q ∈ rs, r = rowOf q := fun r z => c1 r (pm.mem_iff.mp z)
 let toQ : Row Str → Str × Str := fun r => (r.2.getD 0 "", r.2.getD 1 "")
 have eq : L'.map toQ = sortQ (onceQ (rs.map (·.2))) := by
  have nd : (L'.map (·.2)).Nodup := (pm.map (·.2)).nodup_iff.mpr R.nd
  refine sortQ_same ?_ (onceQ_nd _) (fun x => ?_) ?_
  ·refine List.pairwise_map.mpr (List.Pairwise.imp_of_mem (fun {r r'} hr hr' hne e => hne ?_) (List.pairwise_map.mp nd))
   obtain ⟨u, _, rfl⟩ := cho r hr
   obtain ⟨u', _, rfl⟩ := cho r' hr'
   have e1 : u.2.1 = u'.2.1 := congrArg Prod.fst e
   have e2 : u.2.2 = u'.2.2 := congrArg Prod.snd e
   show [u.2.1, u.2.2] = [u'.2.1, u'.2.2]
   rw [e1, e2]
  ·rw [onceQ_mem, List.mem_map, List.mem_map]
   constructor
   ·rintro ⟨r, hr, rfl⟩
    obtain ⟨u, hu, rfl⟩ := cho r hr
    exact ⟨u, hu, rfl⟩
   ·rintro ⟨u, hu, rfl⟩
    obtain ⟨r, hr, e⟩ := List.mem_map.mp (c2 u hu)
    refine ⟨r, pm.mem_iff.mpr hr, ?_⟩
    show (r.2.getD 0 "", r.2.getD 1 "") = u.2
    rw [show r.2 = [u.2.1, u.2.2] from e]
    rfl
  ·refine List.pairwise_map.mpr (List.Pairwise.imp_of_mem (fun {r r'} hr hr' hle => ?_) pw)
   obtain ⟨u, _, rfl⟩ := cho r hr
   obtain ⟨u', _, rfl⟩ := cho r' hr'
   exact hle
 rw [← eq]
 clear eq pm pw hget vs hz J n1
 induction L' with
 | nil => exact .nil
 | cons r L' ih =>
  obtain ⟨u, hu, rfl⟩ := cho r List.mem_cons_self
  exact .cons (q3 u hu) (ih fun x z => cho x (List.mem_cons_of_mem _ z))⟩
end
def sortSO (x : D) : Option (List D) := match textsD x with
 | some l => some ((sortS (onceS l)).map .str)
 | none => sortTO x
section
variable {X : Cx} {c : Ct} {e : Expr} {pos pos2 p p2 : Pos} {ka pu : Bool} {me : M D}
theorem n_sortS (hc : X.calm = true) (hu : X.A.units + 66 < cLine) (hm : X.mg "sorted" = none) (hm2 : X.mg "set" = none) (ha : PE X e (te X.K c ka pu me)) (hg : Gl X "sorted" := by rfl) (hg2 : Gl X "set" := by rfl) (na2 : starEach [e] X.env = (false, eval e X.env) :: starEach [] X.env := by rfl)
  (na : starEach [.Call (.Name "set" p2) [e] [] pos2] X.env = (false, eval (.Call (.Name "set" p2) [e] [] pos2) X.env) :: starEach [] X.env := by rfl) : PE X (.Call (.Name "sorted" p) [.Call (.Name "set" p2) [e] [] pos2] [] pos) (tn X.K c pu (mFN sortSO me)) :=
 (PE.two (n_sortK hc hu hm (sk_set hc hm2 ha hg2 na2) hg na) (n_sortT hc hu hm hm2 ha hg hg2 na2 na)).imp fun σ H Q ⟨F, ρ, O, ev, h⟩ => by
  cases hm : me ρ with
  | bad =>
   have e1 : mFN sortSO me ρ = .bad := by unfold mFN; rw [hm]; rfl
   rw [e1] at h; exact h.elim
  | ex ξ ρ1 =>
   have e1 : mFN sortSO me ρ = .ex ξ ρ1 := by unfold mFN; rw [hm]; rfl
   have e2 : mFN sortTO me ρ = .ex ξ ρ1 := by unfold mFN; rw [hm]; rfl
   exact .inr ⟨F, ρ, O, ev, by rw [e2]; rw [e1] at h; exact h⟩
  | ok x ρ1 =>
   have e1 : mFN sortSO me ρ = ofO (sortSO x) ρ1 := by unfold mFN; rw [hm]; rfl
   rw [e1] at h
   unfold sortSO at h
   cases ht : textsD x with
   | some l =>
    rw [ht] at h
    have e2 : mSortK (mSetOf me) ρ = .ok ((sortS (onceS l)).map .str) ρ1 := by
     unfold mSortK mSetOf
     rw [hm]
     show ((ofO (textsD x) ρ1).bind _) = _
     rw [ht]; rfl
    exact .inl ⟨F, ρ, O, ev, by rw [e2]; exact h⟩
   | none =>
    rw [ht] at h
    have e2 : mFN sortTO me ρ = ofO (sortTO x) ρ1 := by unfold mFN; rw [hm]; rfl
    exact .inr ⟨F, ρ, O, ev, by rw [e2]; exact h⟩
end
end DL
end
section
namespace DL
open PySem PySem.Spec PyProof.Rows L2 PySem.W
section
variable {prog : Program} {w : World} {A : Around} {E : Value → Shared → Prop} {s : Shared}
end
section
variable {X : Cx} {c : Ct} {a b : Expr} {p2 pos : Pos} {ka kb pa pb : Bool} {ma mb : M D}
end
end DL
end
section
namespace DL
open PySem PySem.Spec PyProof.Rows
section
variable {prog : Program} {w : World} {A : Around} {E : Value → Shared → Prop} {s : Shared}
end
end DL
end
section
namespace DL
open PySem PySem.Spec PyProof.Rows
section
variable {prog : Program} {w : World} {A : Around} {E : Value → Shared → Prop} {s : Shared}
end
open L2 PySem.Calls
section
variable {prog : Program} {w : World} {A : Around} {E : Value → Shared → Prop} {s : Shared}
end
end DL
end
section
namespace DL
open PySem PySem.Spec PyProof.Rows L2 PySem.Calls
section
variable {prog : Program} {w : World} {A : Around} {E : Value → Shared → Prop} {s : Shared}
end
section
variable {M : Model} {A : Around} {E : Value → Shared → Prop} {s : Shared} {env : PySem.Env}
end
def zipSD : D → D → Option (List D)
 | .list xs, .list ys => if xs.length = ys.length then some ((xs.zip ys).map fun p => .tuple [p.1, p.2]) else none
 | .tuple xs, .tuple ys => if xs.length = ys.length then some ((xs.zip ys).map fun p => .tuple [p.1, p.2]) else none
 | _, _ => none
def mZipS (a b : M D) : M (List D) := fun ρ => (a ρ).bind fun x ρ1 => (b ρ1).bind fun y ρ2 => ofO (zipSD x y) ρ2
section
variable {X : Cx} {c : Ct} {e e2 : Expr} {pos p tpos cp kp : Pos} {p1 p2 : Bool} {ma mb : M D} {elts : List Expr} {kk ck : Nat}
end
section
variable {T : Type} [Tg T] {ρ : Env} {k : List D → Env → T} {h : Exc → Env → T}
theorem rB_zipS (a b : M D) : rB (mZipS a b ρ) k h = rB (a ρ) (fun x ρ1 => rB (b ρ1) (fun y ρ2 => oB (zipSD x y) fun z => k z ρ2) h) h := by
 unfold mZipS; rw [rB_bind]; congr; funext x ρ1; rw [rB_bind]; congr; funext y ρ2; rw [rB_ofO]
end
abbrev RBZ := @rB_zipS
end DL
end
section
namespace DL
open PySem PySem.Spec PyProof.Rows L2 PySem.Calls
section
variable {X : Cx} {c : Ct} {k n : Nat} {f : Addr} {fd : FuncData} {ps ks : List Str} {fn : Fn} {x : Str} {p pos : Pos} {e : Expr} {es : List Expr} {kws : List Keyword} {ma mk ms : M (List AV)}
end
end DL
end
section
namespace DL
open PySem PySem.Spec PyProof.Rows L2
section
variable {X : Cx} {c : Ct} {tg e elt : Expr} {pos : Pos} {pi pt pe : Bool} {mi : M (List D)} {t : D → Env → Option Env} {tst : M Bool} {me : M D} {scope : Scope} {own : List (Str × Nat)} {ifs : List Expr} {fb : List Nat}
end
section
variable {X : Cx} {c : Ct} {tg e elt : Expr} {pos : Pos} {pi pt pe : Bool} {mi : M (List D)} {t : D → Env → Option Env} {tst : M Bool} {me : M D} {scope : Scope} {own : List (Str × Nat)} {ifs : List Expr} {fb : List Nat}
end
end DL
end
section
namespace DL
open PySem PySem.Spec PyProof.Rows L2
section
variable {X : Cx}
end
section
variable {X : Cx} {c : Ct} {tg iter kx vx : Expr} {pos : Pos} {pi pt pk pv : Bool} {mi : M (List D)} {t : D → Env → Option Env} {tst : M Bool} {mk mv : M D} {scope : Scope} {own : List (Str × Nat)} {ifs : List Expr} {fb : List Nat}
end
end DL
end
section
namespace PySem.W
open PySem PySem.Calls PyProof.Rows
section
variable {prog : Program} {w : World} {A : Around} {E : Value → Shared → Prop} {s : Shared}
variable {β : Type} {vs : List Value} {bs : List β} {enc : β → PyData} {R : Value → β → Prop}
end
end PySem.W
namespace DL
open PySem PySem.Spec PyProof.Rows L2 PySem.W
end DL
end
section
namespace SH
open PySem PySem.Spec PyProof.Rows L2 DL
noncomputable abbrev e1_is_called : M D := (mOrV (mBin inD (mVar 2) (mVar 1)) (mBin inD (mVar 2) (mC (.str "0123456789"))))
noncomputable def m_is_called : M Fl := (sSeq (mIf (mOr (mNot (mB (mF1 (isiD .str) (mVar 0)))) (mOr (mNot (mB (mChain leD leD (mC (.int 1)) (mF1 lenD (mVar 0)) (mC (.int 8))))) (mB (mBin ninD (mBin ixD (mVar 0) (mC (.int 0))) (mVar 1))))) (sRet (mD (mC (.bool false)))) sNil)
 (sRet (mD (mF1 allD (mLstF (mLc [2] (mItems (mVar 0)) (tName 2) mYes e1_is_called))))))
noncomputable def f_is_called : Fn := fnOf 3 2 [] m_is_called
noncomputable def m_is_name : M Fl := (sRet (mCall SH.f_is_called (gD (mVar 0) (gD (mC (.str "abcdefghijklmnopqrstuvwxyz")) gNil))))
noncomputable def f_is_name : Fn := fnOf 1 1 [] m_is_name
noncomputable abbrev e1_is_turn : M D := (mAndV (mF1 (isiD .tup) (mVar 1)) (mBin eqD (mF1 lenD (mVar 1)) (mC (.int 2))))
noncomputable abbrev e2_is_turn : M D := (mAndV (mFrz (mCall SH.f_is_name (gD (mVar 2) gNil))) (mAndV (mFrz (mCall SH.f_is_name (gD (mVar 3) gNil))) (mBin neD (mVar 2) (mVar 3))))
noncomputable def m_is_turn : M Fl := (sSeq (mIf (mOr (mNot (mB (mF1 (isiD .tup) (mVar 0)))) (mNot (mB (mF1 allD (mLstF (mLc [1] (mItems (mVar 0)) (tName 1) mYes e1_is_turn)))))) (sRet (mD (mC (.bool false)))) sNil)
 (sSeq (mIf (mNot (mB (mF1 allD (mLstF (mLc [2, 3] (mItems (mVar 0)) (tTup 2 (tsCons (tName 2) (tsCons (tName 3) tsNil))) mYes e2_is_turn))))) (sRet (mD (mC (.bool false)))) sNil)
 (sSeq (sSet 4 (mLstF (mLc [2, 3] (mItems (mVar 0)) (tTup 2 (tsCons (tName 2) (tsCons (tName 3) tsNil))) mYes (mVar 2))))
 (sRet (mD (mAndV (mBin eqD (mVar 4) (mLstF (mSortK (mSetOf (mVar 4))))) (mBin eqD (mLstF (mFN sortO (mLstF (mLc [2, 3] (mItems (mVar 0)) (tTup 2 (tsCons (tName 2) (tsCons (tName 3) tsNil))) mYes (mVar 3))))) (mVar 4))))))))
noncomputable def f_is_turn : Fn := fnOf 5 1 [] m_is_turn
noncomputable def m__law_mixed : M Fl := (sSeq (sSet 2 (mBin modD (mBin addD (mBin addD (mBin mulD (mVar 0) (mC (.int 48271))) (mBin mulD (mVar 1) (mC (.int 69621)))) (mC (.int 11))) (mC (.int 2147483629))))
 (sSeq (sSet 2 (mBin modD (mBin mulD (mVar 2) (mVar 2)) (mC (.int 2147483587))))
 (sRet (mD (mBin divD (mBin modD (mBin mulD (mVar 2) (mVar 2)) (mC (.int 2147483549))) (mC (.int 64)))))))
noncomputable def f__law_mixed : Fn := fnOf 3 2 [] m__law_mixed
noncomputable def m__law_pile : M Fl := (sSeq (sSet 2 (mC (.int 0)))
 (sSeq (mIf (mB (mBin ltD (mVar 1) (mF1 lenD (mVar 0)))) (sSet 2 (mBin ixD (mVar 0) (mVar 1))) sNil)
 (sSeq (sSet 3 (mBin modD (mVar 2) (mBin mulD (mBin mulD (mBin powD (mC (.int 10)) (mC (.int 60))) (mBin powD (mC (.int 10)) (mC (.int 60)))) (mBin powD (mC (.int 10)) (mC (.int 60))))))
 (sRet (mLst (mCons (mBin mulD (mVar 3) (mF1 intD (mBin geD (mF1 absD (mVar 2)) (mBin powD (mC (.int 10)) (mC (.int 18)))))) (mCons (mBin modD (mVar 2) (mC (.int 2147483629))) (mCons (mBin mulD (mC (.int 131)) (mVar 1)) mNil))))))))
noncomputable def f__law_pile : Fn := fnOf 4 2 [] m__law_pile
noncomputable def m__law_take : M Fl := (sSeq (mIf (mB (mBin eqD (mBin ixD (mLook 0) (mC (.int 0))) (mC (.int 0)))) (sSeq (sPut 0 (mC (.int 2)) (mBin addD (mBin ixD (mLook 0) (mC (.int 2))) (mC (.int 1))))
 (sRet (mD (mBin modD (mFrz (mCall SH.f__law_mixed (gD (mBin ixD (mLook 0) (mC (.int 1))) (gD (mBin ixD (mLook 0) (mC (.int 2))) gNil)))) (mVar 1))))) sNil)
 (sSeq (sSet 2 (mBin modD (mBin ixD (mLook 0) (mC (.int 0))) (mVar 1)))
 (sSeq (sPut 0 (mC (.int 0)) (mBin divD (mBin ixD (mLook 0) (mC (.int 0))) (mVar 1)))
 (sRet (mD (mVar 2))))))
noncomputable def f__law_take : Fn := fnOf 3 2 [0] m__law_take
noncomputable abbrev b1__law_name : M Fl := (sSet 3 (mBin addD (mVar 3) (mBin ixD (mBin addD (mVar 2) (mC (.str "0123456789"))) (mFrz (mCall SH.f__law_take (gO 0 (gD (mC (.int 36)) gNil)))))))
noncomputable def m__law_name : M Fl := (sSeq (sSet 1 (mFrz (mCall SH.f__law_take (gO 0 (gD (mC (.int 4)) gNil)))))
 (sSeq (sSet 2 (mC (.str "abcdefghijklmnopqrstuvwxyz")))
 (sSeq (sSet 3 (mBin ixD (mVar 2) (mFrz (mCall SH.f__law_take (gO 0 (gD (mBin ixD (mLstF (mCons (mC (.int 5)) (mCons (mC (.int 26)) mNil))) (mF1 intD (mBin gtD (mVar 1) (mC (.int 1))))) gNil))))))
 (sSeq (mIf (mB (mBin eqD (mVar 1) (mC (.int 1)))) (sSet 3 (mBin addD (mVar 3) (mF1 strD (mFrz (mCall SH.f__law_take (gO 0 (gD (mC (.int 4)) gNil))))))) sNil)
 (sSeq (mIf (mB (mBin eqD (mVar 1) (mC (.int 3)))) (sFor (mRange1 (mBin addD (mC (.int 1)) (mFrz (mCall SH.f__law_take (gO 0 (gD (mC (.int 7)) gNil)))))) (tName 4) b1__law_name) sNil)
 (sRet (mD (mVar 3))))))))
noncomputable def f__law_name : Fn := fnOf 5 1 [0] m__law_name
noncomputable abbrev p1__law_names : M Bool := (mB (mBin ninD (mVar 5) (mLook 2)))
noncomputable abbrev b2__law_names : M Fl := (sSeq (sSet 4 (mFrz (mCall SH.f__law_name (gO 0 gNil))))
 (sSeq (mIf (mB (mBin inD (mVar 4) (mLook 2))) (sSet 4 (mBin ixD (mLstF (mLc [5] (mItems (mLstF (mCons (mC (.str "a")) (mCons (mC (.str "b")) (mCons (mC (.str "c")) (mCons (mC (.str "d")) (mCons (mC (.str "e")) (mCons (mC (.str "f")) (mCons (mC (.str "g")) (mCons (mC (.str "h")) mNil)))))))))) (tName 5) p1__law_names (mVar 5))) (mC (.int 0)))) sNil)
 (sDrop (mD (mLM 2 appendD (mCons (mVar 4) mNil))))))
noncomputable def m__law_names : M Fl := (sSeq (sSetO 2 (mLst mNil))
 (sSeq (sFor (mRange1 (mVar 1)) (tName 3) b2__law_names)
 (sRet (mMove 2))))
noncomputable def f__law_names : Fn := fnOf 6 2 [0] m__law_names
noncomputable abbrev w1__law_order : M Bool := (mB (mBin neD (mLook 2) (mLstF mNil)))
noncomputable abbrev b2__law_order : M Fl := (sDrop (mD (mLM 3 appendD (mCons (mLM 2 popD (mCons (mFrz (mCall SH.f__law_take (gO 0 (gD (mF1 lenD (mLook 2)) gNil)))) mNil)) mNil))))
noncomputable def m__law_order : M Fl := (sSeq (sSetO 2 (mLst (mFN listD (mVar 1))))
 (sSeq (sSetO 3 (mLst mNil))
 (sSeq (sWhile w1__law_order b2__law_order)
 (sRet (mMove 3)))))
noncomputable def f__law_order : Fn := fnOf 4 2 [0] m__law_order
noncomputable abbrev p1__law_turn : M Bool := (mB (mBin neD (mVar 7) (mVar 8)))
noncomputable abbrev e2__law_turn : M D := (mTup (mCons (mVar 7) (mCons (mVar 8) mNil)))
noncomputable def m__law_turn : M Fl := (sSeq (sSet 2 (mFrz (mCall SH.f__law_take (gO 0 (gD (mC (.int 3)) gNil)))))
 (sSeq (sSetO 3 (mLst (mFN listD (mVar 1))))
 (sSeq (mIf (mB (mBin eqD (mVar 2) (mC (.int 1)))) (sSeq (sPar 4 5 (mCons (mFrz (mCall SH.f__law_take (gO 0 (gD (mF1 lenD (mVar 1)) gNil)))) (mCons (mFrz (mCall SH.f__law_take (gO 0 (gD (mF1 lenD (mVar 1)) gNil)))) mNil)))
 (sSeq (sSet 6 (mBin ixD (mLook 3) (mVar 4)))
 (sSeq (sPut 3 (mVar 4) (mBin ixD (mLook 3) (mVar 5)))
 (sPut 3 (mVar 5) (mVar 6))))) sNil)
 (sSeq (mIf (mB (mBin eqD (mVar 2) (mC (.int 2)))) (sSetO 3 (mCall SH.f__law_order (gO 0 (gD (mVar 1) gNil)))) sNil)
 (sRet (mD (mF1 tupD (mLstF (mFN sortO (mLstF (mLc [7, 8] (mZip (mVar 1) (mFrzV 3)) (tTup 2 (tsCons (tName 7) (tsCons (tName 8) tsNil))) p1__law_turn e2__law_turn)))))))))))
noncomputable def f__law_turn : Fn := fnOf 9 2 [0] m__law_turn
end SH
end
section
namespace ST
open PySem PySem.Spec PyProof.Rows L2 DL
noncomputable def m_is_hole : M Fl := (sRet (mCall SH.f_is_called (gD (mVar 0) (gD (mC (.str "ABCDEFGHIJKLMNOPQRSTUVWXYZ")) gNil))))
noncomputable def f_is_hole : Fn := fnOf 1 1 [] m_is_hole
noncomputable abbrev e1_is_term (R : Fn) : M D := (mFrz (mCall R (gD (mVar 4) gNil)))
noncomputable def m_is_term (R : Fn) : M Fl := (sSeq (mIf (mOr (mNot (mB (mF1 (isiD .tup) (mVar 0)))) (mOr (mB (mBin ninD (mF1 lenD (mVar 0)) (mTup (mCons (mC (.int 2)) (mCons (mC (.int 3)) mNil))))) (mNot (mB (mF1 (isiD .str) (mBin ixD (mVar 0) (mC (.int 0)))))))) (sRet (mD (mC (.bool false)))) sNil)
 (sSeq (mIf (mB (mBin eqD (mF1 lenD (mVar 0)) (mC (.int 2)))) (sRet (mD (mAndV (mBin eqD (mBin ixD (mVar 0) (mC (.int 0))) (mC (.str "name"))) (mFrz (mCall SH.f_is_name (gD (mBin ixD (mVar 0) (mC (.int 1))) gNil)))))) sNil)
 (sSeq (sTgt (tTup 3 (tsCons (tName 1) (tsCons (tName 2) (tsCons (tName 3) tsNil)))) (mVar 0))
 (sSeq (mIf (mB (mBin eqD (mVar 1) (mC (.str "hole")))) (sRet (mD (mAndV (mFrz (mCall SH.f_is_turn (gD (mVar 2) gNil))) (mFrz (mCall ST.f_is_hole (gD (mVar 3) gNil)))))) sNil)
 (sSeq (mIf (mB (mBin eqD (mVar 1) (mC (.str "shut")))) (sRet (mD (mAndV (mFrz (mCall SH.f_is_name (gD (mVar 2) gNil))) (mFrz (mCall R (gD (mVar 3) gNil)))))) sNil)
 (sRet (mD (mAndV (mBin eqD (mVar 1) (mC (.str "sign"))) (mAndV (mFrz (mCall SH.f_is_name (gD (mVar 2) gNil))) (mAndV (mF1 (isiD .tup) (mVar 3)) (mF1 allD (mLstF (mLc [4] (mItems (mVar 3)) (tName 4) mYes (e1_is_term R))))))))))))))
noncomputable def f_is_term : Nat → Fn
 | 0 => fun _ => .bad
 | n + 1 => fnOf 5 1 [] (m_is_term (f_is_term n))
noncomputable abbrev b1_sure_terms : M Fl := (mIf (mNot (mB (mFrz (mCall (ST.f_is_term 40) (gD (mVar 1) gNil))))) (sRaise "NoTerm") sNil)
noncomputable def m_sure_terms : M Fl := (sFor (mItems (mVar 0)) (tName 1) b1_sure_terms)
noncomputable def f_sure_terms : Fn := fnOf 2 1 [] m_sure_terms
noncomputable def m_inner : M Fl := (sSeq (mIf (mB (mBin eqD (mBin ixD (mVar 0) (mC (.int 0))) (mC (.str "shut")))) (sRet (mD (mTup (mCons (mBin ixD (mVar 0) (mC (.int 2))) mNil)))) sNil)
 (sSeq (mIf (mB (mBin eqD (mBin ixD (mVar 0) (mC (.int 0))) (mC (.str "sign")))) (sRet (mD (mBin ixD (mVar 0) (mC (.int 2))))) sNil)
 (sRet (mD (mTup mNil)))))
noncomputable def f_inner : Fn := fnOf 1 1 [] m_inner
noncomputable abbrev b1_every_part (R : Fn) : M Fl := (sDrop (mD (mExtend 1 (mFrz (mCall R (gD (mVar 2) gNil))))))
noncomputable def m_every_part (R : Fn) : M Fl := (sSeq (sSetO 1 (mLst (mCons (mVar 0) mNil)))
 (sSeq (sFor (mItems (mFrz (mCall ST.f_inner (gD (mVar 0) gNil)))) (tName 2) (b1_every_part R))
 (sRet (mMove 1))))
noncomputable def f_every_part : Nat → Fn
 | 0 => fun _ => .bad
 | n + 1 => fnOf 3 1 [] (m_every_part (f_every_part n))
noncomputable def m_own_names : M Fl := (sSeq (mIf (mB (mBin inD (mBin ixD (mVar 0) (mC (.int 0))) (mTup (mCons (mC (.str "name")) (mCons (mC (.str "shut")) mNil))))) (sRet (mLst (mCons (mBin ixD (mVar 0) (mC (.int 1))) mNil))) sNil)
 (sSeq (mIf (mB (mBin eqD (mBin ixD (mVar 0) (mC (.int 0))) (mC (.str "hole")))) (sRet (mLst (mLc [1, 2] (mItems (mBin ixD (mVar 0) (mC (.int 1)))) (tTup 2 (tsCons (tName 1) (tsCons (tName 2) tsNil))) mYes (mVar 1)))) sNil)
 (sRet (mLst mNil))))
noncomputable def f_own_names : Fn := fnOf 3 1 [] m_own_names
noncomputable abbrev i1_all_names : M (List D) := (mItems (mFrz (mCall (ST.f_every_part 40) (gD (mVar 1) gNil))))
noncomputable abbrev i2_all_names : M (List D) := (mItems (mFrz (mCall ST.f_own_names (gD (mVar 2) gNil))))
noncomputable def m_all_names : M Fl := (sRet (mLst (mSortK (mSetC (mLcN ⟨[1, 2, 3], (tName 1), mYes⟩ (mItems (mVar 0)) (cIn ⟨[2, 3], (tName 2), mYes⟩ i1_all_names (cIn ⟨[3], (tName 3), mYes⟩ i2_all_names (cEnd (mTxt (mVar 3))))))))))
noncomputable def f_all_names : Fn := fnOf 4 1 [] m_all_names
noncomputable abbrev p2_all_holes : M Bool := (mB (mBin eqD (mBin ixD (mVar 2) (mC (.int 0))) (mC (.str "hole"))))
noncomputable abbrev i1_all_holes : M (List D) := (mItems (mFrz (mCall (ST.f_every_part 40) (gD (mVar 1) gNil))))
noncomputable abbrev e3_all_holes : M D := (mBin ixD (mVar 2) (mC (.int 2)))
noncomputable def m_all_holes : M Fl := (sRet (mLst (mSortK (mSetC (mLcN ⟨[1, 2], (tName 1), mYes⟩ (mItems (mVar 0)) (cIn ⟨[2], (tName 2), p2_all_holes⟩ i1_all_holes (cEnd (mTxt e3_all_holes))))))))
noncomputable def f_all_holes : Fn := fnOf 3 1 [] m_all_holes
noncomputable def m_parts_of : M Fl := (sSeq (sDrop (mCall ST.f_sure_terms (gD (mLstF (mCons (mVar 0) mNil)) gNil)))
 (sRet (mD (mF1 lenD (mFrz (mCall (ST.f_every_part 40) (gD (mVar 0) gNil)))))))
noncomputable def f_parts_of : Fn := fnOf 1 1 [] m_parts_of
noncomputable abbrev e1_level_count (R : Fn) : M D := (mFrz (mCall R (gD (mVar 1) gNil)))
noncomputable def m_level_count (R : Fn) : M Fl := (sRet (mD (mBin addD (mC (.int 1)) (mBin mxDef (mLstF (mLc [1] (mItems (mFrz (mCall ST.f_inner (gD (mVar 0) gNil)))) (tName 1) mYes (e1_level_count R))) (mC (.int 0))))))
noncomputable def f_level_count : Nat → Fn
 | 0 => fun _ => .bad
 | n + 1 => fnOf 2 1 [] (m_level_count (f_level_count n))
noncomputable def m_levels_of : M Fl := (sSeq (sDrop (mCall ST.f_sure_terms (gD (mLstF (mCons (mVar 0) mNil)) gNil)))
 (sRet (mCall (ST.f_level_count 40) (gD (mVar 0) gNil))))
noncomputable def f_levels_of : Fn := fnOf 1 1 [] m_levels_of
noncomputable def m_names_in : M Fl := (sSeq (sDrop (mCall ST.f_sure_terms (gD (mLstF (mCons (mVar 0) mNil)) gNil)))
 (sRet (mCall ST.f_all_names (gD (mLstF (mCons (mVar 0) mNil)) gNil))))
noncomputable def f_names_in : Fn := fnOf 1 1 [] m_names_in
noncomputable def m_holes_in : M Fl := (sSeq (sDrop (mCall ST.f_sure_terms (gD (mLstF (mCons (mVar 0) mNil)) gNil)))
 (sRet (mCall ST.f_all_holes (gD (mLstF (mCons (mVar 0) mNil)) gNil))))
noncomputable def f_holes_in : Fn := fnOf 1 1 [] m_holes_in
noncomputable abbrev b1__law_holes : M Fl := (sSet 5 (mBin addD (mVar 5) (mBin ixD (mBin addD (mVar 2) (mC (.str "0123456789"))) (mFrz (mCall SH.f__law_take (gO 0 (gD (mC (.int 36)) gNil)))))))
noncomputable abbrev p2__law_holes : M Bool := (mB (mBin ninD (mVar 7) (mLook 3)))
noncomputable abbrev b3__law_holes : M Fl := (sSeq (sSet 5 (mBin ixD (mVar 2) (mFrz (mCall SH.f__law_take (gO 0 (gD (mC (.int 26)) gNil))))))
 (sSeq (mIf (mB (mBin eqD (mFrz (mCall SH.f__law_take (gO 0 (gD (mC (.int 3)) gNil)))) (mC (.int 2)))) (sFor (mRange1 (mFrz (mCall SH.f__law_take (gO 0 (gD (mC (.int 8)) gNil))))) (tName 6) b1__law_holes) sNil)
 (sSeq (mIf (mB (mBin inD (mVar 5) (mLook 3))) (sSet 5 (mBin ixD (mLstF (mLc [7] (mItems (mLstF (mCons (mC (.str "X")) (mCons (mC (.str "Y")) (mCons (mC (.str "Z")) (mCons (mC (.str "X1")) (mCons (mC (.str "Y1")) (mCons (mC (.str "Z1")) mNil)))))))) (tName 7) p2__law_holes (mVar 7))) (mC (.int 0)))) sNil)
 (sDrop (mD (mLM 3 appendD (mCons (mVar 5) mNil)))))))
noncomputable def m__law_holes : M Fl := (sSeq (sSet 2 (mC (.str "ABCDEFGHIJKLMNOPQRSTUVWXYZ")))
 (sSeq (sSetO 3 (mLst mNil))
 (sSeq (sFor (mRange1 (mVar 1)) (tName 4) b3__law_holes)
 (sRet (mMove 3)))))
noncomputable def f__law_holes : Fn := fnOf 8 2 [0] m__law_holes
noncomputable def m__law_sign : M Fl := (sRet (mD (mBin ixD (mLstF (mCons (mC (.str "f")) (mCons (mC (.str "g")) (mCons (mC (.str "h")) (mCons (mBin ixD (mVar 1) (mC (.int 0))) mNil))))) (mFrz (mCall SH.f__law_take (gO 0 (gD (mC (.int 4)) gNil)))))))
noncomputable def f__law_sign : Fn := fnOf 2 2 [0] m__law_sign
end ST
end
section
namespace SH
open PySem PySem.Spec PyProof.Rows L2 DL
theorem mixed (c k : Int) (hc : 0 ≤ c) (hc2 : c < 2 ^ 32) (hk : 0 ≤ k) (hk2 : k < 2 ^ 60) : ∃ r : Int, 0 ≤ r ∧ f__law_mixed [.d (.int c), .d (.int k)] = .ok (.d (.int r)) [some (.d (.int c)), some (.d (.int k))] := by
 have a1 := Int.emod_nonneg (c * 48271 + k * 69621 + 11) (b := 2147483629) (by decide)
 have a2 := Int.emod_lt_of_pos (c * 48271 + k * 69621 + 11) (b := 2147483629) (by decide)
 generalize hn : (c * 48271 + k * 69621 + 11) % 2147483629 = n at a1 a2
 have b1 := Int.emod_nonneg (n * n) (b := 2147483587) (by decide)
 have b2 := Int.emod_lt_of_pos (n * n) (b := 2147483587) (by decide)
 generalize hm : n * n % 2147483587 = m at b1 b2
 have d1 := Int.emod_nonneg (m * m) (b := 2147483549) (by decide)
 refine ⟨m * m % 2147483549 / 64, by omega, ?_⟩
 have e1 : mulD (.int c) (.int 48271) = some (.int (c * 48271)) := mul_p (by omega) (by omega)
 have e2 : mulD (.int k) (.int 69621) = some (.int (k * 69621)) := mul_p (by omega) (by omega)
 have e3 : mulD (.int n) (.int n) = some (.int (n * n)) := mul_p (by omega) (by omega)
 have e4 : mulD (.int m) (.int m) = some (.int (m * m)) := mul_p (by omega) (by omega)
 simp [f__law_mixed, m__law_mixed, fnOf, e1, e2, mod_i, hn, e3, hm, e4, div_p, outsOf]
theorem ix3 {a b c : D} : ixD (.list [a, b, c]) (.int 0) = some a ∧ ixD (.list [a, b, c]) (.int 1) = some b ∧ ixD (.list [a, b, c]) (.int 2) = some c := ⟨rfl, rfl, rfl⟩
structure Pile (B : Nat) (p : List D) : Prop where
 ex : ∃ d m j : Int, p = [.int d, .int m, .int j] ∧ 0 ≤ d ∧ 0 ≤ m ∧ m < 2 ^ 32 ∧ 0 ≤ j ∧ j ≤ B
theorem Pile.up {B C : Nat} {p : List D} (h : Pile B p) (hl : B ≤ C) : Pile C p := by
 obtain ⟨d, m, j, e, h1, h2, h3, h4, h5⟩ := h.ex
 exact ⟨d, m, j, e, h1, h2, h3, h4, by omega⟩
theorem take_ok {B : Nat} (hB : B < 2 ^ 50) {p : List D} (h : Pile B p) (n : Int) (hn : 0 < n) (hn2 : n < 2 ^ 60) : ∃ (r : Int) (p' : List D), 0 ≤ r ∧ r < n ∧ Pile (B + 1) p' ∧ f__law_take [.lst p, .d (.int n)] = .ok (.d (.int r)) [some (.lst p'), some (.d (.int n))] := by
 obtain ⟨d, m, j, rfl, h1, h2, h3, h4, h5⟩ := h.ex
 by_cases hd : d = 0
 ·subst hd
  obtain ⟨r, hr, e⟩ := mixed m (j + 1) h2 h3 (by omega) (by omega)
  refine ⟨r % n, _, Int.emod_nonneg _ (by omega), Int.emod_lt_of_pos _ hn, ⟨0, m, j + 1, rfl, by omega, h2, h3, by omega, by omega⟩, ?_⟩
  simp [f__law_take, m__law_take, fnOf, ix3.1, ix3.2.1, ix3.2.2, eq_i, e, mod_i, hn, outsOf, ixN]
 ·refine ⟨d % n, _, Int.emod_nonneg _ (by omega), Int.emod_lt_of_pos _ hn, ⟨d / n, m, j, rfl, Int.ediv_nonneg h1 (by omega), h2, h3, h4, by omega⟩, ?_⟩
  have e : divD (.int d) (.int n) = some (.int (d / n)) := div_p hn (by omega)
  simp [f__law_take, m__law_take, fnOf, ix3.1, ix3.2.1, ix3.2.2, eq_i, hd, e, mod_i, hn, outsOf, ixN]
end SH
end
section
namespace SH
open PySem PySem.Spec PyProof.Rows L2 DL
theorem pile_ok (ns : List Int) (k : Nat) (hk : k < 1000) : ∃ p, Pile (131 * k) p ∧ f__law_pile [.d (scrD ns), .d (.int k)] = .ok (.lst p) [some (.d (scrD ns)), some (.d (.int k))] := by
 have p1 : powD (.int 10) (.int 60) = some (.int (10 ^ 60)) := by rfl
 have p2 : powD (.int 10) (.int 18) = some (.int (10 ^ 18)) := by rfl
 have q1 : mulD (.int (10 ^ 60)) (.int (10 ^ 60)) = some (.int (10 ^ 60 * 10 ^ 60)) := mul_b (by decide) (by decide)
 have q2 : mulD (.int (10 ^ 60 * 10 ^ 60)) (.int (10 ^ 60)) = some (.int (10 ^ 60 * 10 ^ 60 * 10 ^ 60)) := mul_b (by decide) (by decide)
 have q3 : mulD (.int 131) (.int (k : Int)) = some (.int (131 * (k : Int))) := mul_p (by omega) (by omega)
 have main : ∀ c : Int, ∃ dg : Int, 0 ≤ dg ∧ (mulD (.int (c % (10 ^ 60 * 10 ^ 60 * 10 ^ 60))) (.int (if decide (10 ^ 18 ≤ (if c < 0 then -c else c)) = true then 1 else 0))) = some (.int dg) := fun c => by
  have a1 := Int.emod_nonneg c (b := 10 ^ 60 * 10 ^ 60 * 10 ^ 60) (by decide)
  have a2 := Int.emod_lt_of_pos c (b := 10 ^ 60 * 10 ^ 60 * 10 ^ 60) (by decide)
  have a3 : ((10 : Int) ^ 60 * 10 ^ 60 * 10 ^ 60) < 2 ^ 900 := by decide
  have a4 : ((2 : Int) ^ 900) = ((2 ^ 900 : Nat) : Int) := by norm_cast
  generalize c % (10 ^ 60 * 10 ^ 60 * 10 ^ 60) = x at a1 a2
  have a5 : x.natAbs < 2 ^ 900 := by omega
  by_cases hc : 10 ^ 18 ≤ (if c < 0 then -c else c)
  ·rw [decide_eq_true hc, if_pos rfl]
   exact ⟨x * 1, by omega, mul_b (j := 1) a5 (by decide)⟩
  ·rw [decide_eq_false hc, if_neg Bool.false_ne_true]
   exact ⟨x * 0, by omega, mul_b (j := 0) a5 (by decide)⟩
 have mm : ∀ c : Int, 0 ≤ c % 2147483629 ∧ c % 2147483629 < 2 ^ 32 := fun c => by
  have a1 := Int.emod_nonneg c (b := 2147483629) (by decide)
  have a2 := Int.emod_lt_of_pos c (b := 2147483629) (by decide)
  omega
 have len : lenD (scrD ns) = some (.int ns.length) := by simp [lenD, scrD, cells]
 by_cases hl : (k : Int) < ns.length
 ·obtain ⟨c, hc⟩ : ∃ c : Int, ixD (scrD ns) (.int k) = some (.int c) := by
   obtain ⟨x, h1, h2⟩ := atI_nat (xs := ns.map PyData.int) (i := (k : Int)) (by omega) (by rw [List.length_map]; exact hl)
   rw [List.getElem?_map] at h2
   obtain ⟨y, _, rfl⟩ := Option.map_eq_some_iff.mp h2
   exact ⟨y, by simp [ixD, scrD, cells, h1]⟩
  obtain ⟨dg, h0, h1⟩ := main c
  refine ⟨[.int dg, .int (c % 2147483629), .int (131 * k)], ⟨dg, _, _, rfl, h0, (mm c).1, (mm c).2, by omega, by omega⟩, ?_⟩
  simp only [f__law_pile, m__law_pile, fnOf]
  simp [len, ltD, hl, hc, p1, p2, mul_b, q3, mod_i, absD, geD, DL.intD, outsOf] at h1 ⊢
  simp [q3, mod_i, h1, outsOf]
 ·obtain ⟨dg, h0, h1⟩ := main 0
  refine ⟨[.int dg, .int 0, .int (131 * k)], ⟨dg, _, _, rfl, h0, by omega, by omega, by omega, by omega⟩, ?_⟩
  simp only [f__law_pile, m__law_pile, fnOf]
  simp [len, ltD, hl, p1, p2, mul_b, q3, mod_i, absD, geD, DL.intD, outsOf] at h1 ⊢
  try simp [q3, mod_i, h1, outsOf]
end SH
end
section
namespace SH
open PySem PySem.Spec PyProof.Rows L2 DL
def isSm (c : Nat) : Prop := 97 ≤ c ∧ c ≤ 122
def isFg (c : Nat) : Prop := 48 ≤ c ∧ c ≤ 57
instance (c : Nat) : Decidable (isSm c) := inferInstanceAs (Decidable (_ ∧ _))
instance (c : Nat) : Decidable (isFg c) := inferInstanceAs (Decidable (_ ∧ _))
abbrev abc : Str := "abcdefghijklmnopqrstuvwxyz"
abbrev fig : Str := "0123456789"
theorem abc_cps : abc.cps.toList = (List.range 26).map (97 + ·) := by decide +kernel
theorem fig_cps : fig.cps.toList = (List.range 10).map (48 + ·) := by decide +kernel
theorem mem_abc (c : Nat) : c ∈ abc.cps.toList ↔ isSm c := by
 rw [abc_cps, List.mem_map]
 constructor
 ·rintro ⟨k, hk, rfl⟩
  have := List.mem_range.mp hk
  exact ⟨by omega, by omega⟩
 ·rintro ⟨h1, h2⟩
  exact ⟨c - 97, List.mem_range.mpr (by omega), by omega⟩
theorem mem_fig (c : Nat) : c ∈ fig.cps.toList ↔ isFg c := by
 rw [fig_cps, List.mem_map]
 constructor
 ·rintro ⟨k, hk, rfl⟩
  have := List.mem_range.mp hk
  exact ⟨by omega, by omega⟩
 ·rintro ⟨h1, h2⟩
  exact ⟨c - 48, List.mem_range.mpr (by omega), by omega⟩
theorem abc_len : abc.length = 26 := by decide +kernel
theorem fig_len : fig.length = 10 := by decide +kernel
theorem str_len (s : Str) : s.cps.toList.length = s.length := by simp [Str.length]
theorem app_cps (a b : Str) : (a ++ b).cps.toList = a.cps.toList ++ b.cps.toList := by
 show (a.cps ++ b.cps).toList = _
 simp
theorem app_len (a b : Str) : (a ++ b).length = a.length + b.length := by
 rw [← str_len, app_cps, List.length_append, str_len, str_len]
theorem ix_str {z : Str} {r : Int} (hz : z.length ≤ sizeLine) (h0 : 0 ≤ r) (h1 : r < z.length) : ∃ c, c ∈ z.cps.toList ∧ ixD (.str z) (.int r) = some (.str ⟨#[c]⟩) := by
 obtain ⟨c, e1, e2⟩ := atI_nat (xs := z.cps.toList) h0 (by rw [str_len]; exact h1)
 refine ⟨c, List.mem_of_getElem? e2, ?_⟩
 simp [ixD, hz, e1]
theorem size_big : 1000 ≤ sizeLine := by decide +kernel
structure NmS (s : Str) : Prop where
 len : s.length ≤ 8
 hd : ∃ c r, s.cps.toList = c :: r ∧ isSm c
 all : ∀ c ∈ s.cps.toList, isSm c ∨ isFg c
theorem nm_one {c : Nat} (h : isSm c) : NmS ⟨#[c]⟩ := ⟨by simp [Str.length], ⟨c, [], rfl, h⟩, fun d hd => by simp at hd; subst hd; exact .inl h⟩
theorem nm_app {s : Str} {c : Nat} (h : NmS s) (hl : s.length < 8) (hc : isSm c ∨ isFg c) : NmS (s ++ ⟨#[c]⟩) := by
 refine ⟨by rw [app_len]; simp [Str.length] at hl ⊢; omega, ?_, fun d hd => ?_⟩
 ·obtain ⟨a, r, e, h1⟩ := h.hd
  exact ⟨a, r ++ [c], by rw [app_cps, e]; rfl, h1⟩
 ·rw [app_cps] at hd
  rcases List.mem_append.mp hd with hd | hd
  ·exact h.all d hd
  ·simp at hd
   subst hd
   exact hc
theorem add_str {a b : Str} (h : a.length + b.length ≤ 1000) : addD (.str a) (.str b) = some (.str (a ++ b)) := by
 have := size_big
 exact if_pos (by omega)
theorem one_len (c : Nat) : (⟨#[c]⟩ : Str).length = 1 := rfl
theorem dig_of {r : Int} {c : Nat} (h : r.natAbs.log2 < 1920) (e : Str.ofString (toString r) = ⟨#[c]⟩) : strD (.int r) = some (.str ⟨#[c]⟩) := by
 have z : strD (.int r) = if r.natAbs.log2 < 1920 then some (.str (Str.ofString (toString r))) else none := rfl
 rw [z, if_pos h, e]
theorem dig (r : Int) (h0 : 0 ≤ r) (h1 : r < 4) : ∃ c, isFg c ∧ strD (.int r) = some (.str ⟨#[c]⟩) := by
 have : r = 0 ∨ r = 1 ∨ r = 2 ∨ r = 3 := by omega
 rcases this with rfl | rfl | rfl | rfl
 ·exact ⟨48, by decide, dig_of (by decide) (by decide +kernel)⟩
 ·exact ⟨49, by decide, dig_of (by decide) (by decide +kernel)⟩
 ·exact ⟨50, by decide, dig_of (by decide) (by decide +kernel)⟩
 ·exact ⟨51, by decide, dig_of (by decide) (by decide +kernel)⟩
theorem name_ok {B : Nat} (hB : B < 2 ^ 49) {p : List D} (h : Pile B p) : ∃ (s : Str) (p' : List D), NmS s ∧ Pile (B + 20) p' ∧ f__law_name [.lst p] = .ok (.d (.str s)) [some (.lst p')] := by
 have big := size_big
 obtain ⟨kd, p1, h0, h1, hp1, e1⟩ := take_ok (by omega) h 4 (by omega) (by omega)
 have la : abc.length ≤ sizeLine := by rw [abc_len]; omega
 have first : ∀ n : Int, 0 < n → n ≤ 26 → ∃ (c : Nat) (r : Int) (p2 : List D), isSm c ∧ Pile (B + 2) p2 ∧ f__law_take [.lst p1, .d (.int n)] = .ok (.d (.int r)) [some (.lst p2), some (.d (.int n))] ∧ ixD (.str abc) (.int r) = some (.str ⟨#[c]⟩) := fun n a b => by
  obtain ⟨r, p2, q0, q1, hp2, e2⟩ := take_ok (by omega) hp1 n a (by omega)
  obtain ⟨c, hc, e3⟩ := ix_str la q0 (by rw [abc_len]; omega)
  exact ⟨c, r, p2, (mem_abc c).mp hc, hp2, e2, e3⟩
 have i0 : ixD (.list [.int 5, .int 26]) (.int 0) = some (.int 5) := rfl
 have i1 : ixD (.list [.int 5, .int 26]) (.int 1) = some (.int 26) := rfl
 have : kd = 0 ∨ kd = 1 ∨ kd = 2 ∨ kd = 3 := by omega
 rcases this with rfl | rfl | rfl | rfl
 ·obtain ⟨c, r, p2, hc, hp2, e2, e3⟩ := first 5 (by omega) (by omega)
  refine ⟨_, p2, nm_one hc, hp2.up (by omega), ?_⟩
  simp [f__law_name, m__law_name, fnOf, e1, gtD, DL.intD, i0, e2, e3, eq_i, outsOf]
 ·obtain ⟨c, r, p2, hc, hp2, e2, e3⟩ := first 5 (by omega) (by omega)
  obtain ⟨k, p3, q0, q1, hp3, e4⟩ := take_ok (by omega) hp2 4 (by omega) (by omega)
  obtain ⟨d, hd, e5⟩ := dig k q0 q1
  refine ⟨_, p3, nm_app (nm_one hc) (by simp [Str.length]) (.inr hd), hp3.up (by omega), ?_⟩
  have e6 : addD (.str ⟨#[c]⟩) (.str ⟨#[d]⟩) = some (.str (⟨#[c]⟩ ++ ⟨#[d]⟩)) := add_str (by rw [one_len, one_len]; omega)
  simp [f__law_name, m__law_name, fnOf, e1, gtD, DL.intD, i0, e2, e3, eq_i, e4, e5, e6, outsOf]
 ·obtain ⟨c, r, p2, hc, hp2, e2, e3⟩ := first 26 (by omega) (by omega)
  refine ⟨_, p2, nm_one hc, hp2.up (by omega), ?_⟩
  simp [f__law_name, m__law_name, fnOf, e1, gtD, DL.intD, i1, e2, e3, eq_i, outsOf]
 ·obtain ⟨c, r, p2, hc, hp2, e2, e3⟩ := first 26 (by omega) (by omega)
  obtain ⟨k, p3, q0, q1, hp3, e4⟩ := take_ok (by omega) hp2 7 (by omega) (by omega)
  have hr : range1 (.int (1 + k)) = some (rangeL 0 (1 + k).toNat) := by
   show (if _ then _ else _) = _
   rw [if_pos]
   exact ⟨by omega, by omega⟩
  have hlen : (rangeL 0 (1 + k).toNat).length = (1 + k).toNat := by unfold rangeL; simp
  have af : addD (.str abc) (.str fig) = some (.str (abc ++ fig)) := add_str (by rw [abc_len, fig_len]; omega)
  have lf : (abc ++ fig).length = 36 := by rw [app_len, abc_len, fig_len]
  obtain ⟨ρ', f1, s, q, w, rfl, f2, f3, f4⟩ := forGo_inv (t := tName 4) (b := sSet 3 (mBin addD (mVar 3) (mBin ixD (mBin addD (mVar 2) (mC (.str fig))) (mFrz (mCall f__law_take (gO 0 (gD (mC (.int 36)) gNil)))))))
   (xs := rangeL 0 (1 + k).toNat) (ρ := [some (.lst p3), some (.d (.int 3)), some (.d (.str abc)), some (.d (.str ⟨#[c]⟩)), none])
   (fun i ρ => ∃ s q w, ρ = [some (.lst q), some (.d (.int 3)), some (.d (.str abc)), some (.d (.str s)), w] ∧ NmS s ∧ s.length = 1 + i ∧ Pile (B + 3 + i) q)
   ⟨_, p3, none, rfl, nm_one hc, rfl, hp3.up (by omega)⟩ (fun i x ρ hx ⟨s, q, w, e, n1, n2, n3⟩ => by
    subst e
    have hi : i < 7 := by
     have := (List.getElem?_eq_some_iff.mp hx).1
     omega
    obtain ⟨t, q', t0, t1, hq', e5⟩ := take_ok (by omega) n3 36 (by omega) (by omega)
    obtain ⟨d, hd, e6⟩ := ix_str (z := abc ++ fig) (r := t) (by omega) t0 (by omega)
    have hd' : isSm d ∨ isFg d := by
     rw [app_cps] at hd
     rcases List.mem_append.mp hd with hd | hd
     ·exact .inl ((mem_abc d).mp hd)
     ·exact .inr ((mem_fig d).mp hd)
    refine ⟨_, _, rfl, ?_, s ++ ⟨#[d]⟩, q', some (.d x), rfl, nm_app n1 (by omega) hd', by rw [app_len, n2, one_len]; omega, hq'.up (by omega)⟩
    have ad : addD (.str s) (.str ⟨#[d]⟩) = some (.str (s ++ ⟨#[d]⟩)) := add_str (by rw [one_len]; omega)
    simp [e5, af, e6, ad] <;> simp [e5, af, e6, ad])
  refine ⟨s, q, f2, f4.up (by omega), ?_⟩
  simp [f__law_name, m__law_name, fnOf, e1, gtD, DL.intD, i1, e2, e3, eq_i, e4, hr]
  try simp at f1
  simp [f1, outsOf]
end SH
end
section
namespace SH
open PySem PySem.Spec PyProof.Rows L2 DL
def okC (c : Nat) : Bool := decide (isSm c) || decide (isFg c)
def nmS (s : Str) : Bool := decide (s.length ≤ 8) && (match s.cps.toList with
 | [] => false
 | c :: _ => decide (isSm c)) && s.cps.toList.all okC
def nmB : D → Bool
 | .str s => nmS s
 | _ => false
structure FitS (s : Str) : Prop where
 len : s.length ≤ 20
 ok : PyData.strOk s = true
def isStrB : D → Bool
 | .str _ => true
 | _ => false
def gCh : D → D
 | .str s => .bool (okC (s.cps.toList.headD 0))
 | _ => .none
def FitM : D → Prop
 | .str s => FitS s
 | .dict kvs => cells kvs = none
 | _ => True
theorem strIn_one (c : Nat) (z : Str) : strIn ⟨#[c]⟩ z = decide (c ∈ z.cps.toList) := rfl
theorem in_abc (c : Nat) : inD (.str ⟨#[c]⟩) (.str abc) = some (.bool (decide (isSm c))) := by
 have : strIn ⟨#[c]⟩ abc = decide (isSm c) := by rw [strIn_one]; exact decide_eq_decide.mpr (mem_abc c)
 show some (PyData.bool (strIn ⟨#[c]⟩ abc)) = _
 rw [this]
theorem in_fig (c : Nat) : inD (.str ⟨#[c]⟩) (.str fig) = some (.bool (decide (isFg c))) := by
 have : strIn ⟨#[c]⟩ fig = decide (isFg c) := by rw [strIn_one]; exact decide_eq_decide.mpr (mem_fig c)
 show some (PyData.bool (strIn ⟨#[c]⟩ fig)) = _
 rw [this]
theorem nin_abc (c : Nat) : ninD (.str ⟨#[c]⟩) (.str abc) = some (.bool (!decide (isSm c))) := by
 have : strIn ⟨#[c]⟩ abc = decide (isSm c) := by rw [strIn_one]; exact decide_eq_decide.mpr (mem_abc c)
 show some (PyData.bool (!strIn ⟨#[c]⟩ abc)) = _
 rw [this]
theorem ix_0 {s : Str} {c : Nat} {r : List Nat} (h : s.length ≤ sizeLine) (e : s.cps.toList = c :: r) : ixD (.str s) (.int 0) = some (.str ⟨#[c]⟩) := by
 have : atI s.cps.toList 0 = some c := by rw [e]; simp [atI, ixN]
 simp [ixD, h, this]
theorem isi_str (x : D) (h : FitM x) : isiD .str x = some (.bool (isStrB x)) := by
 cases x with
 | dict kvs =>
  have h : cells kvs = none := h
  simp [isiD, isT, h, isStrB]
 | _ => rfl
theorem bools_map (l : List Nat) : boolsD ((l.map fun c => PyData.str ⟨#[c]⟩).map gCh) = some (l.map okC) := by
 induction l with
 | nil => rfl
 | cons c l ih =>
  simp only [List.map_cons]
  show (boolsD ((l.map fun c => PyData.str ⟨#[c]⟩).map gCh)).map (okC c :: ·) = _
  rw [ih]
  rfl
theorem is_called_ok (x : D) (h : FitM x) : f_is_called [.d x, .d (.str abc)] = .ok (.d (.bool (nmB x))) [some (.d x), some (.d (.str abc))] := by
 have isi := isi_str x h
 cases x with
 | str s =>
  have h : FitS s := h
  have big := size_big
  have hl : s.length ≤ sizeLine := by have := h.len; omega
  have len : lenD (.str s) = some (.int s.length) := if_pos hl
  by_cases e0 : s.cps.toList = []
  ·have l0 : s.length = 0 := by rw [← str_len, e0]; rfl
   have : nmB (.str s) = false := by simp [nmB, nmS, e0]
   rw [this]
   simp [f_is_called, m_is_called, fnOf, isi, isStrB, len, l0, leD, outsOf]
  ·obtain ⟨c, r, e⟩ := List.exists_cons_of_ne_nil e0
   have l1 : 1 ≤ s.length := by rw [← str_len, e]; simp
   have x0 := ix_0 hl e
   have l1i : (1 : Int) ≤ (s.length : Int) := by omega
   by_cases l8 : s.length ≤ 8
   ·have l8i : (s.length : Int) ≤ 8 := by omega
    by_cases hc : isSm c
    ·have it : itemsD (.str s) = some (charsD s) := if_pos hl
     have nm : nmB (.str s) = s.cps.toList.all okC := by simp [nmB, nmS, l8, e, hc]
     have lc := lcGo_pure (vs := [2]) (t := tName 2) (tst := mYes) (e := mOrV (mBin inD (mVar 2) (mVar 1)) (mBin inD (mVar 2) (mC (.str fig)))) (p := fun _ => true) (g := gCh) (ρ := [some (.d (.str s)), some (.d (.str abc)), none]) (xs := charsD s) fun x hx => by
       unfold charsD at hx
       obtain ⟨d, hd, rfl⟩ := List.mem_map.mp hx
       refine ⟨_, _, rfl, ⟨rfl, fun z => absurd z (by simp), fun _ => ⟨[some (.d (.str s)), some (.d (.str abc)), some (.d (.str ⟨#[d]⟩))], ?_, rfl⟩⟩⟩
       by_cases q1 : isSm d <;> simp [in_abc, in_fig, q1, okC, gCh]
     have fi : (charsD s).filter (fun _ => true) = charsD s := List.filter_eq_self.mpr fun _ _ => rfl
     rw [fi] at lc
     have bl := bools_map s.cps.toList
     have al : allD (.list ((charsD s).map gCh)) = some (.bool (s.cps.toList.all okC)) := by
      simp only [allD, charsD, bl]
      simp
     rw [nm]
     simp [f_is_called, m_is_called, fnOf, isi, isStrB, len, l1i, l8i, leD, x0, nin_abc, hc, it, dataAt, lc, al, backE, outsOf]
    ·have nm : nmB (.str s) = false := by simp [nmB, nmS, e, hc]
     rw [nm]
     simp [f_is_called, m_is_called, fnOf, isi, isStrB, len, l1i, l8i, leD, x0, nin_abc, hc, outsOf]
   ·have nm : nmB (.str s) = false := by simp [nmB, nmS, l8]
    have l8i : ¬ (s.length : Int) ≤ 8 := by omega
    rw [nm]
    simp [f_is_called, m_is_called, fnOf, isi, isStrB, len, l1i, l8i, leD, outsOf]
 | _ => simp [f_is_called, m_is_called, fnOf, isi, isStrB, isStrB, nmB, outsOf]
theorem is_name_ok (x : D) (h : FitM x) : f_is_name [.d x] = .ok (.d (.bool (nmB x))) [some (.d x)] := by
 simp [f_is_name, m_is_name, fnOf, is_called_ok x h, outsOf]
theorem canAll {xs : List D} (h : ∀ x ∈ xs, x.canLay0 = true) : PyData.canLayAll0 xs = true := by
 induction xs with
 | nil => rfl
 | cons x xs ih => rw [PyData.canLayAll0, h x List.mem_cons_self, ih fun y hy => h y (List.mem_cons_of_mem _ hy)]; rfl
theorem depAll {n : Nat} {xs : List D} (h : ∀ x ∈ xs, x.depth ≤ n) : PyData.depthAll xs ≤ n := by
 induction xs with
 | nil => exact Nat.zero_le _
 | cons x xs ih => rw [PyData.depthAll]; exact Nat.max_le.mpr ⟨h x List.mem_cons_self, ih fun y hy => h y (List.mem_cons_of_mem _ hy)⟩
theorem shaped_list {xs : List D} (h : ∀ x ∈ xs, x.canLay0 = true ∧ x.depth ≤ 60) : SeqAt.shaped (.list xs) = true := by
 have d := depAll fun x hx => (h x hx).2
 have c := canAll fun x hx => (h x hx).1
 have e : (PyData.list xs).canLay0 = PyData.canLayAll0 xs := by rw [PyData.canLay0]
 have e2 : (PyData.list xs).depth = PyData.depthAll xs + 1 := by rw [PyData.depth]
 rw [SeqAt.shaped, e, e2, c, Bool.true_and, decide_eq_true_eq]
 omega
theorem shaped_strs {l : List Str} (h : ∀ s ∈ l, PyData.strOk s = true) : SeqAt.shaped (.list (l.map .str)) = true := shaped_list fun x hx => by
 obtain ⟨s, hs, rfl⟩ := List.mem_map.mp hx
 exact ⟨by rw [PyData.canLay0]; exact h s hs, by rw [PyData.depth]; omega⟩
theorem eqvAll_strs : ∀ a b : List Str, PyData.eqvAll (a.map .str) (b.map .str) = decide (a = b)
 | [], [] => rfl
 | [], _ :: _ => rfl
 | _ :: _, [] => rfl
 | x :: a, y :: b => by
  rw [List.map_cons, List.map_cons, PyData.eqvAll, PyData.eqv, eqvAll_strs a b]
  by_cases h : x = y <;> simp [h]
theorem eq_nilL (x : D) (xs : List D) : eqD (.list (x :: xs)) (.list []) = some (.bool false) := rfl
theorem ne_nilL (x : D) (xs : List D) : neD (.list (x :: xs)) (.list []) = some (.bool true) := rfl
theorem eq_lists {a b : List D} (h1 : SeqAt.shaped (.list a) = true) (h2 : SeqAt.shaped (.list b) = true) : eqD (.list a) (.list b) = some (.bool (PyData.eqvAll a b)) := by
 cases b with
 | nil =>
  cases a with
  | nil =>
   have h : eqD (.list []) (.list []) = if SeqAt.shaped (.list []) = true ∧ SeqAt.shaped (.list []) = true then some (.bool (PyData.eqv (.list []) (.list []))) else none := rfl
   rw [h, if_pos ⟨h1, h2⟩, PyData.eqv]
  | cons x a => rw [eq_nilL, PyData.eqvAll]
 | cons y b =>
  have h : eqD (.list a) (.list (y :: b)) = if SeqAt.shaped (.list a) = true ∧ SeqAt.shaped (.list (y :: b)) = true then some (.bool (PyData.eqv (.list a) (.list (y :: b)))) else none := by cases a <;> rfl
  rw [h, if_pos ⟨h1, h2⟩, PyData.eqv]
theorem ne_lists {a b : List D} (h1 : SeqAt.shaped (.list a) = true) (h2 : SeqAt.shaped (.list b) = true) : neD (.list a) (.list b) = some (.bool (!PyData.eqvAll a b)) := by
 cases b with
 | nil =>
  cases a with
  | nil =>
   have h : neD (.list []) (.list []) = if SeqAt.shaped (.list []) = true ∧ SeqAt.shaped (.list []) = true then some (.bool (!PyData.eqv (.list []) (.list []))) else none := rfl
   rw [h, if_pos ⟨h1, h2⟩, PyData.eqv]
  | cons x a => rw [ne_nilL, PyData.eqvAll]; rfl
 | cons y b =>
  have h : neD (.list a) (.list (y :: b)) = if SeqAt.shaped (.list a) = true ∧ SeqAt.shaped (.list (y :: b)) = true then some (.bool (!PyData.eqv (.list a) (.list (y :: b)))) else none := by cases a <;> rfl
  rw [h, if_pos ⟨h1, h2⟩, PyData.eqv]
theorem eq_strs {a b : List Str} (ha : ∀ s ∈ a, PyData.strOk s = true) (hb : ∀ s ∈ b, PyData.strOk s = true) : eqD (.list (a.map .str)) (.list (b.map .str)) = some (.bool (decide (a = b))) := by
 rw [eq_lists (shaped_strs ha) (shaped_strs hb), eqvAll_strs]
theorem ne_strs {a b : List Str} (ha : ∀ s ∈ a, PyData.strOk s = true) (hb : ∀ s ∈ b, PyData.strOk s = true) : neD (.list (a.map .str)) (.list (b.map .str)) = some (.bool (!decide (a = b))) := by
 rw [ne_lists (shaped_strs ha) (shaped_strs hb), eqvAll_strs]
theorem eq_s (a b : Str) : eqD (.str a) (.str b) = some (.bool (decide (a = b))) := rfl
theorem ne_s (a b : Str) : neD (.str a) (.str b) = some (.bool (!decide (a = b))) := rfl
theorem sOk_iff {s : Str} : PyData.strOk s = true ↔ ∀ c ∈ s.cps.toList, c < 0x110000 := by
 unfold PyData.strOk
 rw [Array.all_eq_true_iff_forall_mem]
 simp
theorem NmS.fit {s : Str} (h : NmS s) : FitS s := ⟨by have := h.len; omega, sOk_iff.mpr fun c hc => by
 rcases h.all c hc with h | h
 ·have := h.2; omega
 ·have := h.2; omega⟩
theorem nmS_iff {s : Str} : nmS s = true ↔ NmS s := by
 unfold nmS
 constructor
 ·intro h
  rw [Bool.and_eq_true, Bool.and_eq_true, decide_eq_true_eq] at h
  obtain ⟨⟨h1, h2⟩, h3⟩ := h
  refine ⟨h1, ?_, fun c hc => ?_⟩
  ·cases e : s.cps.toList with
   | nil => rw [e] at h2; cases h2
   | cons c r => rw [e] at h2; exact ⟨c, r, rfl, of_decide_eq_true h2⟩
  ·have := List.all_eq_true.mp h3 c hc
   simpa [okC] using this
 ·intro h
  obtain ⟨c, r, e, hc⟩ := h.hd
  rw [Bool.and_eq_true, Bool.and_eq_true, decide_eq_true_eq]
  refine ⟨⟨h.len, by rw [e]; exact decide_eq_true hc⟩, List.all_eq_true.mpr fun c hc => ?_⟩
  have := h.all c hc
  simpa [okC] using this
end SH
end
section
namespace SH
open PySem PySem.Spec PyProof.Rows L2 DL
theorem while_inv {t : M Bool} {b : M Fl} (I : Nat → DL.Env → Prop) (Q : DL.Env → Prop) (hs : ∀ k ρ, I k ρ → (∃ ρ1, t ρ = .ok false ρ1 ∧ Q ρ1) ∨ (∃ ρ1 ρ2, t ρ = .ok true ρ1 ∧ b ρ1 = .ok .nx ρ2 ∧ ∃ k', k' < k ∧ I k' ρ2)) (k : Nat) (ρ : DL.Env) (h : I k ρ) : ∃ ρ', sWhile t b ρ = .ok .nx ρ' ∧ Q ρ' := by
 have key : ∀ (n k : Nat) (ρ : DL.Env), k < n → I k ρ → ∃ (m : Nat) (ρ' : DL.Env), whileGo t b m ρ = .ok .nx ρ' ∧ Q ρ' := by
  intro n
  induction n with
  | zero => intro k ρ h; omega
  | succ n ih =>
   intro k ρ hk hI
   rcases hs k ρ hI with ⟨ρ1, h1, h2⟩ | ⟨ρ1, ρ2, h1, h2, k', hk', h3⟩
   ·refine ⟨1, ρ1, ?_, h2⟩
    show ((t ρ).bind _) = _
    rw [h1]
    rfl
   ·obtain ⟨m, ρ', h4, h5⟩ := ih k' ρ2 (by omega) h3
    refine ⟨m + 1, ρ', ?_, h5⟩
    have e : whileGo t b (m + 1) ρ = ((t ρ).bind fun x ρ1 => if x = true then (b ρ1).bind fun f ρ2 => match f with
     | .nx => whileGo t b m ρ2
     | .ct => whileGo t b m ρ2
     | .bk => .ok .nx ρ2
     | .rt o => .ok (.rt o) ρ2
     else .ok .nx ρ1) := rfl
    rw [e, h1]
    simp [h2, h4]
 obtain ⟨m, ρ', h1, h2⟩ := key (k + 1) k ρ (Nat.lt_succ_self _) h
 have hn : whileGo t b m ρ ≠ .bad := by rw [h1]; intro z; cases z
 exact ⟨ρ', by rw [sWhile_eq hn, h1], h2⟩
theorem nodup_le {α : Type} [DecidableEq α] : ∀ {a b : List α}, a.Nodup → (∀ x ∈ a, x ∈ b) → a.length ≤ b.length
 | [], b, _, _ => Nat.zero_le _
 | x :: a, b, h, s => by
  have hx := s x List.mem_cons_self
  obtain ⟨h1, h2⟩ := List.nodup_cons.mp h
  have := nodup_le (a := a) (b := b.erase x) h2 fun y hy => by
   have hy' := s y (List.mem_cons_of_mem _ hy)
   have : y ≠ x := fun e => h1 (e ▸ hy)
   exact (List.mem_erase_of_ne this).mpr hy'
  rw [List.length_erase_of_mem hx] at this
  have hb := List.length_pos_of_mem hx
  rw [List.length_cons]
  omega
theorem allStr_map (l : List Str) : allStr (l.map .str) = some l := by
 induction l with
 | nil => rfl
 | cons x l ih => rw [List.map_cons, allStr, ih]; rfl
theorem in_strs (s : Str) (l : List Str) : inD (.str s) (.list (l.map .str)) = some (.bool (decide (s ∈ l))) := by
 show ((memD (.str s) (l.map .str)).map PyData.bool) = _
 unfold memD
 rw [allStr_map]
 rfl
theorem nin_strs (s : Str) (l : List Str) : ninD (.str s) (.list (l.map .str)) = some (.bool (!decide (s ∈ l))) := by
 show ((memD (.str s) (l.map .str)).map fun b => PyData.bool (!b)) = _
 unfold memD
 rw [allStr_map]
 rfl
def eight : List Str := ["a", "b", "c", "d", "e", "f", "g", "h"]
theorem eight_nd : eight.Nodup := by decide +kernel
theorem eight_nm : ∀ s ∈ eight, NmS s := fun s h => nmS_iff.mp (List.all_eq_true.mp (show eight.all nmS = true by decide +kernel) s h)
def freeP (l : List Str) : D → Bool
 | .str s => !decide (s ∈ l)
 | _ => false
theorem filter_free (l : List Str) : ∀ a : List Str, (a.map PyData.str).filter (freeP l) = (a.filter fun s => !decide (s ∈ l)).map .str
 | [] => rfl
 | x :: a => by
  by_cases h : x ∈ l
  ·simp [List.filter_cons, freeP, h, ← filter_free l a]
  ·simp [List.filter_cons, freeP, h, ← filter_free l a]
theorem names_ok {B : Nat} (hB : B < 2 ^ 48) {p : List D} (h : Pile B p) (m : Nat) (hm : m ≤ 8) : ∃ (l : List Str) (p' : List D), l.length = m ∧ l.Nodup ∧ (∀ s ∈ l, NmS s) ∧ Pile (B + 20 * m) p' ∧ f__law_names [.lst p, .d (.int m)] = .ok (.lst (l.map .str)) [some (.lst p'), some (.d (.int m))] := by
 have big := size_big
 have hr : range1 (.int (m : Int)) = some (rangeL 0 m) := by
  show (if _ then _ else _) = _
  rw [if_pos ⟨by rw [Int.toNat_natCast]; omega, by omega⟩, Int.toNat_natCast]
 have hlen : (rangeL 0 m).length = m := by unfold rangeL; simp
 obtain ⟨ρ', f1, l, q, w3, w4, rfl, f2, f3, f4, f5⟩ := forGo_inv (t := tName 3) (b := (sSeq (sSet 4 (mFrz (mCall f__law_name (gO 0 gNil))))
 (sSeq (mIf (mB (mBin inD (mVar 4) (mLook 2))) (sSet 4 (mBin ixD (mLstF (mLc [5] (mItems (mLstF (mCons (mC (.str "a")) (mCons (mC (.str "b")) (mCons (mC (.str "c")) (mCons (mC (.str "d")) (mCons (mC (.str "e")) (mCons (mC (.str "f")) (mCons (mC (.str "g")) (mCons (mC (.str "h")) mNil)))))))))) (tName 5) (mB (mBin ninD (mVar 5) (mLook 2))) (mVar 5))) (mC (.int 0)))) sNil)
 (sDrop (mD (mLM 2 appendD (mCons (mVar 4) mNil)))))))
  (xs := rangeL 0 m) (ρ := [some (.lst p), some (.d (.int m)), some (.lst []), none, none, none])
  (fun i ρ => ∃ (l : List Str), ∃ q w3 w4, ρ = [some (.lst q), some (.d (.int m)), some (.lst (l.map .str)), w3, w4, none] ∧ l.length = i ∧ l.Nodup ∧ (∀ s ∈ l, NmS s) ∧ Pile (B + 20 * i) q)
  ⟨[], p, none, none, rfl, rfl, .nil, fun _ z => (by cases z), h⟩ (fun i x ρ hx ⟨l, q, w3, w4, e, n1, n2, n3, n4⟩ => by
   subst e
   have hi : i < m := by
    have := (List.getElem?_eq_some_iff.mp hx).1
    omega
   obtain ⟨s, q', ns, hq', e5⟩ := name_ok (by omega) n4
   have app : ∀ z : Str, appendD (l.map .str) [.str z] = some ((l ++ [z]).map .str, .none) := fun z => by
    show (if _ then _ else _) = _
    rw [if_pos (by rw [List.length_map]; omega)]
    simp
   by_cases hs : s ∈ l
   ·have fr : (eight.filter fun s => !decide (s ∈ l)) ≠ [] := fun z => by
     have := nodup_le eight_nd (b := l) fun x hx => by
      have := List.filter_eq_nil_iff.mp z x hx
      simpa using this
     have e8 : eight.length = 8 := rfl
     omega
    obtain ⟨z, zs, hz⟩ := List.exists_cons_of_ne_nil fr
    have hz' : z ∈ eight ∧ z ∉ l := by
     have := List.mem_filter.mp (show z ∈ (eight.filter fun s => !decide (s ∈ l)) by rw [hz]; exact List.mem_cons_self)
     simpa using this
    have lc := lcGo_pure (vs := [5]) (t := tName 5) (tst := mB (mBin ninD (mVar 5) (mLook 2))) (e := mVar 5) (p := freeP l) (g := id) (ρ := [some (.lst q'), some (.d (.int m)), some (.lst (l.map .str)), some (.d x), some (.d (.str s)), none]) (xs := eight.map .str) fun x hx => by
     obtain ⟨d, hd, rfl⟩ := List.mem_map.mp hx
     refine ⟨_, [some (.lst q'), some (.d (.int m)), some (.lst (l.map .str)), some (.d x), some (.d (.str s)), some (.d (.str d))], rfl, ?_, fun _ => rfl, fun _ => ⟨_, rfl, rfl⟩⟩
     simp [nin_strs, freeP]
    rw [List.map_id, filter_free, hz] at lc
    have lc : lcGo [5] (tName 5) (mB (mBin ninD (mVar 5) (mLook 2))) (mVar 5) [.str "a", .str "b", .str "c", .str "d", .str "e", .str "f", .str "g", .str "h"] [some (.lst q'), some (.d (.int m)), some (.lst (l.map .str)), some (.d x), some (.d (.str s)), none] = .ok (.str z :: zs.map .str) [some (.lst q'), some (.d (.int m)), some (.lst (l.map .str)), some (.d x), some (.d (.str s)), none] := lc
    have ix : ixD (.list (.str z :: zs.map .str)) (.int 0) = some (.str z) := by simp [ixD, atI, ixN]
    refine ⟨_, _, rfl, ?_, l ++ [z], q', some (.d x), some (.d (.str z)), rfl, by rw [List.length_append, n1]; rfl, ?_, ?_, hq'.up (by omega)⟩
    ·simp [e5, in_strs, hs]
     simp [itemsD, dataAt, lc, backE, ix, app]
    ·exact List.nodup_append.mpr ⟨n2, by simp, fun a ha b hb => by simp at hb; subst hb; exact fun e => hz'.2 (e ▸ ha)⟩
    ·intro y hy
     rcases List.mem_append.mp hy with hy | hy
     ·exact n3 y hy
     ·simp at hy; subst hy; exact eight_nm _ hz'.1
   ·refine ⟨_, _, rfl, ?_, l ++ [s], q', some (.d x), some (.d (.str s)), rfl, by rw [List.length_append, n1]; rfl, ?_, ?_, hq'.up (by omega)⟩
    ·simp [e5, in_strs, hs]
     simp [app]
    ·exact List.nodup_append.mpr ⟨n2, by simp, fun a ha b hb => by simp at hb; subst hb; exact fun e => hs (e ▸ ha)⟩
    ·intro y hy
     rcases List.mem_append.mp hy with hy | hy
     ·exact n3 y hy
     ·simp at hy; subst hy; exact ns)
 refine ⟨l, q, by rw [f2, hlen], f3, f4, f5.up (by omega), ?_⟩
 simp [f__law_names, m__law_names, fnOf, hr]
 try simp at f1
 simp [f1, outsOf]
theorem cut_perm {α : Type} : ∀ (l : List α) (i : Nat) (h : i < l.length), (l[i] :: l.eraseIdx i).Perm l
 | x :: l, 0, h => .refl _
 | x :: l, i + 1, h => (List.Perm.swap _ _ _).trans ((cut_perm l i (by simpa using h)).cons x)
def Lay (x : D) : Prop := x.canLay0 = true ∧ x.depth ≤ 60
theorem order_ok {B : Nat} (hB : B < 2 ^ 48) {p : List D} (h : Pile B p) (xs : List D) (hx : xs.length ≤ 20) (hl : ∀ x ∈ xs, Lay x) : ∃ (ys : List D) (p' : List D), ys.Perm xs ∧ Pile (B + xs.length) p' ∧ f__law_order [.lst p, .d (.list xs)] = .ok (.lst ys) [some (.lst p'), some (.d (.list xs))] := by
 have big := size_big
 obtain ⟨ρ', f1, q, ys, rfl, f2, f3⟩ := while_inv (t := (mB (mBin neD (mLook 2) (mLstF mNil)))) (b := (sDrop (mD (mLM 3 appendD (mCons (mLM 2 popD (mCons (mFrz (mCall f__law_take (gO 0 (gD (mF1 lenD (mLook 2)) gNil)))) mNil)) mNil)))))
  (fun k ρ => ∃ q left found, ρ = [some (.lst q), some (.d (.list xs)), some (.lst left), some (.lst found)] ∧ left.length = k ∧ (found ++ left).Perm xs ∧ Pile (B + found.length) q)
  (fun ρ => ∃ q ys, ρ = [some (.lst q), some (.d (.list xs)), some (.lst []), some (.lst ys)] ∧ ys.Perm xs ∧ Pile (B + xs.length) q)
  (fun k ρ ⟨q, left, found, e, n1, n2, n3⟩ => by
   subst e
   have sub : ∀ x ∈ left, Lay x := fun x hx => hl x (n2.mem_iff.mp (List.mem_append_right _ hx))
   have ne : neD (.list left) (.list []) = some (.bool (!PyData.eqvAll left [])) := ne_lists (shaped_list sub) (shaped_list fun _ z => by cases z)
   have len := n2.length_eq
   rw [List.length_append] at len
   cases left with
   | nil =>
    refine .inl ⟨_, ?_, q, found, rfl, by simpa using n2, n3.up (by simp at len; omega)⟩
    simp [ne]
    rfl
   | cons y l =>
    right
    rw [List.length_cons] at len n1
    obtain ⟨r, q', r0, r1, hq', e5⟩ := take_ok (by omega) n3 ((y :: l).length : Nat) (by rw [List.length_cons]; omega) (by rw [List.length_cons]; omega)
    rw [List.length_cons] at r1
    have hr : r.toNat < (y :: l).length := by rw [List.length_cons]; omega
    have sq : seqIndex? r (y :: l).length = some r.toNat := by
     unfold seqIndex?
     have : ¬ r < 0 := by omega
     simp only [this, if_false]
     rw [List.length_cons]
     simp [r0, r1]
     try omega
    have pp : popD (y :: l) [.int r] = some ((y :: l).eraseIdx r.toNat, (y :: l)[r.toNat]) := by
     have hb : -(2 ^ 63) ≤ r ∧ r < 2 ^ 63 := by omega
     have g : (y :: l)[r.toNat]? = some (y :: l)[r.toNat] := List.getElem?_eq_getElem hr
     simp only [popD, hb, if_pos, sq, Option.bind_some, g, Option.map_some, and_self, if_true]
    have ap : appendD found [(y :: l)[r.toNat]] = some (found ++ [(y :: l)[r.toNat]], .none) := if_pos (by omega)
    generalize hz : (y :: l)[r.toNat] = z at pp ap
    generalize hw : (y :: l).eraseIdx r.toNat = w at pp
    have le : w.length = l.length := by rw [← hw, List.length_eraseIdx_of_lt hr, List.length_cons]; omega
    have pm : (z :: w).Perm (y :: l) := by
     rw [← hz, ← hw]
     exact cut_perm _ _ hr
    refine ⟨[some (.lst q), some (.d (.list xs)), some (.lst (y :: l)), some (.lst found)], [some (.lst q'), some (.d (.list xs)), some (.lst w), some (.lst (found ++ [z]))], ?_, ?_, l.length, by omega, q', w, found ++ [z], rfl, le, ?_, ?_⟩
    ·simp [ne]
     rfl
    ·have len2 : lenD (.list (y :: l)) = some (.int ((y :: l).length : Nat)) := rfl
     simp only [sDrop_d, mD_d, mLM_d, mCons_d, mFrz_d, mCall_d, gO_d, gD_d, mF1_d, mLook_d, gNil_d, mNil_d]
     simp [len2] at e5 ⊢
     simp [e5, pp, ap]
    ·rw [List.append_assoc]
     exact (List.Perm.append_left found pm).trans n2
    ·rw [List.length_append]
     exact hq'.up (by simp; omega))
  xs.length [some (.lst p), some (.d (.list xs)), some (.lst xs), some (.lst [])] ⟨p, xs, [], rfl, rfl, .refl _, h⟩
 refine ⟨ys, q, f2, f3, ?_⟩
 simp [f__law_order, m__law_order, fnOf, listD]
 try simp at f1
 simp [f1, outsOf]
end SH
end
section
namespace SH
open PySem PySem.Spec PyProof.Rows L2 DL
def FitP : D → Prop
 | .tuple xs => xs.length ≤ 3 ∧ ∀ x ∈ xs, FitM x
 | .dict kvs => cells kvs = none
 | _ => True
def Fit : D → Prop
 | .tuple xs => xs.length ≤ 20 ∧ ∀ x ∈ xs, FitP x
 | .dict kvs => cells kvs = none
 | _ => True
def isTupB : D → Bool
 | .tuple _ => true
 | _ => false
theorem isi_tup (x : D) (h : ∀ kvs, x = .dict kvs → cells kvs = none) : isiD .tup x = some (.bool (isTupB x)) := by
 cases x with
 | dict kvs => simp [isiD, isT, h kvs rfl, isTupB]
 | _ => rfl
theorem FitP.no {x : D} (h : FitP x) : ∀ kvs, x = .dict kvs → cells kvs = none := fun kvs e => by subst e; exact h
theorem Fit.no {x : D} (h : Fit x) : ∀ kvs, x = .dict kvs → cells kvs = none := fun kvs e => by subst e; exact h
def pairB : D → Bool
 | .tuple xs => decide (xs.length = 2)
 | _ => false
def neB : D → D → Bool
 | .str a, .str b => !decide (a = b)
 | _, _ => false
def okP : D → Bool
 | .tuple [a, b] => nmB a && nmB b && neB a b
 | _ => false
def keyD : D → D
 | .tuple (a :: _) => a
 | _ => .none
def toD : D → D
 | .tuple [_, b] => b
 | _ => .none
def keyS (x : D) : Str := match keyD x with
 | .str a => a
 | _ => ""
def toS (x : D) : Str := match toD x with
 | .str a => a
 | _ => ""
def turnB : D → Bool
 | .tuple xs => xs.all okP && (decide (xs.map keyS = sortS (onceS (xs.map keyS))) && decide (sortS (xs.map toS) = xs.map keyS))
 | _ => false
theorem nmB_str {a : D} (h : nmB a = true) : ∃ s, a = .str s ∧ NmS s := by
 cases a with
 | str s => exact ⟨s, rfl, nmS_iff.mp h⟩
 | _ => cases h
theorem okP_iff {x : D} (h : okP x = true) : ∃ a b, x = .tuple [.str a, .str b] ∧ NmS a ∧ NmS b ∧ a ≠ b := by
 unfold okP at h
 split at h
 ·rename_i a b
  rw [Bool.and_eq_true, Bool.and_eq_true] at h
  obtain ⟨⟨h1, h2⟩, h3⟩ := h
  obtain ⟨s, rfl, hs⟩ := nmB_str h1
  obtain ⟨t, rfl, ht⟩ := nmB_str h2
  refine ⟨s, t, rfl, hs, ht, fun e => ?_⟩
  simp [neB, e] at h3
 ·cases h
theorem keys_eq {xs : List D} (h : xs.all okP = true) : xs.map keyD = (xs.map keyS).map .str := by
 rw [List.map_map]
 refine List.map_congr_left fun x hx => ?_
 obtain ⟨a, b, rfl, _⟩ := okP_iff (List.all_eq_true.mp h x hx)
 rfl
theorem tos_eq {xs : List D} (h : xs.all okP = true) : xs.map toD = (xs.map toS).map .str := by
 rw [List.map_map]
 refine List.map_congr_left fun x hx => ?_
 obtain ⟨a, b, rfl, _⟩ := okP_iff (List.all_eq_true.mp h x hx)
 rfl
theorem keys_nm {xs : List D} (h : xs.all okP = true) : ∀ s ∈ xs.map keyS, NmS s := fun s hs => by
 obtain ⟨x, hx, rfl⟩ := List.mem_map.mp hs
 obtain ⟨a, b, rfl, h1, _⟩ := okP_iff (List.all_eq_true.mp h x hx)
 exact h1
theorem tos_nm {xs : List D} (h : xs.all okP = true) : ∀ s ∈ xs.map toS, NmS s := fun s hs => by
 obtain ⟨x, hx, rfl⟩ := List.mem_map.mp hs
 obtain ⟨a, b, rfl, _, h1, _⟩ := okP_iff (List.all_eq_true.mp h x hx)
 exact h1
theorem bools_q (q : D → Bool) : ∀ xs : List D, boolsD (xs.map fun x => .bool (q x)) = some (xs.map q)
 | [] => rfl
 | x :: xs => by
  show (boolsD (xs.map fun x => .bool (q x))).map (q x :: ·) = _
  rw [bools_q q xs]
  rfl
theorem all_q (q : D → Bool) (xs : List D) : allD (.list (xs.map fun x => .bool (q x))) = some (.bool (xs.all q)) := by
 simp only [allD, bools_q]
 simp [Function.comp_def]
theorem filt_all (xs : List D) : xs.filter (fun _ => true) = xs := List.filter_eq_self.mpr fun _ _ => rfl
theorem sort_strs (l : List Str) : sortL (l.map .str) = (sortS l).map .str := by
 unfold sortL sortS
 refine (PySem.W.sort_maps PyData.str fun a ha b hb => ?_).symm
 have e := congrFun (congrFun (PySem.W.dataLe_str (β := Str) id) a) b
 exact e.symm
theorem sortOk_strs {l : List Str} (h : ∀ s ∈ l, NmS s) : sortOk (l.map .str) = true := by
 unfold sortOk
 rw [shaped_strs fun s hs => (h s hs).fit.ok, Bool.and_true, Bool.and_eq_true, Bool.or_eq_true]
 refine ⟨?_, .inr ?_⟩
 ·simp [PySem.W.alike]
 ·simp
theorem sortO_strs {l : List Str} (h : ∀ s ∈ l, NmS s) : sortO (.list (l.map .str)) = some ((sortS l).map .str) := by
 show (if _ then _ else _) = _
 rw [if_pos (sortOk_strs h), sort_strs]
theorem sortS_perm (l : List Str) : (sortS l).Perm l := List.mergeSort_perm _ _
theorem texts_strs {l : List Str} (h : l.length ≤ 1000) : textsD (.list (l.map .str)) = some l := by
 show ((allStr (l.map .str)).bind _) = _
 rw [allStr_map]
 show (if _ then _ else _) = _
 rw [if_pos]
 show _ < 4096
 omega
theorem nmOk {l : List Str} (h : ∀ s ∈ l, NmS s) : ∀ s ∈ l, PyData.strOk s = true := fun s hs => (h s hs).fit.ok
theorem is_turn_ok (x : D) (h : Fit x) : f_is_turn [.d x] = .ok (.d (.bool (turnB x))) [some (.d x)] := by
 have isi := isi_tup x h.no
 cases x with
 | tuple xs =>
  obtain ⟨hl, hf⟩ : xs.length ≤ 20 ∧ ∀ x ∈ xs, FitP x := h
  have lc1 := lcGo_pure (vs := [1]) (t := tName 1) (tst := mYes) (e := (mAndV (mF1 (isiD .tup) (mVar 1)) (mBin eqD (mF1 lenD (mVar 1)) (mC (.int 2))))) (p := fun _ => true) (g := fun x => .bool (pairB x)) (ρ := [some (.d (.tuple xs)), none, none, none, none]) (xs := xs) fun x hx => by
   refine ⟨_, _, rfl, rfl, fun z => (by cases z), fun _ => ⟨[some (.d (.tuple xs)), some (.d x), none, none, none], ?_, rfl⟩⟩
   have is := isi_tup x (hf x hx).no
   cases x with
   | tuple ys =>
    simp [is, isTupB, pairB, lenD, eq_i]
    try omega
   | _ => simp [is, isTupB, pairB]
  rw [filt_all] at lc1
  by_cases h1 : xs.all pairB = true
  ·have lc2 := lcGo_pure (vs := [2, 3]) (t := (tTup 2 (tsCons (tName 2) (tsCons (tName 3) tsNil)))) (tst := mYes) (e := (mAndV (mFrz (mCall f_is_name (gD (mVar 2) gNil))) (mAndV (mFrz (mCall f_is_name (gD (mVar 3) gNil))) (mBin neD (mVar 2) (mVar 3))))) (p := fun _ => true) (g := fun x => .bool (okP x)) (ρ := [some (.d (.tuple xs)), none, none, none, none]) (xs := xs) fun x hx => by
    have hp := List.all_eq_true.mp h1 x hx
    have hfx := hf x hx
    match x, hp, hfx with
    | .tuple [a, b], _, hfx =>
     refine ⟨[some (.d (.tuple xs)), none, some (.d a), some (.d b), none], _, by simp, rfl, fun z => (by cases z), fun _ => ⟨[some (.d (.tuple xs)), none, some (.d a), some (.d b), none], ?_, rfl⟩⟩
     have na := is_name_ok a (hfx.2 a (by simp))
     have nb := is_name_ok b (hfx.2 b (by simp))
     cases ha : nmB a with
     | false => simp [na, ha, okP]
     | true =>
      cases hb : nmB b with
      | false => simp [na, nb, ha, hb, okP]
      | true =>
       obtain ⟨s, rfl, hs⟩ := nmB_str ha
       obtain ⟨t, rfl, ht⟩ := nmB_str hb
       simp [na, nb, ha, hb, okP, ne_s, neB]
   rw [filt_all] at lc2
   by_cases h2 : xs.all okP = true
   ·have lc3 : ∀ w, lcGo [2, 3] (tTup 2 (tsCons (tName 2) (tsCons (tName 3) tsNil))) mYes (mVar 2) xs [some (.d (.tuple xs)), none, none, none, w] = .ok ((xs.map keyS).map .str) [some (.d (.tuple xs)), none, none, none, w] := fun w => by
     have z := lcGo_pure (vs := [2, 3]) (t := (tTup 2 (tsCons (tName 2) (tsCons (tName 3) tsNil)))) (tst := mYes) (e := mVar 2) (p := fun _ => true) (g := keyD) (ρ := [some (.d (.tuple xs)), none, none, none, w]) (xs := xs) fun x hx => by
      obtain ⟨a, b, rfl, _⟩ := okP_iff (List.all_eq_true.mp h2 x hx)
      exact ⟨[some (.d (.tuple xs)), none, some (.d (.str a)), some (.d (.str b)), w], _, by simp, rfl, fun z => (by cases z), fun _ => ⟨[some (.d (.tuple xs)), none, some (.d (.str a)), some (.d (.str b)), w], rfl, rfl⟩⟩
     rw [filt_all, keys_eq h2] at z
     exact z
    have lc4 : ∀ w, lcGo [2, 3] (tTup 2 (tsCons (tName 2) (tsCons (tName 3) tsNil))) mYes (mVar 3) xs [some (.d (.tuple xs)), none, none, none, w] = .ok ((xs.map toS).map .str) [some (.d (.tuple xs)), none, none, none, w] := fun w => by
     have z := lcGo_pure (vs := [2, 3]) (t := (tTup 2 (tsCons (tName 2) (tsCons (tName 3) tsNil)))) (tst := mYes) (e := mVar 3) (p := fun _ => true) (g := toD) (ρ := [some (.d (.tuple xs)), none, none, none, w]) (xs := xs) fun x hx => by
      obtain ⟨a, b, rfl, _⟩ := okP_iff (List.all_eq_true.mp h2 x hx)
      exact ⟨[some (.d (.tuple xs)), none, some (.d (.str a)), some (.d (.str b)), w], _, by simp, rfl, fun z => (by cases z), fun _ => ⟨[some (.d (.tuple xs)), none, some (.d (.str a)), some (.d (.str b)), w], rfl, rfl⟩⟩
     rw [filt_all, tos_eq h2] at z
     exact z
    have tx := texts_strs (l := xs.map keyS) (by rw [List.length_map]; omega)
    have so := sortO_strs (tos_nm h2)
    have kn := keys_nm h2
    have e1 := eq_strs (a := xs.map keyS) (b := sortS (onceS (xs.map keyS))) (nmOk kn) (nmOk fun s hs => kn s (once_mem.mp ((sortS_perm _).mem_iff.mp hs)))
    have e2 := eq_strs (a := sortS (xs.map toS)) (b := xs.map keyS) (nmOk fun s hs => tos_nm h2 s ((sortS_perm _).mem_iff.mp hs)) (nmOk kn)
    have tb : turnB (.tuple xs) = (decide (xs.map keyS = sortS (onceS (xs.map keyS))) && decide (sortS (xs.map toS) = xs.map keyS)) := by simp only [turnB, h2, Bool.true_and]
    rw [tb]
    generalize hks : xs.map keyS = ks at lc3 tx e1 e2 ⊢
    generalize hts : xs.map toS = tz at lc4 so e2 ⊢
    have a1 := all_q pairB xs
    have a2 := all_q okP xs
    rw [h1] at a1
    rw [h2] at a2
    simp only [f_is_turn, m_is_turn, fnOf]
    simp [isi, isTupB, itemsD, dataAt, lc1, a1, backE]
    simp [lc2, a2, backE]
    simp [lc3, backE]
    cases hd : decide (ks = sortS (onceS ks)) with
    | false =>
     rw [hd] at e1
     simp [tx, e1, outsOf]
    | true =>
     rw [hd] at e1
     simp [tx, e1, dataAt, lc4, backE, so, e2, outsOf]
   ·have h2 : xs.all okP = false := by simpa using h2
    have tb : turnB (.tuple xs) = false := by simp only [turnB, h2, Bool.false_and]
    have a1 := all_q pairB xs
    have a2 := all_q okP xs
    rw [h1] at a1
    rw [h2] at a2
    rw [tb]
    simp only [f_is_turn, m_is_turn, fnOf]
    simp [isi, isTupB, itemsD, dataAt, lc1, a1, backE]
    simp [lc2, a2, backE, outsOf]
  ·have h2 : xs.all okP = false := by
    cases q : xs.all okP with
    | false => rfl
    | true =>
     exact absurd (List.all_eq_true.mpr fun x hx => by
      obtain ⟨a, b, rfl, _⟩ := okP_iff (List.all_eq_true.mp q x hx)
      rfl) h1
   have h1 : xs.all pairB = false := by simpa using h1
   have tb : turnB (.tuple xs) = false := by simp only [turnB, h2, Bool.false_and]
   have a1 := all_q pairB xs
   rw [h1] at a1
   rw [tb]
   simp only [f_is_turn, m_is_turn, fnOf]
   simp [isi, isTupB, itemsD, dataAt, lc1, a1, backE, outsOf]
 | _ => simp [f_is_turn, m_is_turn, fnOf, isi, isTupB, turnB, outsOf]
end SH
end
section
namespace SH
open PySem PySem.Spec PyProof.Rows L2 DL
end SH
end
section
namespace SH
open PySem PySem.Spec PyProof.Rows L2 DL
def PrD (x : D) : Prop := ∃ a b, x = .tuple [.str a, .str b] ∧ NmS a ∧ NmS b
structure Prs (n : Nat) (xs : List D) : Prop where
 len : xs.length ≤ n
 all : ∀ x ∈ xs, PrD x
theorem NmS.lay {s : Str} (h : NmS s) : Lay (.str s) := ⟨by rw [PyData.canLay0]; exact h.fit.ok, by rw [PyData.depth]; omega⟩
theorem PrD.lay {x : D} (h : PrD x) : Lay x := by
 obtain ⟨a, b, rfl, ha, hb⟩ := h
 refine ⟨?_, ?_⟩
 ·rw [PyData.canLay0]
  refine canAll fun x hx => ?_
  simp at hx
  rcases hx with rfl | rfl
  ·exact ha.lay.1
  ·exact hb.lay.1
 ·have := depAll (n := 0) (xs := [.str a, .str b]) fun x hx => by
   simp at hx
   rcases hx with rfl | rfl <;> (rw [PyData.depth]; exact Nat.le_refl _)
  rw [PyData.depth]
  omega
theorem sortOk_prs {xs : List D} (h : ∀ x ∈ xs, PrD x) : sortOk xs = true := by
 unfold sortOk
 rw [shaped_list fun x hx => (h x hx).lay, Bool.and_true, Bool.and_eq_true, Bool.or_eq_true]
 refine ⟨?_, .inl ?_⟩
 ·refine List.all_eq_true.mpr fun x hx => List.all_eq_true.mpr fun y hy => ?_
  obtain ⟨a, b, rfl, _⟩ := h x hx
  obtain ⟨c, d, rfl, _⟩ := h y hy
  simp [PySem.W.alike, PySem.W.alikeAll]
 ·refine List.all_eq_true.mpr fun x hx => ?_
  obtain ⟨a, b, rfl, _⟩ := h x hx
  rfl
def neP : D → Bool
 | .tuple [.str a, .str b] => !decide (a = b)
 | _ => false
theorem mem_ix {xs : List D} {i : Int} (h0 : 0 ≤ i) (h1 : i < xs.length) : ∃ x, ixD (.list xs) (.int i) = some x ∧ x ∈ xs := by
 obtain ⟨x, e1, e2⟩ := atI_nat h0 h1
 exact ⟨x, e1, List.mem_of_getElem? e2⟩
end SH
end
section
namespace SH
open PySem PySem.Spec PyProof.Rows L2 DL
structure FitA (x : D) : Prop where
 m : FitM x
 p : FitP x
 t : Fit x
theorem fitS_of {s : Str} (h : (decide (s.length ≤ 20) && PyData.strOk s) = true) : FitS s := by
 rw [Bool.and_eq_true, decide_eq_true_eq] at h
 exact ⟨h.1, h.2⟩
def others : List D := [.none, .bool true, .int 0, .int 7, .tuple [.str "a"], .list [.str "a"], .dict [(.str "a", .str "b")], .tuple []]
end SH
end
section
namespace SH
open PySem PySem.Spec PyProof.Rows L2 DL
theorem fn_ok {n np : Nat} {fx : List Nat} {m : M Fl} {os : List OV} {o : OV} {ρ' outs : DL.Env} (hl : os.length = np) (h : m (os.map some ++ List.replicate (n - np) none) = .ok (.rt o) ρ') (ho : outsOf fx ρ' 0 os = outs) : fnOf n np fx m os = .ok o outs := by
 unfold fnOf
 rw [if_pos hl, h]
 subst ho
 rfl
theorem seq_nx {a b : M Fl} {ρ ρ1 : DL.Env} (h : a ρ = .ok .nx ρ1) : sSeq a b ρ = b ρ1 := by rw [sSeq_d, h]; rfl
end SH
end
section
namespace SH
open PySem PySem.Spec PyProof.Rows L2 DL
end SH
end
section
namespace SH
open PySem PySem.Spec PyProof.Rows L2 DL
end SH
end
section
namespace SH
open PySem PySem.Spec PyProof.Rows L2 DL
structure Tn (xs : List D) : Prop where
 len : xs.length ≤ 20
 ok : xs.all okP = true
 srt : xs.map keyS = sortS (onceS (xs.map keyS))
 tos : sortS (xs.map toS) = xs.map keyS
end SH
end
section
namespace SH
open PySem PySem.Spec PyProof.Rows L2 DL
def led : List D → Str → Str
 | [], s => s
 | x :: xs, s => if keyS x = s then toS x else led xs s
end SH
end
section
namespace SH
open PySem PySem.Spec PyProof.Rows L2 DL
end SH
end
section
namespace SH
open PySem PySem.Spec PyProof.Rows L2 DL
structure Ring (xs : List D) (a : Str) (pre : List Str) (z : Str) : Prop where
 nd : (pre ++ [z]).Nodup
 sub : ∀ s ∈ pre ++ [z], s ∈ xs.map keyS
 from' : ∀ t ∈ pre ++ [z], t = a ∨ ∃ s ∈ pre, led xs s = t
end SH
end
section
namespace SH
open PySem PySem.Spec PyProof.Rows L2 DL
theorem ext_l {a b : List D} (h : a.length + b.length ≤ 1000) : extendD a (.list b) = some (a ++ b) := if_pos (by have := size_big; omega)
end SH
end
section
namespace SH
open PySem PySem.Spec PyProof.Rows L2 DL
end SH
end
section
namespace SH
open PySem PySem.Spec PyProof.Rows L2 DL
end SH
end
section
namespace SH
open PySem PySem.Spec PyProof.Rows L2 DL
abbrev PL := List (Str × Str)
def pd (p : Str × Str) : D := .tuple [.str p.1, .str p.2]
def tD (t : PL) : D := .tuple (t.map pd)
def le2 (p q : Str × Str) : Bool := if p.1 = q.1 then leS p.2 q.2 else leS p.1 q.1
theorem not_lt_le (a b : Str) : (!decide (b.cps.toList < a.cps.toList)) = leS a b := by
 unfold leS
 by_cases h : b.cps.toList < a.cps.toList
 ·have : ¬ a.cps.toList ≤ b.cps.toList := fun z => List.not_lt.mpr z h
  simp [h, this]
 ·have : a.cps.toList ≤ b.cps.toList := List.not_lt.mp h
  simp [h, this]
theorem dataLe_lt (a b : D) : PySem.W.dataLe false id a b = !PySem.W.dataLt b a := rfl
theorem eqv_str (a b : Str) : PyData.eqv (.str a) (.str b) = decide (a = b) := by
 rw [PyData.eqv]
 by_cases h : a = b
 ·simp [h]
 ·simp [h]
theorem le2_pd (p q : Str × Str) : le2 p q = PySem.W.dataLe false id (pd p) (pd q) := by
 obtain ⟨a, b⟩ := p
 obtain ⟨c, d⟩ := q
 rw [dataLe_lt]
 unfold pd le2
 rw [PySem.W.dataLt_pair (by simp [PySem.W.alike]) (by simp [PySem.W.alike]), eqv_str, eqv_str, PySem.W.dataLt_str, PySem.W.dataLt_str]
 by_cases h : a = c
 ·subst h
  by_cases k : b = d
  ·subst k
   simp [leS_refl b]
  ·have k' : ¬ d = b := fun e => k e.symm
   simp [k', ← not_lt_le]
 ·have h' : ¬ c = a := fun e => h e.symm
  simp [h, h', ← not_lt_le]
where leS_refl (b : Str) : leS b b = true := by unfold leS; rw [decide_eq_true_eq]; exact List.le_refl _
def sortP (l : PL) : PL := l.mergeSort le2
theorem sortL_pd (l : PL) : sortL (l.map pd) = (sortP l).map pd := by
 unfold sortL sortP
 exact (PySem.W.sort_maps pd fun a _ b _ => le2_pd a b).symm
def Nm2 (l : PL) : Prop := ∀ p ∈ l, NmS p.1 ∧ NmS p.2
theorem Nm2.prd {l : PL} (h : Nm2 l) : ∀ x ∈ l.map pd, PrD x := fun x hx => by
 obtain ⟨p, hp, rfl⟩ := List.mem_map.mp hx
 exact ⟨p.1, p.2, rfl, (h p hp).1, (h p hp).2⟩
theorem sortO_pd {l : PL} (h : Nm2 l) : sortO (.list (l.map pd)) = some ((sortP l).map pd) := by
 show (if _ then _ else _) = _
 rw [if_pos (sortOk_prs h.prd), sortL_pd]
theorem le2_trans (a b c : Str × Str) (h1 : le2 a b = true) (h2 : le2 b c = true) : le2 a c = true := by
 unfold le2 at *
 by_cases h : a.1 = b.1
 ·rw [if_pos h] at h1
  by_cases k : b.1 = c.1
  ·rw [if_pos k] at h2
   rw [if_pos (h.trans k)]
   exact leS_trans _ _ _ h1 h2
  ·rw [if_neg k] at h2
   rw [if_neg (by rw [h]; exact k), h]
   exact h2
 ·rw [if_neg h] at h1
  by_cases k : b.1 = c.1
  ·rw [if_neg (by rw [← k]; exact h), ← k]
   exact h1
  ·rw [if_neg k] at h2
   by_cases m : a.1 = c.1
   ·exact absurd (leS_anti h1 (by rw [m]; exact h2)) h
   ·rw [if_neg m]
    exact leS_trans _ _ _ h1 h2
theorem le2_total (a b : Str × Str) : (le2 a b || le2 b a) = true := by
 unfold le2
 by_cases h : a.1 = b.1
 ·rw [if_pos h, if_pos h.symm]; exact leS_total _ _
 ·rw [if_neg h, if_neg (fun e => h e.symm)]; exact leS_total _ _
theorem le2_anti {a b : Str × Str} (h1 : le2 a b = true) (h2 : le2 b a = true) : a = b := by
 unfold le2 at *
 by_cases h : a.1 = b.1
 ·rw [if_pos h] at h1
  rw [if_pos h.symm] at h2
  exact Prod.ext h (leS_anti h1 h2)
 ·rw [if_neg h] at h1
  rw [if_neg (fun e => h e.symm)] at h2
  exact absurd (leS_anti h1 h2) h
theorem sortP_perm (l : PL) : (sortP l).Perm l := List.mergeSort_perm _ _
theorem sortP_eq {l m : PL} (p : m.Perm l) (s : m.Pairwise fun a b => le2 a b = true) : sortP l = m :=
 ((sortP_perm l).trans p.symm).eq_of_pairwise (le := fun a b => le2 a b = true) (fun a b _ _ => le2_anti) (List.pairwise_mergeSort le2_trans le2_total l) s
def ltN (a b : Str) : Prop := leS a b = true ∧ a ≠ b
theorem srt_once (l : List Str) : (sortS (onceS l)).Pairwise ltN := by
 have h1 : (sortS (onceS l)).Pairwise fun a b => leS a b = true := List.pairwise_mergeSort leS_trans leS_total _
 have h2 : (sortS (onceS l)).Nodup := (sortS_perm _).nodup_iff.mpr (once_nd l)
 exact h1.and h2
theorem mem_srt {l : List Str} {x : Str} : x ∈ sortS (onceS l) ↔ x ∈ l := (sortS_perm _).mem_iff.trans once_mem
theorem ltN_nodup {l : List Str} (h : l.Pairwise ltN) : l.Nodup := h.imp fun ⟨_, n⟩ => n
theorem ltN_uniq {l m : List Str} (hl : l.Pairwise ltN) (hm : m.Pairwise ltN) (e : ∀ x, x ∈ l ↔ x ∈ m) : l = m :=
 ((List.perm_ext_iff_of_nodup (ltN_nodup hl) (ltN_nodup hm)).mpr e).eq_of_pairwise (le := fun a b => leS a b = true) (fun a b _ _ => leS_anti) (hl.imp fun h => h.1) (hm.imp fun h => h.1)
theorem srt_eq {l m : List Str} (hm : m.Pairwise ltN) (e : ∀ x, x ∈ m ↔ x ∈ l) : sortS (onceS l) = m := ltN_uniq (srt_once l) hm fun x => mem_srt.trans (e x).symm
def mkT (f : Str → Str) (l : List Str) : PL := ((sortS (onceS l)).filter fun s => !decide (s = f s)).map fun s => (s, f s)
def keys (t : PL) : List Str := t.map (·.1)
theorem keysMk (f : Str → Str) (l : List Str) : keys (mkT f l) = (sortS (onceS l)).filter fun s => !decide (s = f s) := by
 unfold keys mkT
 rw [List.map_map]
 exact List.map_id' _
theorem mem_keysMk {f : Str → Str} {l : List Str} {s : Str} : s ∈ keys (mkT f l) ↔ s ∈ l ∧ s ≠ f s := by
 rw [keysMk, List.mem_filter, mem_srt]
 simp
theorem keysMk_srt (f : Str → Str) (l : List Str) : (keys (mkT f l)).Pairwise ltN := by
 rw [keysMk]
 exact (srt_once l).filter _
def ledP (t : PL) (s : Str) : Str := match t with
 | [] => s
 | p :: r => if p.1 = s then p.2 else ledP r s
theorem ledP_out {t : PL} {s : Str} (h : s ∉ keys t) : ledP t s = s := by
 induction t with
 | nil => rfl
 | cons p r ih =>
  have h : s ∉ p.1 :: keys r := h
  rw [List.mem_cons, not_or] at h
  show (if p.1 = s then p.2 else ledP r s) = s
  rw [if_neg fun e => h.1 e.symm]
  exact ih h.2
theorem ledP_in {t : PL} {p : Str × Str} (n : (keys t).Nodup) (h : p ∈ t) : ledP t p.1 = p.2 := by
 induction t with
 | nil => cases h
 | cons q r ih =>
  have n : (q.1 :: keys r).Nodup := n
  obtain ⟨n1, n2⟩ := List.nodup_cons.mp n
  show (if q.1 = p.1 then q.2 else ledP r p.1) = p.2
  rcases List.mem_cons.mp h with rfl | h
  ·rw [if_pos rfl]
  ·rw [if_neg fun e => n1 (by rw [e]; exact List.mem_map_of_mem h)]
   exact ih n2 h
theorem ledP_mk {f : Str → Str} {l : List Str} (h : ∀ s, s ∉ l → f s = s) (s : Str) : ledP (mkT f l) s = f s := by
 by_cases hs : s ∈ keys (mkT f l)
 ·have hm : (s, f s) ∈ mkT f l := by
   unfold mkT
   rw [keysMk] at hs
   exact List.mem_map.mpr ⟨s, hs, rfl⟩
  exact ledP_in (ltN_nodup (keysMk_srt f l)) hm
 ·rw [ledP_out hs]
  rw [mem_keysMk] at hs
  by_cases hl : s ∈ l
  ·by_cases e : s = f s
   ·exact e
   ·exact absurd ⟨hl, e⟩ hs
  ·exact (h s hl).symm
structure Turn (t : PL) : Prop where
 nm : Nm2 t
 ne : ∀ p ∈ t, p.1 ≠ p.2
 srt : (keys t).Pairwise ltN
 perm : (t.map (·.2)).Perm (keys t)
theorem perm_of_sub {l m : List Str} (n : l.Nodup) (s : ∀ x ∈ l, x ∈ m) (hl : m.length ≤ l.length) (nm : m.Nodup) : l.Perm m := by
 refine (List.perm_ext_iff_of_nodup n nm).mpr fun x => ⟨s x, fun hx => ?_⟩
 by_cases h : x ∈ l
 ·exact h
 ·have h1 : (x :: l).Nodup := List.nodup_cons.mpr ⟨h, n⟩
  have h2 := nodup_le h1 (b := m) fun y hy => by
   rcases List.mem_cons.mp hy with rfl | hy
   ·exact hx
   ·exact s y hy
  rw [List.length_cons] at h2
  omega
theorem turn_mk {f : Str → Str} {l : List Str} (hl : ∀ s ∈ l, NmS s) (out : ∀ s, s ∉ l → f s = s) (inj : ∀ a b, f a = f b → a = b) : Turn (mkT f l) := by
 have key : ∀ s, s ∈ keys (mkT f l) → f s ∈ keys (mkT f l) := fun s hs => by
  rw [mem_keysMk] at hs ⊢
  have hne : f s ≠ f (f s) := fun e => hs.2 (inj _ _ e)
  refine ⟨?_, hne⟩
  by_cases h : f s ∈ l
  ·exact h
  ·exact absurd (out _ h).symm hne
 have tos : (mkT f l).map (·.2) = (keys (mkT f l)).map f := by
  rw [keysMk]
  unfold mkT
  rw [List.map_map]
  rfl
 have nd := ltN_nodup (keysMk_srt f l)
 refine ⟨fun p hp => ?_, fun p hp => ?_, keysMk_srt f l, ?_⟩
 ·have h1 : p.1 ∈ keys (mkT f l) := List.mem_map_of_mem hp
  have h2 : p.2 = f p.1 := by
   rw [← ledP_in nd hp, ledP_mk out]
  have h3 := key _ h1
  rw [mem_keysMk] at h1 h3
  exact ⟨hl _ h1.1, by rw [h2]; exact hl _ h3.1⟩
 ·have h1 : p.1 ∈ keys (mkT f l) := List.mem_map_of_mem hp
  rw [mem_keysMk] at h1
  rw [show p.2 = f p.1 from by rw [← ledP_in nd hp, ledP_mk out]]
  exact h1.2
 ·rw [tos]
  refine perm_of_sub ?_ (fun x hx => ?_) (by rw [List.length_map]; exact Nat.le_refl _) nd
  ·exact List.Nodup.map_on' inj nd
  ·obtain ⟨s, hs, rfl⟩ := List.mem_map.mp hx
   exact key s hs
where List.Nodup.map_on' {f : Str → Str} (inj : ∀ a b, f a = f b → a = b) : ∀ {l : List Str}, l.Nodup → (l.map f).Nodup
 | [], _ => .nil
 | a :: l, h => by
  obtain ⟨h1, h2⟩ := List.nodup_cons.mp h
  rw [List.map_cons]
  refine List.nodup_cons.mpr ⟨fun z => ?_, List.Nodup.map_on' inj h2⟩
  obtain ⟨b, hb, e⟩ := List.mem_map.mp z
  exact h1 (by rw [inj _ _ e.symm]; exact hb)
end SH
end
section
namespace SH
open PySem PySem.Spec PyProof.Rows L2 DL
theorem keyS_pd (t : PL) : (t.map pd).map keyS = keys t := by
 unfold keys; rw [List.map_map]; rfl
theorem toS_pd (t : PL) : (t.map pd).map toS = t.map (·.2) := by
 rw [List.map_map]; rfl
theorem nmB_of {s : Str} (h : NmS s) : nmB (.str s) = true := nmS_iff.mpr h
theorem sortS_uniq {l m : List Str} (p : l.Perm m) (s : m.Pairwise ltN) : sortS l = m :=
 ((sortS_perm l).trans p).eq_of_pairwise (le := fun a b => leS a b = true) (fun a b _ _ => leS_anti) (List.pairwise_mergeSort leS_trans leS_total l) (s.imp fun h => h.1)
theorem Turn.isB {t : PL} (h : Turn t) : turnB (tD t) = true := by
 have a : (t.map pd).all okP = true := List.all_eq_true.mpr fun x hx => by
  obtain ⟨p, hp, rfl⟩ := List.mem_map.mp hx
  have n := h.nm p hp
  have e := h.ne p hp
  simp [okP, pd, nmB_of n.1, nmB_of n.2, neB, e]
 show ((t.map pd).all okP && (decide ((t.map pd).map keyS = sortS (onceS ((t.map pd).map keyS))) && decide (sortS ((t.map pd).map toS) = (t.map pd).map keyS))) = true
 rw [a, keyS_pd, toS_pd, srt_eq h.srt fun _ => Iff.rfl, sortS_uniq h.perm h.srt]
 simp
theorem fit_pd {t : PL} (h : Nm2 t) (hl : t.length ≤ 20) : Fit (tD t) := ⟨by rw [List.length_map]; exact hl, fun x hx => by
 obtain ⟨p, hp, rfl⟩ := List.mem_map.mp hx
 refine ⟨by simp, fun y hy => ?_⟩
 simp at hy
 rcases hy with rfl | rfl
 ·exact (h p hp).1.fit
 ·exact (h p hp).2.fit⟩
theorem Turn.fit {t : PL} (h : Turn t) (hl : t.length ≤ 20) : Fit (tD t) := fit_pd h.nm hl
theorem items_t (t : PL) : itemsD (tD t) = some (t.map pd) := rfl
def swpP (p : Str × Str) : Str × Str := (p.2, p.1)
def inv (t : PL) : PL := sortP (t.map swpP)
theorem mkT_perm {f : Str → Str} {ks : List Str} (n : ks.Nodup) : ((ks.filter fun s => !decide (s = f s)).map fun s => (s, f s)).Perm (mkT f ks) := by
 unfold mkT
 refine (List.Perm.filter _ ?_).map _
 refine (List.perm_ext_iff_of_nodup n ((sortS_perm _).nodup_iff.mpr (once_nd ks))).mpr fun x => mem_srt.symm
theorem mkT_le2 (f : Str → Str) (l : List Str) : (mkT f l).Pairwise fun a b => le2 a b = true := by
 have h := keysMk_srt f l
 unfold keys at h
 rw [List.pairwise_map] at h
 refine h.imp fun {a b} ⟨h1, h2⟩ => ?_
 unfold le2
 rw [if_neg h2]
 exact h1
def both (t u : PL) : PL := mkT (fun s => ledP u (ledP t s)) (keys t ++ keys u)
theorem keys_nm2 {t : PL} (h : Nm2 t) : ∀ s ∈ keys t, NmS s := fun s hs => by
 obtain ⟨p, hp, rfl⟩ := List.mem_map.mp hs
 exact (h p hp).1
end SH
end
section
namespace SH
open PySem PySem.Spec PyProof.Rows L2 DL
theorem keys_len (t : PL) : (keys t).length = t.length := by unfold keys; rw [List.length_map]
end SH
end
section
namespace SH
open PySem PySem.Spec PyProof.Rows L2 DL
structure Names (n : Nat) (l : List Str) : Prop where
 len : l.length ≤ n
 nd : l.Nodup
 nm : ∀ s ∈ l, NmS s
end SH
end
section
namespace SH
open PySem PySem.Spec PyProof.Rows L2 DL
def rot1 : List Str → List Str
 | [] => []
 | a :: q => q ++ [a]
structure Cyc (f : Str → Str) (r : List Str) : Prop where
 ne : r ≠ []
 go : r.map f = rot1 r
structure Part (f : Str → Str) (N : List Str) (rs : List (List Str)) : Prop where
 cyc : ∀ r ∈ rs, Cyc f r
 perm : rs.flatten.Perm N
structure Rnds (t : PL) (rs : List (List Str)) : Prop where
 cyc : ∀ r ∈ rs, Cyc (ledP t) r
 perm : rs.flatten.Perm (keys t)
 two : ∀ r ∈ rs, 2 ≤ r.length
 least : ∀ r ∈ rs, ∀ a q, r = a :: q → ∀ s ∈ q, ltN a s
 rise : (rs.map fun r => r.headD "").Pairwise ltN
section
variable {t : PL} {rs : List (List Str)}
end
end SH
end
section
namespace SH
open PySem PySem.Spec PyProof.Rows L2 DL
structure Rg2 (t : PL) (seen : List Str) (a : Str) (pre : List Str) (z : Str) : Prop where
 nd : (pre ++ [z]).Nodup
 sub : ∀ s ∈ pre ++ [z], s ∈ keys t
 no : ∀ s ∈ pre ++ [z], s ∉ seen
 go : a :: pre.map (ledP t) = pre ++ [z]
structure Sofar (t : PL) (i : Nat) (rs : List (List Str)) : Prop where
 cyc : ∀ r ∈ rs, Cyc (ledP t) r
 nd : rs.flatten.Nodup
 sub : ∀ s ∈ rs.flatten, s ∈ keys t
 all : ∀ s ∈ (keys t).take i, s ∈ rs.flatten
 least : ∀ r ∈ rs, ∀ a q, r = a :: q → ∀ s ∈ q, ltN a s
 rise : (rs.map fun r => r.headD "").Pairwise ltN
 hd : ∀ r ∈ rs, r.headD "" ∈ (keys t).take i
end SH
end
section
namespace SH
open PySem PySem.Spec PyProof.Rows L2 DL
theorem zinj {Z : PL} (n1 : (keys Z).Nodup) (pm : (Z.map (·.2)).Perm (keys Z)) {a b : Str} (e : ledP Z a = ledP Z b) : a = b := by
 have nd2 : (Z.map (·.2)).Nodup := pm.nodup_iff.mpr n1
 have one : ∀ {t : PL}, (t.map (·.2)).Nodup → ∀ p ∈ t, ∀ q ∈ t, p.2 = q.2 → p = q := fun {t} => by
  induction t with
  | nil => intro _ p hp; cases hp
  | cons r t ih =>
   intro n p hp q hq e
   rw [List.map_cons] at n
   obtain ⟨n1, n2⟩ := List.nodup_cons.mp n
   rcases List.mem_cons.mp hp with hp1 | hp1
   ·rcases List.mem_cons.mp hq with hq1 | hq1
    ·rw [hp1, hq1]
    ·exact absurd (by rw [← hp1, e]; exact List.mem_map_of_mem hq1) n1
   ·rcases List.mem_cons.mp hq with hq1 | hq1
    ·exact absurd (by rw [← hq1, ← e]; exact List.mem_map_of_mem hp1) n1
    ·exact ih n2 p hp1 q hq1 e
 have lk : ∀ {s : Str}, s ∈ keys Z → ledP Z s ∈ keys Z := fun {s} hs => by
  obtain ⟨p, hp, rfl⟩ := List.mem_map.mp hs
  rw [ledP_in n1 hp]
  exact pm.mem_iff.mp (List.mem_map_of_mem hp)
 by_cases ha : a ∈ keys Z
 ·by_cases hb : b ∈ keys Z
  ·obtain ⟨p, hp, rfl⟩ := List.mem_map.mp ha
   obtain ⟨q, hq, rfl⟩ := List.mem_map.mp hb
   rw [ledP_in n1 hp, ledP_in n1 hq] at e
   rw [one nd2 p hp q hq e]
  ·rw [ledP_out hb] at e
   exact absurd (by rw [← e]; exact lk ha) hb
 ·by_cases hb : b ∈ keys Z
  ·rw [ledP_out ha] at e
   exact absurd (by rw [e]; exact lk hb) ha
  ·rw [ledP_out ha, ledP_out hb] at e
   exact e
theorem keys_self {Z : PL} (n : (keys Z).Nodup) : Z = (keys Z).map fun s => (s, ledP Z s) := by
 unfold keys
 rw [List.map_map]
 have : ∀ p ∈ Z, ((fun s => (s, ledP Z s)) ∘ fun x : Str × Str => x.1) p = p := fun p hp => Prod.ext rfl (ledP_in n hp)
 rw [List.map_congr_left this, List.map_id']
theorem zip_keys {l o : List Str} (h : o.length = l.length) : keys (l.zip o) = l ∧ (l.zip o).map (·.2) = o := ⟨by
 unfold keys; exact List.map_fst_zip (by omega), List.map_snd_zip (by omega)⟩
theorem drawn_tail {q : List D} {n : Nat} {l o : List Str} {k w4 w5 w6 : Option OV} (hl : Names n l) (ho : o.Perm l) : ∃ t, Turn t ∧ (∀ s ∈ keys t, s ∈ l) ∧ (sRet (mD (mF1 tupD (mLstF (mFN sortO (mLstF (mLc [7, 8] (mZip (mVar 1) (mFrzV 3)) (tTup 2 (tsCons (tName 7) (tsCons (tName 8) tsNil))) p1__law_turn e2__law_turn)))))))
  [some (.lst q), some (.d (.list (l.map .str))), k, some (.lst (o.map .str)), w4, w5, w6, none, none] = .ok (.rt (.d (tD t))) [some (.lst q), some (.d (.list (l.map .str))), k, some (.d (.list (o.map .str))), w4, w5, w6, none, none] := by
 obtain ⟨z1, z2⟩ := zip_keys (l := l) (o := o) ho.length_eq
 have kn : (keys (l.zip o)).Nodup := by rw [z1]; exact hl.nd
 have kp : ((l.zip o).map (·.2)).Perm (keys (l.zip o)) := by rw [z1, z2]; exact ho
 have out : ∀ s, s ∉ l → ledP (l.zip o) s = s := fun s hs => ledP_out (by rw [z1]; exact hs)
 have T : Turn (mkT (ledP (l.zip o)) l) := turn_mk hl.nm out fun a b e => zinj kn kp e
 refine ⟨_, T, fun s hs => (mem_keysMk.mp hs).1, ?_⟩
 have zd : zipD (.list (l.map .str)) (.list (o.map .str)) = some ((l.zip o).map pd) := by
  show some (((l.map PyData.str).zip (o.map PyData.str)).map (fun p => PyData.tuple [p.1, p.2])) = _
  rw [List.zip_map, List.map_map]
  rfl
 have self := keys_self kn
 rw [z1] at self
 have nm : Nm2 (l.zip o) := fun p hp => by
  obtain ⟨h1, h2⟩ := List.of_mem_zip (a := p.1) (b := p.2) hp
  exact ⟨hl.nm _ h1, hl.nm _ (ho.mem_iff.mp h2)⟩
 have lc := lcGo_pure (vs := [7, 8]) (t := (tTup 2 (tsCons (tName 7) (tsCons (tName 8) tsNil)))) (tst := p1__law_turn) (e := e2__law_turn) (p := neP) (g := id) (ρ := [some (.lst q), some (.d (.list (l.map .str))), k, some (.d (.list (o.map .str))), w4, w5, w6, none, none]) (xs := (l.zip o).map pd) fun x hx => by
  obtain ⟨p, _, rfl⟩ := List.mem_map.mp hx
  refine ⟨[some (.lst q), some (.d (.list (l.map .str))), k, some (.d (.list (o.map .str))), w4, w5, w6, some (.d (.str p.1)), some (.d (.str p.2))], [some (.lst q), some (.d (.list (l.map .str))), k, some (.d (.list (o.map .str))), w4, w5, w6, some (.d (.str p.1)), some (.d (.str p.2))], by simp [pd], ?_, fun _ => rfl, fun _ => ⟨_, rfl, rfl⟩⟩
  simp [ne_s, neP, pd]
  try exact Iff.rfl
 rw [List.map_id] at lc
 have fe : ((l.zip o).map pd).filter neP = ((l.zip o).filter fun p => !decide (p.1 = p.2)).map pd := by
  rw [List.filter_map]; rfl
 have fs : ((l.zip o).filter fun p => !decide (p.1 = p.2)) = (l.filter fun s => !decide (s = ledP (l.zip o) s)).map fun s => (s, ledP (l.zip o) s) := by
  generalize ledP (l.zip o) = f at self ⊢
  rw [self, List.filter_map]
  rfl
 rw [fe] at lc
 have so := sortO_pd (l := (l.zip o).filter fun p => !decide (p.1 = p.2)) fun p hp => nm p (List.mem_filter.mp hp).1
 have se : sortP ((l.zip o).filter fun p => !decide (p.1 = p.2)) = mkT (ledP (l.zip o)) l := sortP_eq (by rw [fs]; exact (mkT_perm hl.nd).symm) (mkT_le2 _ _)
 rw [se] at so
 have tu : tupD (.list ((mkT (ledP (l.zip o)) l).map pd)) = some (tD (mkT (ledP (l.zip o)) l)) := rfl
 generalize tD (mkT (ledP (l.zip o)) l) = z at *
 generalize (mkT (ledP (l.zip o)) l).map pd = y at *
 generalize ((l.zip o).filter fun p => !decide (p.1 = p.2)).map pd = x at *
 generalize (l.zip o).map pd = v at *
 generalize l.map PyData.str = a at *
 generalize o.map PyData.str = b at *
 simp [zd, dataAt, lc, backE, so, tu]
theorem mem_ix2 {l : List Str} {i : Int} (h0 : 0 ≤ i) (h1 : i < l.length) : ixD (.list (l.map .str)) (.int i) = some (.str (l[i.toNat]'(by omega))) ∧ ixN (l.map PyData.str).length i = some i.toNat := by
 have e : ixN (l.map PyData.str).length i = some i.toNat := by
  unfold ixN
  rw [if_pos h0, if_pos (by rw [List.length_map]; exact h1)]
 refine ⟨?_, e⟩
 obtain ⟨x, e1, e2⟩ := atI_nat (xs := l.map PyData.str) h0 (by rw [List.length_map]; exact h1)
 rw [List.getElem?_map, List.getElem?_eq_getElem (by omega)] at e2
 simp at e2
 rw [← e2] at e1
 exact e1
theorem swap_perm {α : Type} (l : List α) {i j : Nat} (hi : i < l.length) (hj : j < l.length) : ((l.set i l[j]).set j l[i]).Perm l := by
 exact List.set_set_perm hi hj
theorem perm_map {ys : List D} {l : List Str} (h : ys.Perm (l.map .str)) : ∃ o : List Str, o.Perm l ∧ ys = o.map .str := by
 have st : ∀ y ∈ ys, ∃ s, y = .str s := fun y hy => by
  obtain ⟨s, _, e⟩ := List.mem_map.mp (h.mem_iff.mp hy)
  exact ⟨s, e.symm⟩
 let un : D → Str := fun x => match x with
  | .str s => s
  | _ => ""
 refine ⟨ys.map un, ?_, ?_⟩
 ·have := h.map un
  rw [List.map_map] at this
  have e : (un ∘ PyData.str) = id := rfl
  rw [e, List.map_id] at this
  exact this
 ·rw [List.map_map]
  have : ∀ y ∈ ys, (PyData.str ∘ un) y = y := fun y hy => by
   obtain ⟨s, rfl⟩ := st y hy
   rfl
  rw [List.map_congr_left this, List.map_id']
theorem drawn_ok {B : Nat} (hB : B < 2 ^ 47) {p : List D} (h : Pile B p) {n : Nat} {l : List Str} (hl : Names n l) (h1 : 1 ≤ l.length) (h6 : n ≤ 8) : ∃ (t : PL) (p' : List D), Turn t ∧ (∀ s ∈ keys t, s ∈ l) ∧ Pile (B + 12) p' ∧ f__law_turn [.lst p, .d (.list (l.map .str))] = .ok (.d (tD t)) [some (.lst p'), some (.d (.list (l.map .str)))] := by
 have h6 : l.length ≤ 8 := Nat.le_trans hl.len h6
 obtain ⟨kd, p1, q0, q1, hp1, e1⟩ := take_ok (by omega) h 3 (by omega) (by omega)
 have len : lenD (.list (l.map .str)) = some (.int (l.length : Nat)) := by
  show some (PyData.int ((l.map PyData.str).length : Nat)) = _
  rw [List.length_map]
 have ls : listD (.list (l.map .str)) = some (l.map .str) := rfl
 have : kd = 0 ∨ kd = 1 ∨ kd = 2 := by omega
 rcases this with rfl | rfl | rfl
 ·obtain ⟨t, T, hk, et⟩ := drawn_tail (q := p1) (k := some (.d (.int 0))) (w4 := none) (w5 := none) (w6 := none) hl (.refl l)
  refine ⟨t, p1, T, hk, hp1.up (by omega), ?_⟩
  generalize tD t = z at *
  generalize l.map PyData.str = a at *
  simp only [f__law_turn, m__law_turn, fnOf]
  simp only [sSeq_d]
  simp [e1, eq_i, ls, -sRet_d]
  rw [et]
  simp [outsOf]
 ·obtain ⟨i, p2, i0, i1, hp2, e2⟩ := take_ok (by omega) hp1 (l.length : Nat) (by omega) (by omega)
  obtain ⟨j, p3, j0, j1, hp3, e3⟩ := take_ok (by omega) hp2 (l.length : Nat) (by omega) (by omega)
  obtain ⟨x1, ni⟩ := mem_ix2 (l := l) i0 i1
  obtain ⟨y1, nj⟩ := mem_ix2 (l := l) j0 j1
  have hi : i.toNat < l.length := by omega
  have hj : j.toNat < l.length := by omega
  have pm := swap_perm l hi hj
  obtain ⟨t, T, hk, et⟩ := drawn_tail (q := p3) (k := some (.d (.int 1))) (w4 := some (.d (.int i))) (w5 := some (.d (.int j))) (w6 := some (.d (.str l[i.toNat]))) hl pm
  refine ⟨t, p3, T, hk, hp3.up (by omega), ?_⟩
  rw [List.map_set, List.map_set] at et
  have nj2 : ixN ((l.map PyData.str).set i.toNat (.str l[j.toNat])).length j = some j.toNat := by rw [List.length_set]; exact nj
  generalize l[i.toNat] = u at *
  generalize l[j.toNat] = v at *
  generalize tD t = z at *
  generalize l.map PyData.str = a at *
  simp only [f__law_turn, m__law_turn, fnOf]
  simp only [sSeq_d]
  simp [e1, eq_i, ls, len, e2, e3, x1, y1, ni, nj, nj2, -sRet_d]
  rw [et]
  simp [outsOf]
 ·obtain ⟨ys, p2, pm, hp2, e2⟩ := order_ok (by omega) hp1 (l.map .str) (by rw [List.length_map]; omega) fun x hx => by
   obtain ⟨s, hs, rfl⟩ := List.mem_map.mp hx
   exact (hl.nm s hs).lay
  obtain ⟨o, ho, hm⟩ := perm_map pm
  subst hm
  obtain ⟨t, T, hk, et⟩ := drawn_tail (q := p2) (k := some (.d (.int 2))) (w4 := none) (w5 := none) (w6 := none) hl ho
  refine ⟨t, p2, T, hk, hp2.up (by rw [List.length_map]; omega), ?_⟩
  generalize tD t = z at *
  generalize l.map PyData.str = a at *
  generalize o.map PyData.str = b at *
  simp only [f__law_turn, m__law_turn, fnOf]
  simp only [sSeq_d]
  simp [e1, eq_i, ls, e2, -sRet_d]
  rw [et]
  simp [outsOf]
end SH
end
section
namespace SH
open PySem PySem.Spec PyProof.Rows L2 DL
theorem range_ok (n : Nat) (h : n ≤ 1000) : range1 (.int n) = some (rangeL 0 n) := by
 have big := size_big
 have h : (n : Int).toNat ≤ sizeLine ∧ -(2 ^ 62) ≤ (n : Int) := ⟨by omega, by omega⟩
 have e : range1 (.int n) = if (n : Int).toNat ≤ sizeLine ∧ -(2 ^ 62) ≤ (n : Int) then some (rangeL 0 (n : Int).toNat) else none := rfl
 rw [e, if_pos h, Int.toNat_natCast]
theorem range_at {n i : Nat} {x : D} (h : (rangeL 0 n)[i]? = some x) : i < n ∧ x = .int (i : Nat) := by
 have hi : i < n := by
  have := (List.getElem?_eq_some_iff.mp h).1
  unfold rangeL at this
  simpa using this
 refine ⟨hi, ?_⟩
 unfold rangeL at h
 rw [List.getElem?_map, List.getElem?_range hi] at h
 simpa using h.symm
theorem range_len (n : Nat) : (rangeL 0 n).length = n := by unfold rangeL; simp
theorem name_at {l : List Str} {i : Int} (h0 : 0 ≤ i) (h1 : i < l.length) : ∃ s ∈ l, ixD (.list (l.map .str)) (.int i) = some (.str s) := by
 obtain ⟨x, e, hx⟩ := mem_ix (xs := l.map .str) h0 (by rw [List.length_map]; exact h1)
 obtain ⟨s, hs, rfl⟩ := List.mem_map.mp hx
 exact ⟨s, hs, e⟩
theorem len_m {α : Type} (f : α → D) (l : List α) : lenD (.list (l.map f)) = some (.int (l.length : Nat)) := by
 show some (PyData.int ((l.map f).length : Nat)) = _
 rw [List.length_map]
theorem il (xs : List D) : itemsD (.list xs) = some xs := rfl
theorem Names.fit {n : Nat} {l : List Str} (h : Names n l) {t : PL} (T : Turn t) (hk : ∀ s ∈ keys t, s ∈ l) : t.length ≤ n := by
 have := nodup_le (ltN_nodup T.srt) hk
 rw [keys_len] at this
 exact Nat.le_trans this h.len
end SH
end
section
namespace SH
open PySem PySem.Spec PyProof.Rows L2 DL
end SH
end
section
namespace SH
open PySem PySem.Spec PyProof.Rows L2 DL
end SH
end
section
namespace SH
open PySem PySem.Spec PyProof.Rows L2 DL
end SH
end
section
namespace SH
open PySem PySem.Spec PyProof.Rows L2 DL
theorem shaped_ints (l : List Int) : SeqAt.shaped (.list (l.map .int)) = true := shaped_list fun x hx => by
 obtain ⟨s, hs, rfl⟩ := List.mem_map.mp hx
 exact ⟨by rw [PyData.canLay0], by rw [PyData.depth]; omega⟩
section
variable {t u v : PL}
end
end SH
end
section
namespace ST
open PySem PySem.Spec PyProof.Rows L2 DL SH
def isGt (c : Nat) : Prop := 65 ≤ c ∧ c ≤ 90
instance (c : Nat) : Decidable (isGt c) := inferInstanceAs (Decidable (_ ∧ _))
abbrev gts : Str := "ABCDEFGHIJKLMNOPQRSTUVWXYZ"
theorem gts_cps : gts.cps.toList = (List.range 26).map (65 + ·) := by decide +kernel
theorem mem_gts (c : Nat) : c ∈ gts.cps.toList ↔ isGt c := by
 rw [gts_cps, List.mem_map]
 constructor
 ·rintro ⟨k, hk, rfl⟩
  have := List.mem_range.mp hk
  exact ⟨by omega, by omega⟩
 ·rintro ⟨h1, h2⟩
  exact ⟨c - 65, List.mem_range.mpr (by omega), by omega⟩
theorem gts_len : gts.length = 26 := by decide +kernel
structure HlS (s : Str) : Prop where
 len : s.length ≤ 8
 hd : ∃ c r, s.cps.toList = c :: r ∧ isGt c
 all : ∀ c ∈ s.cps.toList, isGt c ∨ isFg c
theorem hl_one {c : Nat} (h : isGt c) : HlS ⟨#[c]⟩ := ⟨by simp [Str.length], ⟨c, [], rfl, h⟩, fun d hd => by simp at hd; subst hd; exact .inl h⟩
theorem hl_app {s : Str} {c : Nat} (h : HlS s) (hl : s.length < 8) (hc : isGt c ∨ isFg c) : HlS (s ++ ⟨#[c]⟩) := by
 refine ⟨by rw [app_len]; simp [Str.length] at hl ⊢; omega, ?_, fun d hd => ?_⟩
 ·obtain ⟨a, r, e, h1⟩ := h.hd
  exact ⟨a, r ++ [c], by rw [app_cps, e]; rfl, h1⟩
 ·rw [app_cps] at hd
  rcases List.mem_append.mp hd with hd | hd
  ·exact h.all d hd
  ·simp at hd
   subst hd
   exact hc
def okG (c : Nat) : Bool := decide (isGt c) || decide (isFg c)
def hlS (s : Str) : Bool := decide (s.length ≤ 8) && (match s.cps.toList with
 | [] => false
 | c :: _ => decide (isGt c)) && s.cps.toList.all okG
def hlB : D → Bool
 | .str s => hlS s
 | _ => false
def gCg : D → D
 | .str s => .bool (okG (s.cps.toList.headD 0))
 | _ => .none
theorem in_gts (c : Nat) : inD (.str ⟨#[c]⟩) (.str gts) = some (.bool (decide (isGt c))) := by
 have : strIn ⟨#[c]⟩ gts = decide (isGt c) := by rw [strIn_one]; exact decide_eq_decide.mpr (mem_gts c)
 show some (PyData.bool (strIn ⟨#[c]⟩ gts)) = _
 rw [this]
theorem nin_gts (c : Nat) : ninD (.str ⟨#[c]⟩) (.str gts) = some (.bool (!decide (isGt c))) := by
 have : strIn ⟨#[c]⟩ gts = decide (isGt c) := by rw [strIn_one]; exact decide_eq_decide.mpr (mem_gts c)
 show some (PyData.bool (!strIn ⟨#[c]⟩ gts)) = _
 rw [this]
theorem add_gf : addD (.str gts) (.str fig) = some (.str (gts ++ fig)) := add_str (by rw [gts_len, fig_len]; omega)
theorem bools_mapg (l : List Nat) : boolsD ((l.map fun c => PyData.str ⟨#[c]⟩).map gCg) = some (l.map okG) := by
 induction l with
 | nil => rfl
 | cons c l ih =>
  simp only [List.map_cons]
  show (boolsD ((l.map fun c => PyData.str ⟨#[c]⟩).map gCg)).map (okG c :: ·) = _
  rw [ih]
  rfl
theorem is_called_g (x : D) (h : FitM x) : f_is_called [.d x, .d (.str gts)] = .ok (.d (.bool (hlB x))) [some (.d x), some (.d (.str gts))] := by
 have isi := isi_str x h
 cases x with
 | str s =>
  have h : FitS s := h
  have big := size_big
  have hl : s.length ≤ sizeLine := by have := h.len; omega
  have len : lenD (.str s) = some (.int s.length) := if_pos hl
  by_cases e0 : s.cps.toList = []
  ·have l0 : s.length = 0 := by rw [← str_len, e0]; rfl
   have : hlB (.str s) = false := by simp [hlB, hlS, e0]
   rw [this]
   simp [f_is_called, m_is_called, fnOf, isi, isStrB, len, l0, leD, outsOf]
  ·obtain ⟨c, r, e⟩ := List.exists_cons_of_ne_nil e0
   have l1 : 1 ≤ s.length := by rw [← str_len, e]; simp
   have x0 := ix_0 hl e
   have l1i : (1 : Int) ≤ (s.length : Int) := by omega
   by_cases l8 : s.length ≤ 8
   ·have l8i : (s.length : Int) ≤ 8 := by omega
    by_cases hc : isGt c
    ·have it : itemsD (.str s) = some (charsD s) := if_pos hl
     have nm : hlB (.str s) = s.cps.toList.all okG := by simp [hlB, hlS, l8, e, hc]
     have lc := lcGo_pure (vs := [2]) (t := tName 2) (tst := mYes) (e := mOrV (mBin inD (mVar 2) (mVar 1)) (mBin inD (mVar 2) (mC (.str fig)))) (p := fun _ => true) (g := gCg) (ρ := [some (.d (.str s)), some (.d (.str gts)), none]) (xs := charsD s) fun x hx => by
       unfold charsD at hx
       obtain ⟨d, hd, rfl⟩ := List.mem_map.mp hx
       refine ⟨_, _, rfl, ⟨rfl, fun z => absurd z (by simp), fun _ => ⟨[some (.d (.str s)), some (.d (.str gts)), some (.d (.str ⟨#[d]⟩))], ?_, rfl⟩⟩⟩
       by_cases q1 : isGt d <;> simp [in_gts, in_fig, q1, okG, gCg]
     have fi : (charsD s).filter (fun _ => true) = charsD s := List.filter_eq_self.mpr fun _ _ => rfl
     rw [fi] at lc
     have bl := bools_mapg s.cps.toList
     have al : allD (.list ((charsD s).map gCg)) = some (.bool (s.cps.toList.all okG)) := by
      simp only [allD, charsD, bl]
      simp
     rw [nm]
     simp [f_is_called, m_is_called, fnOf, isi, isStrB, len, l1i, l8i, leD, x0, nin_gts, hc, it, dataAt, lc, al, backE, outsOf]
    ·have nm : hlB (.str s) = false := by simp [hlB, hlS, e, hc]
     rw [nm]
     simp [f_is_called, m_is_called, fnOf, isi, isStrB, len, l1i, l8i, leD, x0, nin_gts, hc, outsOf]
   ·have nm : hlB (.str s) = false := by simp [hlB, hlS, l8]
    have l8i : ¬ (s.length : Int) ≤ 8 := by omega
    rw [nm]
    simp [f_is_called, m_is_called, fnOf, isi, isStrB, len, l1i, l8i, leD, outsOf]
 | _ => simp [f_is_called, m_is_called, fnOf, isi, isStrB, isStrB, hlB, outsOf]
theorem is_hole_ok (x : D) (h : FitM x) : f_is_hole [.d x] = .ok (.d (.bool (hlB x))) [some (.d x)] := by
 simp [f_is_hole, m_is_hole, fnOf, is_called_g x h, outsOf]
theorem HlS.fit {s : Str} (h : HlS s) : FitS s := ⟨by have := h.len; omega, sOk_iff.mpr fun c hc => by
 rcases h.all c hc with h | h
 ·have := h.2; omega
 ·have := h.2; omega⟩
theorem hlS_iff {s : Str} : hlS s = true ↔ HlS s := by
 unfold hlS
 constructor
 ·intro h
  rw [Bool.and_eq_true, Bool.and_eq_true, decide_eq_true_eq] at h
  obtain ⟨⟨h1, h2⟩, h3⟩ := h
  refine ⟨h1, ?_, fun c hc => ?_⟩
  ·cases e : s.cps.toList with
   | nil => rw [e] at h2; cases h2
   | cons c r => rw [e] at h2; exact ⟨c, r, rfl, of_decide_eq_true h2⟩
  ·have := List.all_eq_true.mp h3 c hc
   simpa [okG] using this
 ·intro h
  obtain ⟨c, r, e, hc⟩ := h.hd
  rw [Bool.and_eq_true, Bool.and_eq_true, decide_eq_true_eq]
  refine ⟨⟨h.len, by rw [e]; exact decide_eq_true hc⟩, List.all_eq_true.mpr fun c hc => ?_⟩
  have := h.all c hc
  simpa [okG] using this
end ST
end
section
namespace ST
open PySem PySem.Spec PyProof.Rows L2 DL SH
def termN : Nat → D → Bool
 | 0, _ => false
 | n + 1, x => match x with
  | .tuple [.str k, y] => decide (k = "name") && nmB y
  | .tuple [.str k, a, b] => if k = "hole" then turnB a && hlB b else if k = "shut" then nmB a && termN n b else decide (k = "sign") && (nmB a && match b with
   | .tuple ys => ys.all (termN n)
   | _ => false)
  | _ => false
def partsT : D → List D
 | .tuple xs => xs
 | _ => []
def FitT : Nat → D → Prop
 | 0, _ => False
 | n + 1, x => FitM x ∧ (partsT x).length ≤ 20 ∧ (∀ y ∈ partsT x, FitM y) ∧ ∀ k b c, x = .tuple [.str k, b, c] → (k = "hole" → Fit b) ∧ (k = "shut" → FitT n c) ∧ (k = "sign" → (partsT c).length ≤ 20 ∧ ∀ y ∈ partsT c, FitT n y)
theorem isi_tupM (x : D) (h : FitM x) : isiD .tup x = some (.bool (isTupB x)) := isi_tup x fun kvs e => by subst e; exact h
theorem nin23 (n : Nat) : ninD (.int (n : Int)) (.tuple [.int 2, .int 3]) = some (.bool (!(decide (n = 2) || decide (n = 3)))) := by
 have e : ninD (.int (n : Int)) (.tuple [.int 2, .int 3]) = (if SeqAt.shaped (.int (n : Int)) = true ∧ SeqAt.shaped (.list [.int 2, .int 3]) = true then some ([PyData.int 2, .int 3].any fun y => PyData.eqv y (.int (n : Int))) else none).map fun b => .bool (!b) := rfl
 have s1 : SeqAt.shaped (.int (n : Int)) = true := by
  rw [SeqAt.shaped, PyData.canLay0, PyData.depth]; rfl
 have s2 : SeqAt.shaped (.list [.int 2, .int 3]) = true := shaped_ints [2, 3]
 rw [e, if_pos ⟨s1, s2⟩, Option.map_some]
 have a : ([PyData.int 2, .int 3].any fun y => PyData.eqv y (.int (n : Int))) = (decide (n = 2) || decide (n = 3)) := by
  simp only [List.any_cons, List.any_nil, PyData.eqv, Bool.or_false]
  have h2 : ((2 : Int) == (n : Int)) = decide (n = 2) := by
   by_cases h : n = 2
   ·subst h; rfl
   ·have : ¬ (2 : Int) = (n : Int) := by omega
    simp [h, this]
  have h3 : ((3 : Int) == (n : Int)) = decide (n = 3) := by
   by_cases h : n = 3
   ·subst h; rfl
   ·have : ¬ (3 : Int) = (n : Int) := by omega
    simp [h, this]
  rw [h2, h3]
 rw [a]
theorem nin0 : ninD (.int 0) (.tuple [.int 2, .int 3]) = some (.bool true) := nin23 0
theorem nin1 : ninD (.int 1) (.tuple [.int 2, .int 3]) = some (.bool true) := nin23 1
theorem nin2 : ninD (.int 2) (.tuple [.int 2, .int 3]) = some (.bool false) := nin23 2
theorem nin3 : ninD (.int 3) (.tuple [.int 2, .int 3]) = some (.bool false) := nin23 3
theorem lenT (xs : List D) : lenD (.tuple xs) = some (.int (xs.length : Nat)) := rfl
theorem is_term_ok : ∀ (n : Nat) (x : D), FitT n x → f_is_term n [.d x] = .ok (.d (.bool (termN n x))) [some (.d x)]
 | 0, _, h => h.elim
 | n + 1, x, h => by
  obtain ⟨hm, hl, hp, h3⟩ := h
  have isx := isi_tupM x hm
  show fnOf 5 1 [] (m_is_term (f_is_term n)) [.d x] = _
  cases x with
  | tuple xs =>
   have hp : ∀ y ∈ xs, FitM y := hp
   match xs, hp, h3, isx with
   | [], _, _, isx =>
    have l := nin0
    simp [m_is_term, fnOf, isx, isTupB, lenT, l, termN, outsOf]
   | [a], _, _, isx =>
    have l := nin1
    simp [m_is_term, fnOf, isx, isTupB, lenT, l, termN, outsOf]
   | [k, a], hp, _, isx =>
    have l := nin2
    have l2 := eq_i 2 2
    have i0 : ixD (.tuple [k, a]) (.int 0) = some k := rfl
    have i1 : ixD (.tuple [k, a]) (.int 1) = some a := rfl
    have ik := isi_str k (hp k (by simp))
    have na := is_name_ok a (hp a (by simp))
    cases k with
    | str k =>
     by_cases e : k = "name"
     ·subst e
      simp [m_is_term, fnOf, isx, isTupB, lenT, l, l2, i0, i1, ik, isStrB, eq_s, na, termN, outsOf]
     ·simp [m_is_term, fnOf, isx, isTupB, lenT, l, l2, i0, i1, ik, isStrB, eq_s, e, na, termN, outsOf]
    | _ => simp [m_is_term, fnOf, isx, isTupB, lenT, l, l2, i0, i1, ik, isStrB, termN, outsOf]
   | [k, a, b], hp, h3, isx =>
    have l := nin3
    have l2 := eq_i 3 2
    have i0 : ixD (.tuple [k, a, b]) (.int 0) = some k := rfl
    have ik := isi_str k (hp k (by simp))
    have na := is_name_ok a (hp a (by simp))
    have hb0 := is_hole_ok b (hp b (by simp))
    have isb := isi_tupM b (hp b (by simp))
    cases k with
    | str k =>
     obtain ⟨ch, cs, cg⟩ := h3 k a b rfl
     by_cases e1 : k = "hole"
     ·subst e1
      have ta := is_turn_ok a (ch rfl)
      cases h1 : turnB a <;> (rw [h1] at ta; simp [m_is_term, fnOf, isx, isTupB, lenT, l, l2, i0, ik, isStrB, eq_s, sTgt, ta, hb0, termN, h1, outsOf])
     ·by_cases e2 : k = "shut"
      ·subst e2
       have tb := is_term_ok n b (cs rfl)
       cases h1 : nmB a <;> (rw [h1] at na; simp [m_is_term, fnOf, isx, isTupB, lenT, l, l2, i0, ik, isStrB, eq_s, sTgt, na, tb, termN, h1, e1, outsOf])
      ·by_cases e3 : k = "sign"
       ·subst e3
        obtain ⟨lb, hb⟩ := cg rfl
        cases h1 : nmB a with
        | false => rw [h1] at na; simp [m_is_term, fnOf, isx, isTupB, lenT, l, l2, i0, ik, isStrB, eq_s, sTgt, na, termN, h1, e1, e2, outsOf]
        | true =>
         rw [h1] at na
         cases b with
         | tuple ys =>
          have lc := lcGo_pure (vs := [4]) (t := tName 4) (tst := mYes) (e := e1_is_term (f_is_term n)) (p := fun _ => true) (g := fun y => .bool (termN n y)) (ρ := [some (.d (.tuple [.str "sign", a, .tuple ys])), some (.d (.str "sign")), some (.d a), some (.d (.tuple ys)), none]) (xs := ys) fun y hy =>
           ⟨[some (.d (.tuple [.str "sign", a, .tuple ys])), some (.d (.str "sign")), some (.d a), some (.d (.tuple ys)), some (.d y)], [some (.d (.tuple [.str "sign", a, .tuple ys])), some (.d (.str "sign")), some (.d a), some (.d (.tuple ys)), some (.d y)], rfl, rfl, fun z => (by cases z), fun _ => ⟨[some (.d (.tuple [.str "sign", a, .tuple ys])), some (.d (.str "sign")), some (.d a), some (.d (.tuple ys)), some (.d y)], by
            have := is_term_ok n y (hb y hy)
            simp [this], rfl⟩⟩
          rw [filt_all] at lc
          have al := all_q (termN n) ys
          have it : itemsD (.tuple ys) = some ys := rfl
          have tv : termN (n + 1) (.tuple [.str "sign", a, .tuple ys]) = ys.all (termN n) := by
           simp [termN, e1, e2, h1]
          rw [tv]
          generalize ys.all (termN n) = r at *
          generalize ys.map (fun y => PyData.bool (termN n y)) = z at *
          simp [m_is_term, fnOf, isx, isTupB, lenT, l, l2, i0, ik, isStrB, eq_s, sTgt, na, isb, e1, e2, it, dataAt, lc, backE, al, outsOf]
         | _ => simp [m_is_term, fnOf, isx, isTupB, lenT, l, l2, i0, ik, isStrB, eq_s, sTgt, na, isb, termN, h1, e1, e2, outsOf]
       ·simp [m_is_term, fnOf, isx, isTupB, lenT, l, l2, i0, ik, isStrB, eq_s, sTgt, termN, e1, e2, e3, outsOf]
    | _ => simp [m_is_term, fnOf, isx, isTupB, lenT, l, i0, ik, isStrB, termN, outsOf]
   | a :: b :: c :: d :: r, _, _, isx =>
    have l := nin23 (r.length + 4)
    have q : (!(decide (r.length + 4 = 2) || decide (r.length + 4 = 3))) = true := by simp
    rw [q] at l
    have lx : lenD (.tuple (a :: b :: c :: d :: r)) = some (.int ((r.length + 4 : Nat) : Int)) := rfl
    have tv : termN (n + 1) (.tuple (a :: b :: c :: d :: r)) = false := by simp [termN]
    rw [tv]
    have isx : isiD .tup (.tuple (a :: b :: c :: d :: r)) = some (.bool true) := isx
    generalize r.length + 4 = m at l lx
    generalize PyData.tuple (a :: b :: c :: d :: r) = z at *
    simp [m_is_term, fnOf, isx, lx]
    simp [l, outsOf]
  | _ => simp [m_is_term, fnOf, isx, isTupB, termN, outsOf]
end ST
end
section
namespace ST
open PySem PySem.Spec PyProof.Rows L2 DL SH
theorem lt_i (i j : Int) : ltD (.int i) (.int j) = some (.bool (decide (i < j))) := rfl
end ST
end
section
namespace ST
open PySem PySem.Spec PyProof.Rows L2 DL SH
inductive Tm where
 | nm (s : Str)
 | hole (t : PL) (x : Str)
 | shut (a : Str) (b : Tm)
 | sign (a : Str) (ts : List Tm)
mutual
def tmD : Tm → D
 | .nm s => .tuple [.str "name", .str s]
 | .hole t x => .tuple [.str "hole", tD t, .str x]
 | .shut a b => .tuple [.str "shut", .str a, tmD b]
 | .sign a ts => .tuple [.str "sign", .str a, .tuple (tmDs ts)]
def tmDs : List Tm → List D
 | [] => []
 | t :: ts => tmD t :: tmDs ts
end
theorem tmDs_map : ∀ ts : List Tm, tmDs ts = ts.map tmD
 | [] => by rw [tmDs]; rfl
 | t :: ts => by rw [tmDs, tmDs_map ts]; rfl
def OkT : Nat → Tm → Prop
 | 0, _ => False
 | _ + 1, .nm s => NmS s
 | _ + 1, .hole t x => Turn t ∧ t.length ≤ 6 ∧ HlS x
 | n + 1, .shut a b => NmS a ∧ OkT n b
 | n + 1, .sign a ts => NmS a ∧ ts.length ≤ 6 ∧ ∀ b ∈ ts, OkT n b
def innerT : Tm → List Tm
 | .shut _ b => [b]
 | .sign _ ts => ts
 | _ => []
theorem OkT.inner {n : Nat} {t : Tm} (h : OkT (n + 1) t) : ∀ b ∈ innerT t, OkT n b := by
 cases t with
 | nm s => intro b hb; cases hb
 | hole t x => intro b hb; cases hb
 | shut a b => intro c hc; rw [List.mem_singleton.mp hc]; exact h.2
 | sign a ts => exact h.2.2
theorem OkT.up {n : Nat} : ∀ {t : Tm}, OkT n t → OkT (n + 1) t := by
 induction n with
 | zero => intro t h; exact h.elim
 | succ n ih =>
  intro t h
  cases t with
  | nm s => exact h
  | hole t x => exact h
  | shut a b => exact ⟨h.1, ih h.2⟩
  | sign a ts => exact ⟨h.1, h.2.1, fun b hb => ih (h.2.2 b hb)⟩
theorem OkT.term {n : Nat} : ∀ {t : Tm}, OkT n t → termN n (tmD t) = true := by
 induction n with
 | zero => intro t h; exact h.elim
 | succ n ih =>
  intro t h
  cases t with
  | nm s =>
   rw [tmD]
   have : nmB (.str s) = true := nmB_of h
   simp [termN, this]
  | hole t x =>
   rw [tmD]
   have h1 := h.1.isB
   have h2 : hlB (.str x) = true := hlS_iff.mpr h.2.2
   simp [termN, h1, h2]
  | shut a b =>
   rw [tmD]
   have h1 := nmB_of h.1
   have h2 := ih h.2
   have d : ¬ (("shut" : Str) = "hole") := by decide
   simp [termN, h1, h2, d]
  | sign a ts =>
   rw [tmD, tmDs_map]
   have h1 := nmB_of h.1
   have h2 : (ts.map tmD).all (termN n) = true := List.all_eq_true.mpr fun y hy => by
    obtain ⟨b, hb, rfl⟩ := List.mem_map.mp hy
    exact ih (h.2.2 b hb)
   have d1 : ¬ (("sign" : Str) = "hole") := by decide
   have d2 : ¬ (("sign" : Str) = "shut") := by decide
   simp only [termN, d1, d2, if_false, h1, h2]
   rfl
theorem inner_ok (t : Tm) : f_inner [.d (tmD t)] = .ok (.d (.tuple ((innerT t).map tmD))) [some (.d (tmD t))] := by
 have n1 : ¬ (("name" : Str) = "shut") := by decide
 have n2 : ¬ (("name" : Str) = "sign") := by decide
 have n3 : ¬ (("hole" : Str) = "shut") := by decide
 have n4 : ¬ (("hole" : Str) = "sign") := by decide
 have n5 : ¬ (("sign" : Str) = "shut") := by decide
 cases t with
 | nm s =>
  rw [tmD]
  have i0 : ixD (.tuple [.str "name", .str s]) (.int 0) = some (.str "name") := rfl
  simp [f_inner, m_inner, fnOf, i0, eq_s, n1, n2, innerT, outsOf]
 | hole t x =>
  rw [tmD]
  have i0 : ixD (.tuple [.str "hole", tD t, .str x]) (.int 0) = some (.str "hole") := rfl
  simp [f_inner, m_inner, fnOf, i0, eq_s, n3, n4, innerT, outsOf]
 | shut a b =>
  rw [tmD]
  have i0 : ixD (.tuple [.str "shut", .str a, tmD b]) (.int 0) = some (.str "shut") := rfl
  have i2 : ixD (.tuple [.str "shut", .str a, tmD b]) (.int 2) = some (tmD b) := rfl
  simp [f_inner, m_inner, fnOf, i0, i2, eq_s, innerT, outsOf]
 | sign a ts =>
  rw [tmD, tmDs_map]
  have i0 : ixD (.tuple [.str "sign", .str a, .tuple (ts.map tmD)]) (.int 0) = some (.str "sign") := rfl
  have i2 : ixD (.tuple [.str "sign", .str a, .tuple (ts.map tmD)]) (.int 2) = some (.tuple (ts.map tmD)) := rfl
  simp [f_inner, m_inner, fnOf, i0, i2, eq_s, n5, innerT, outsOf]
def everyP : Nat → Tm → List Tm
 | 0, _ => []
 | n + 1, t => t :: (innerT t).flatMap (everyP n)
theorem every_ok : ∀ (n : Nat) (t : Tm), OkT n t → (everyP n t).length ≤ 500 → f_every_part n [.d (tmD t)] = .ok (.lst ((everyP n t).map tmD)) [some (.d (tmD t))]
 | 0, _, h, _ => h.elim
 | n + 1, t, h, hl => by
  have hi := inner_ok t
  have hl : ((innerT t).flatMap (everyP n)).length + 1 ≤ 500 := hl
  have it : itemsD (.tuple ((innerT t).map tmD)) = some ((innerT t).map tmD) := rfl
  obtain ⟨ρ', f1, w2, rfl⟩ := forGo_inv (t := tName 2) (b := b1_every_part (f_every_part n)) (xs := (innerT t).map tmD) (ρ := [some (.d (tmD t)), some (.lst [tmD t]), none])
   (fun i ρ => ∃ w2, ρ = [some (.d (tmD t)), some (.lst ((t :: ((innerT t).take i).flatMap (everyP n)).map tmD)), w2]) ⟨none, rfl⟩ fun i x ρ hx ⟨w2, e⟩ => by
    subst e
    rw [List.getElem?_map] at hx
    obtain ⟨b, hb, rfl⟩ := Option.map_eq_some_iff.mp hx
    have hm := List.mem_of_getElem? hb
    have tk : ((innerT t).take (i + 1)).flatMap (everyP n) = ((innerT t).take i).flatMap (everyP n) ++ everyP n b := by
     rw [List.take_add_one, hb, List.flatMap_append]; simp
    have le : (((innerT t).take (i + 1)).flatMap (everyP n)).length ≤ 500 := by
     have e3 : (innerT t).flatMap (everyP n) = ((innerT t).take (i + 1)).flatMap (everyP n) ++ ((innerT t).drop (i + 1)).flatMap (everyP n) := by
      rw [← List.flatMap_append, List.take_append_drop]
     rw [e3, List.length_append] at hl
     omega
    rw [tk, List.length_append] at le
    have ih := every_ok n b (h.inner b hm) (by omega)
    have ex := ext_l (a := (t :: ((innerT t).take i).flatMap (everyP n)).map tmD) (b := (everyP n b).map tmD) (by rw [List.length_map, List.length_map, List.length_cons]; omega)
    rw [← List.map_append, List.cons_append, ← tk] at ex
    refine ⟨[some (.d (tmD t)), some (.lst ((t :: ((innerT t).take i).flatMap (everyP n)).map tmD)), some (.d (tmD b))], [some (.d (tmD t)), some (.lst ((t :: ((innerT t).take (i + 1)).flatMap (everyP n)).map tmD)), some (.d (tmD b))], rfl, ?_, some (.d (tmD b)), rfl⟩
    generalize (t :: ((innerT t).take (i + 1)).flatMap (everyP n)).map tmD = z1 at *
    generalize (t :: ((innerT t).take i).flatMap (everyP n)).map tmD = z2 at *
    generalize (everyP n b).map tmD = z3 at *
    simp [ih, ex]
  rw [List.length_map, List.take_length] at f1
  have ev : everyP (n + 1) t = t :: (innerT t).flatMap (everyP n) := rfl
  rw [ev]
  show fnOf 3 1 [] (m_every_part (f_every_part n)) [.d (tmD t)] = _
  generalize (t :: (innerT t).flatMap (everyP n)).map tmD = z1 at *
  generalize (innerT t).map tmD = z2 at *
  generalize tmD t = z3 at *
  refine fn_ok (ρ' := [some (.d z3), none, w2]) rfl ?_ rfl
  unfold m_every_part
  refine (seq_nx (ρ1 := [some (.d z3), some (.lst [z3]), none]) (by simp)).trans ?_
  refine (seq_nx (ρ1 := [some (.d z3), some (.lst z1), w2]) (by simp [hi, it]; exact f1)).trans ?_
  simp
end ST
end
section
namespace ST
open PySem PySem.Spec PyProof.Rows L2 DL SH
def maxL : List Int → Int
 | [] => 0
 | y :: ys => ys.foldl (fun a b => if decide (a < b) = true then b else a) y
theorem intsD_map : ∀ l : List Int, intsD (l.map .int) = some l
 | [] => rfl
 | a :: l => by
  show (intsD (l.map .int)).map _ = _
  rw [intsD_map l]; rfl
theorem mx_ints (l : List Int) : mxDef (.list (l.map .int)) (.int 0) = some (.int (maxL l)) := by
 cases l with
 | nil => rfl
 | cons y ys =>
  show mxD (.list ((y :: ys).map .int)) = _
  unfold mxD bestD
  have e1 : seqOf (.list ((y :: ys).map .int)) = some ((y :: ys).map .int) := rfl
  have e2 : allStr ((y :: ys).map .int) = none := rfl
  rw [e1, Option.bind_some, e2, intsD_map]
  rfl
def levelsI : Nat → Tm → Int
 | 0, _ => 0
 | n + 1, t => 1 + maxL ((innerT t).map (levelsI n))
theorem level_ok : ∀ (n : Nat) (t : Tm), OkT n t → f_level_count n [.d (tmD t)] = .ok (.d (.int (levelsI n t))) [some (.d (tmD t))]
 | 0, _, h => h.elim
 | n + 1, t, h => by
  have hi := inner_ok t
  have it : itemsD (.tuple ((innerT t).map tmD)) = some ((innerT t).map tmD) := rfl
  have lc : lcGo [1] (tName 1) mYes (e1_level_count (f_level_count n)) ((innerT t).map tmD) [some (.d (tmD t)), none] = .ok (((innerT t).map (levelsI n)).map .int) [some (.d (tmD t)), none] := by
   have ihs : ∀ b ∈ innerT t, f_level_count n [.d (tmD b)] = .ok (.d (.int (levelsI n b))) [some (.d (tmD b))] := fun b hb => level_ok n b (h.inner b hb)
   generalize innerT t = bs at ihs
   induction bs with
   | nil => rfl
   | cons b bs ih =>
    have ih := ih fun c hc => ihs c (by simp [hc])
    have hb := ihs b (by simp)
    have hd : ∀ (x : D) (xs : List D) (ρ : DL.Env), lcGo [1] (tName 1) mYes (e1_level_count (f_level_count n)) (x :: xs) ρ = match (tName 1 x ρ) with
     | none => .bad
     | some ρ1 => (mYes ρ1).bindN fun b ρ2 => if b = true then ((e1_level_count (f_level_count n)) ρ2).bindN fun y ρ3 => (lcGo [1] (tName 1) mYes (e1_level_count (f_level_count n)) xs (wipeE ρ3 [1])).bindN fun ys ρ4 => .ok (y :: ys) ρ4 else lcGo [1] (tName 1) mYes (e1_level_count (f_level_count n)) xs (wipeE ρ2 [1]) := fun _ _ _ => rfl
    rw [List.map_cons, hd]
    generalize bs.map tmD = z1 at *
    generalize tmD b = z2 at *
    generalize tmD t = z3 at *
    simp [mYes, hb, ih, Res.bindN]
  have mx := mx_ints ((innerT t).map (levelsI n))
  show fnOf 2 1 [] (m_level_count (f_level_count n)) [.d (tmD t)] = _
  have ev : levelsI (n + 1) t = 1 + maxL ((innerT t).map (levelsI n)) := rfl
  rw [ev]
  generalize maxL ((innerT t).map (levelsI n)) = z4 at *
  generalize ((innerT t).map (levelsI n)).map PyData.int = z1 at *
  generalize (innerT t).map tmD = z2 at *
  generalize tmD t = z3 at *
  simp [m_level_count, fnOf, hi, it, dataAt, lc, backE, mx, outsOf]
def ownN : Tm → List Str
 | .nm s => [s]
 | .hole t _ => keys t
 | .shut a _ => [a]
 | .sign _ _ => []
theorem in_two (k : Str) : inD (.str k) (.tuple [.str "name", .str "shut"]) = some (.bool (decide (k ∈ (["name", "shut"] : List Str)))) := rfl
theorem own_ok (t : Tm) : f_own_names [.d (tmD t)] = .ok (.lst ((ownN t).map .str)) [some (.d (tmD t))] := by
 have n3 : ¬ (("hole" : Str) = "name") := by decide
 have n4 : ¬ (("hole" : Str) = "shut") := by decide
 have n5 : ¬ (("sign" : Str) = "name") := by decide
 have n6 : ¬ (("sign" : Str) = "shut") := by decide
 have n7 : ¬ (("sign" : Str) = "hole") := by decide
 cases t with
 | nm s =>
  rw [tmD]
  have i0 : ixD (.tuple [.str "name", .str s]) (.int 0) = some (.str "name") := rfl
  have i1 : ixD (.tuple [.str "name", .str s]) (.int 1) = some (.str s) := rfl
  simp [f_own_names, m_own_names, fnOf, i0, i1, in_two, ownN, outsOf]
 | hole t x =>
  rw [tmD]
  have i0 : ixD (.tuple [.str "hole", tD t, .str x]) (.int 0) = some (.str "hole") := rfl
  have i1 : ixD (.tuple [.str "hole", tD t, .str x]) (.int 1) = some (tD t) := rfl
  have it := items_t t
  have lc := lcGo_pure (vs := [1, 2]) (t := tTup 2 (tsCons (tName 1) (tsCons (tName 2) tsNil))) (tst := mYes) (e := mVar 1) (p := fun _ => true) (g := keyD) (ρ := [some (.d (.tuple [.str "hole", tD t, .str x])), none, none]) (xs := t.map pd) fun y hy => by
   obtain ⟨p, _, rfl⟩ := List.mem_map.mp hy
   exact ⟨[some (.d (.tuple [.str "hole", tD t, .str x])), some (.d (.str p.1)), some (.d (.str p.2))], [some (.d (.tuple [.str "hole", tD t, .str x])), some (.d (.str p.1)), some (.d (.str p.2))], by simp [pd], rfl, fun z => (by cases z), fun _ => ⟨_, rfl, rfl⟩⟩
  rw [filt_all, List.map_map] at lc
  have : t.map (keyD ∘ pd) = (keys t).map .str := by unfold keys; rw [List.map_map]; rfl
  rw [this] at lc
  show f_own_names _ = .ok (.lst ((keys t).map .str)) _
  generalize (keys t).map PyData.str = z1 at *
  generalize t.map pd = z2 at *
  generalize tD t = z3 at *
  simp [f_own_names, m_own_names, fnOf, i0, i1, in_two, n3, n4, eq_s, it, dataAt, lc, backE, outsOf]
 | shut a b =>
  rw [tmD]
  have i0 : ixD (.tuple [.str "shut", .str a, tmD b]) (.int 0) = some (.str "shut") := rfl
  have i1 : ixD (.tuple [.str "shut", .str a, tmD b]) (.int 1) = some (.str a) := rfl
  simp [f_own_names, m_own_names, fnOf, i0, i1, in_two, ownN, outsOf]
 | sign a ts =>
  rw [tmD, tmDs_map]
  have i0 : ixD (.tuple [.str "sign", .str a, .tuple (ts.map tmD)]) (.int 0) = some (.str "sign") := rfl
  simp [f_own_names, m_own_names, fnOf, i0, in_two, n5, n6, n7, eq_s, ownN, outsOf]
end ST
end
section
namespace ST
open PySem PySem.Spec PyProof.Rows L2 DL SH
theorem cLoop_mapP {α : Type} {c : FC} {b : M (List D)} {f : α → D} {p : α → Bool} {G : α → List D} {ρ : DL.Env} : ∀ {ts : List α}, (∀ t ∈ ts, ∃ ρ1 ρ2, c.t (f t) ρ = some ρ1 ∧ c.tst ρ1 = .ok (p t) ρ2 ∧ (p t = false → wipeE ρ2 c.vs = ρ) ∧ (p t = true → ∃ ρ3, b ρ2 = .ok (G t) ρ3 ∧ wipeE ρ3 c.vs = ρ)) → cLoop c b (ts.map f) ρ = .ok ((ts.filter p).flatMap G) ρ
 | [], _ => rfl
 | t :: ts, h => by
  obtain ⟨ρ1, ρ2, h1, h2, h3, h4⟩ := h t List.mem_cons_self
  have ih := cLoop_mapP (ts := ts) fun y hy => h y (List.mem_cons_of_mem _ hy)
  have hd : cLoop c b (f t :: ts.map f) ρ = match c.t (f t) ρ with
   | none => .bad
   | some ρ1 => (c.tst ρ1).bindN fun k ρ2 => if k = true then (b ρ2).bindN fun ys ρ3 => (cLoop c b (ts.map f) (wipeE ρ3 c.vs)).bindN fun zs ρ4 => .ok (ys ++ zs) ρ4 else cLoop c b (ts.map f) (wipeE ρ2 c.vs) := rfl
  rw [List.map_cons, hd, h1]
  simp only [h2, bindN_ok]
  cases hp : p t with
  | true =>
   obtain ⟨ρ3, h5, h6⟩ := h4 hp
   rw [List.filter_cons_of_pos hp, if_pos rfl, h5]
   simp only [bindN_ok, h6, ih]
   rfl
  | false =>
   rw [List.filter_cons_of_neg (by rw [hp]; exact Bool.false_ne_true), if_neg Bool.false_ne_true, h3 hp, ih]
theorem cIn_of {c : FC} {it b : M (List D)} {ρ ρ1 : DL.Env} {xs ys : List D} (h1 : it ρ = .ok xs ρ1) (h2 : wipeE ρ1 c.vs = ρ1) (h3 : cLoop c b xs ρ1 = .ok ys ρ1) : cIn c it b ρ = .ok ys ρ1 := by
 unfold cIn
 rw [h1, bindN_ok, h2, h3]
def allN (ts : List Tm) : List Str := ts.flatMap fun t => (everyP 40 t).flatMap ownN
structure OkTs (ts : List Tm) : Prop where
 ok : ∀ t ∈ ts, OkT 40 t
 few : ∀ t ∈ ts, (everyP 40 t).length ≤ 500
theorem filt_yes {α : Type} (l : List α) : l.filter (fun _ => true) = l := List.filter_eq_self.mpr fun _ _ => rfl
theorem flat_str (l : List Str) : (l.flatMap fun s => [PyData.str s]) = l.map .str := by
 induction l with
 | nil => rfl
 | cons a l ih => rw [List.flatMap_cons, ih]; rfl
theorem all_names_ok {ts : List Tm} (h : OkTs ts) (hl : (allN ts).length ≤ 900) : f_all_names [.d (.list (ts.map tmD))] = .ok (.lst ((sortS (onceS (allN ts))).map .str)) [some (.d (.list (ts.map tmD)))] := by
 have itL := il (ts.map tmD)
 generalize hL : PyData.list (ts.map tmD) = L at *
 -- the names of one part
 have c3 : ∀ (x y : D) (l : List Str), cLoop ⟨[3], (tName 3), mYes⟩ (cEnd (mTxt (mVar 3))) (l.map .str) [some (.d L), some (.d x), some (.d y), none] = .ok (l.map .str) [some (.d L), some (.d x), some (.d y), none] := fun x y l => by
  have := cLoop_mapP (c := ⟨[3], (tName 3), mYes⟩) (b := cEnd (mTxt (mVar 3))) (f := PyData.str) (p := fun _ => true) (G := fun s => [PyData.str s]) (ρ := [some (.d L), some (.d x), some (.d y), none]) (ts := l) fun s _ =>
   ⟨[some (.d L), some (.d x), some (.d y), some (.d (.str s))], [some (.d L), some (.d x), some (.d y), some (.d (.str s))], rfl, rfl, fun z => (by cases z), fun _ => ⟨[some (.d L), some (.d x), some (.d y), some (.d (.str s))], rfl, rfl⟩⟩
  rw [filt_yes, flat_str] at this
  exact this
 have c2 : ∀ (x : D) (ps : List Tm), cLoop ⟨[2, 3], (tName 2), mYes⟩ (cIn ⟨[3], (tName 3), mYes⟩ i2_all_names (cEnd (mTxt (mVar 3)))) (ps.map tmD) [some (.d L), some (.d x), none, none] = .ok ((ps.flatMap ownN).map .str) [some (.d L), some (.d x), none, none] := fun x ps => by
  have := cLoop_mapP (c := ⟨[2, 3], (tName 2), mYes⟩) (b := cIn ⟨[3], (tName 3), mYes⟩ i2_all_names (cEnd (mTxt (mVar 3)))) (f := tmD) (p := fun _ => true) (G := fun t => (ownN t).map .str) (ρ := [some (.d L), some (.d x), none, none]) (ts := ps) fun t _ => by
   refine ⟨[some (.d L), some (.d x), some (.d (tmD t)), none], [some (.d L), some (.d x), some (.d (tmD t)), none], rfl, rfl, fun z => (by cases z), fun _ => ⟨[some (.d L), some (.d x), some (.d (tmD t)), none], ?_, rfl⟩⟩
   have o := own_ok t
   refine cIn_of (xs := (ownN t).map .str) ?_ rfl (c3 x (tmD t) (ownN t))
   have it := il ((ownN t).map .str)
   generalize (ownN t).map PyData.str = z at *
   simp [o, it]
  rw [filt_yes] at this
  rw [this, List.map_flatMap]
 have c1 := cLoop_mapP (c := ⟨[1, 2, 3], (tName 1), mYes⟩) (b := cIn ⟨[2, 3], (tName 2), mYes⟩ i1_all_names (cIn ⟨[3], (tName 3), mYes⟩ i2_all_names (cEnd (mTxt (mVar 3))))) (f := tmD) (p := fun _ => true) (G := fun t => ((everyP 40 t).flatMap ownN).map .str) (ρ := [some (.d L), none, none, none]) (ts := ts) fun t ht => by
  refine ⟨[some (.d L), some (.d (tmD t)), none, none], [some (.d L), some (.d (tmD t)), none, none], rfl, rfl, fun z => (by cases z), fun _ => ⟨[some (.d L), some (.d (tmD t)), none, none], ?_, rfl⟩⟩
  have o := every_ok 40 t (h.ok t ht) (h.few t ht)
  refine cIn_of (xs := (everyP 40 t).map tmD) ?_ rfl (c2 (tmD t) (everyP 40 t))
  have it := il ((everyP 40 t).map tmD)
  generalize (everyP 40 t).map tmD = z at *
  simp [o, it]
 rw [filt_yes] at c1
 have ev : (ts.flatMap fun t => ((everyP 40 t).flatMap ownN).map PyData.str) = (allN ts).map .str := by unfold allN; rw [List.map_flatMap]
 rw [ev] at c1
 have h1 : mItems (mVar 0) [some (OV.d L), none, none, none] = .ok (ts.map tmD) [some (.d L), none, none, none] := by
  simp [itL]
 have h2 := mLcN_of (c := ⟨[1, 2, 3], (tName 1), mYes⟩) (b := cIn ⟨[2, 3], (tName 2), mYes⟩ i1_all_names (cIn ⟨[3], (tName 3), mYes⟩ i2_all_names (cEnd (mTxt (mVar 3))))) h1 rfl c1
 have h3 : mSetC (mLcN ⟨[1, 2, 3], (tName 1), mYes⟩ (mItems (mVar 0)) (cIn ⟨[2, 3], (tName 2), mYes⟩ i1_all_names (cIn ⟨[3], (tName 3), mYes⟩ i2_all_names (cEnd (mTxt (mVar 3)))))) [some (OV.d L), none, none, none] = .ok (allN ts) [some (.d L), none, none, none] := by
  rw [mSetC_d, h2]
  show (if ((allN ts).map PyData.str).length ≤ scanBound - 2 then ofO (allStr ((allN ts).map .str)) _ else .bad) = _
  rw [if_pos (by rw [List.length_map]; unfold scanBound; omega), allStr_map]
  rfl
 refine fn_ok (ρ' := [some (.d L), none, none, none]) rfl ?_ rfl
 unfold m_all_names
 have k : mSortK (mSetC (mLcN ⟨[1, 2, 3], (tName 1), mYes⟩ (mItems (mVar 0)) (cIn ⟨[2, 3], (tName 2), mYes⟩ i1_all_names (cIn ⟨[3], (tName 3), mYes⟩ i2_all_names (cEnd (mTxt (mVar 3))))))) [some (OV.d L), none, none, none] = .ok ((sortS (onceS (allN ts))).map .str) [some (.d L), none, none, none] := by
  rw [mSortK_d, h3]; rfl
 generalize (sortS (onceS (allN ts))).map PyData.str = z at *
 simp [k, -mSortK_d]
end ST
end
section
namespace ST
open PySem PySem.Spec PyProof.Rows L2 DL SH
def holeT : Tm → Bool
 | .hole _ _ => true
 | _ => false
def holeN : Tm → Str
 | .hole _ x => x
 | _ => ""
theorem kind_at (t : Tm) : ixD (tmD t) (.int 0) = some (.str (match t with
 | .nm _ => "name"
 | .hole _ _ => "hole"
 | .shut _ _ => "shut"
 | .sign _ _ => "sign")) := by
 cases t <;> (rw [tmD]; rfl)
def allH (ts : List Tm) : List Str := ts.flatMap fun t => ((everyP 40 t).filter holeT).map holeN
theorem flat_one (l : List Tm) (f : Tm → Str) : (l.flatMap fun s => [PyData.str (f s)]) = (l.map f).map .str := by
 induction l with
 | nil => rfl
 | cons a l ih => rw [List.flatMap_cons, ih]; rfl
theorem all_holes_ok {ts : List Tm} (h : OkTs ts) (hl : (allH ts).length ≤ 900) : f_all_holes [.d (.list (ts.map tmD))] = .ok (.lst ((sortS (onceS (allH ts))).map .str)) [some (.d (.list (ts.map tmD)))] := by
 have itL := il (ts.map tmD)
 generalize hL : PyData.list (ts.map tmD) = L at *
 have c2 : ∀ (x : D) (ps : List Tm), cLoop ⟨[2], (tName 2), p2_all_holes⟩ (cEnd (mTxt e3_all_holes)) (ps.map tmD) [some (.d L), some (.d x), none] = .ok (((ps.filter holeT).map holeN).map .str) [some (.d L), some (.d x), none] := fun x ps => by
  have := cLoop_mapP (c := ⟨[2], (tName 2), p2_all_holes⟩) (b := cEnd (mTxt e3_all_holes)) (f := tmD) (p := holeT) (G := fun t => [PyData.str (holeN t)]) (ρ := [some (.d L), some (.d x), none]) (ts := ps) fun t _ => by
   have k := kind_at t
   refine ⟨[some (.d L), some (.d x), some (.d (tmD t))], [some (.d L), some (.d x), some (.d (tmD t))], rfl, ?_, fun _ => rfl, fun ht => ⟨[some (.d L), some (.d x), some (.d (tmD t))], ?_, rfl⟩⟩
   ·have d1 : ¬ (("name" : Str) = "hole") := by decide
    have d2 : ¬ (("shut" : Str) = "hole") := by decide
    have d3 : ¬ (("sign" : Str) = "hole") := by decide
    cases t <;> (simp only at k; generalize tmD _ = z at *; simp [k, eq_s, holeT, d1, d2, d3])
   ·cases t with
    | hole u y =>
     have i2 : ixD (tmD (.hole u y)) (.int 2) = some (.str y) := by rw [tmD]; rfl
     generalize tmD (.hole u y) = z at *
     unfold cEnd mTxt
     simp [i2, Res.bindN, holeN]
    | _ => cases ht
  rw [flat_one] at this
  exact this
 have c1 := cLoop_mapP (c := ⟨[1, 2], (tName 1), mYes⟩) (b := cIn ⟨[2], (tName 2), p2_all_holes⟩ i1_all_holes (cEnd (mTxt e3_all_holes))) (f := tmD) (p := fun _ => true) (G := fun t => (((everyP 40 t).filter holeT).map holeN).map .str) (ρ := [some (.d L), none, none]) (ts := ts) fun t ht => by
  refine ⟨[some (.d L), some (.d (tmD t)), none], [some (.d L), some (.d (tmD t)), none], rfl, rfl, fun z => (by cases z), fun _ => ⟨[some (.d L), some (.d (tmD t)), none], ?_, rfl⟩⟩
  have o := every_ok 40 t (h.ok t ht) (h.few t ht)
  refine cIn_of (xs := (everyP 40 t).map tmD) ?_ rfl (c2 (tmD t) (everyP 40 t))
  have it := il ((everyP 40 t).map tmD)
  generalize (everyP 40 t).map tmD = z at *
  simp [o, it]
 rw [filt_yes] at c1
 have ev : (ts.flatMap fun t => (((everyP 40 t).filter holeT).map holeN).map PyData.str) = (allH ts).map .str := by unfold allH; rw [List.map_flatMap]
 rw [ev] at c1
 have h1 : mItems (mVar 0) [some (OV.d L), none, none] = .ok (ts.map tmD) [some (.d L), none, none] := by
  simp [itL]
 have h2 := mLcN_of (c := ⟨[1, 2], (tName 1), mYes⟩) (b := cIn ⟨[2], (tName 2), p2_all_holes⟩ i1_all_holes (cEnd (mTxt e3_all_holes))) h1 rfl c1
 have h3 : mSetC (mLcN ⟨[1, 2], (tName 1), mYes⟩ (mItems (mVar 0)) (cIn ⟨[2], (tName 2), p2_all_holes⟩ i1_all_holes (cEnd (mTxt e3_all_holes)))) [some (OV.d L), none, none] = .ok (allH ts) [some (.d L), none, none] := by
  rw [mSetC_d, h2]
  show (if ((allH ts).map PyData.str).length ≤ scanBound - 2 then ofO (allStr ((allH ts).map .str)) _ else .bad) = _
  rw [if_pos (by rw [List.length_map]; unfold scanBound; omega), allStr_map]
  rfl
 refine fn_ok (ρ' := [some (.d L), none, none]) rfl ?_ rfl
 unfold m_all_holes
 have k : mSortK (mSetC (mLcN ⟨[1, 2], (tName 1), mYes⟩ (mItems (mVar 0)) (cIn ⟨[2], (tName 2), p2_all_holes⟩ i1_all_holes (cEnd (mTxt e3_all_holes))))) [some (OV.d L), none, none] = .ok ((sortS (onceS (allH ts))).map .str) [some (.d L), none, none] := by
  rw [mSortK_d, h3]; rfl
 generalize (sortS (onceS (allH ts))).map PyData.str = z at *
 simp [k, -mSortK_d]
theorem lay_tup {n : Nat} {xs : List D} (h : ∀ x ∈ xs, x.canLay0 = true ∧ x.depth ≤ n) : (PyData.tuple xs).canLay0 = true ∧ (PyData.tuple xs).depth ≤ n + 1 := by
 refine ⟨by rw [PyData.canLay0]; exact canAll fun x hx => (h x hx).1, ?_⟩
 rw [PyData.depth]
 have := depAll fun x hx => (h x hx).2
 omega
end ST
end
section
namespace ST
open PySem PySem.Spec PyProof.Rows L2 DL SH
theorem tm_tuple (t : Tm) : ∃ xs, tmD t = .tuple xs := by
 cases t <;> (rw [tmD]; exact ⟨_, rfl⟩)
theorem tm_m (t : Tm) : FitM (tmD t) := by
 obtain ⟨xs, e⟩ := tm_tuple t
 rw [e]; trivial
theorem OkT.fit : ∀ {n : Nat} {t : Tm}, OkT n t → n ≤ 28 → ∀ k, FitT (n + k) (tmD t)
 | 0, _, h, _, _ => h.elim
 | n + 1, t, h, hn, k => by
  rw [show n + 1 + k = (n + k) + 1 from by omega]
  refine ⟨tm_m t, ?_⟩
  cases t with
  | nm s =>
   rw [tmD]
   refine ⟨by simp [partsT], fun y hy => ?_, fun a b c e => by cases e⟩
   simp [partsT] at hy
   rcases hy with rfl | rfl
   ·exact fitS_of (by decide +kernel)
   ·exact NmS.fit h
  | hole u x =>
   rw [tmD]
   refine ⟨by simp [partsT], fun y hy => ?_, fun a b c e => ?_⟩
   ·simp [partsT] at hy
    rcases hy with rfl | rfl | rfl
    ·exact fitS_of (by decide +kernel)
    ·trivial
    ·exact HlS.fit h.2.2
   ·have e : [PyData.str "hole", tD u, .str x] = [.str a, b, c] := by injection e
    injection e with e1 e
    injection e with e2 e
    injection e1 with e1
    subst e1 e2
    exact ⟨fun _ => h.1.fit (by have := h.2.1; omega), fun z => absurd z (by decide), fun z => absurd z (by decide)⟩
  | shut a b =>
   rw [tmD]
   refine ⟨by simp [partsT], fun y hy => ?_, fun a' b' c' e => ?_⟩
   ·simp [partsT] at hy
    rcases hy with rfl | rfl | rfl
    ·exact fitS_of (by decide +kernel)
    ·exact NmS.fit h.1
    ·exact tm_m b
   ·have e : [PyData.str "shut", .str a, tmD b] = [.str a', b', c'] := by injection e
    injection e with e1 e
    injection e with e2 e
    injection e with e3 e
    injection e1 with e1
    subst e1 e2 e3
    exact ⟨fun z => absurd z (by decide), fun _ => OkT.fit h.2 (by omega) k, fun z => absurd z (by decide)⟩
  | sign a ts =>
   rw [tmD, tmDs_map]
   refine ⟨by simp [partsT], fun y hy => ?_, fun a' b' c' e => ?_⟩
   ·simp [partsT] at hy
    rcases hy with rfl | rfl | rfl
    ·exact fitS_of (by decide +kernel)
    ·exact NmS.fit h.1
    ·trivial
   ·have e : [PyData.str "sign", .str a, .tuple (ts.map tmD)] = [.str a', b', c'] := by injection e
    injection e with e1 e
    injection e with e2 e
    injection e with e3 e
    injection e1 with e1
    subst e1 e2 e3
    refine ⟨fun z => absurd z (by decide), fun z => absurd z (by decide), fun _ => ⟨by simp [partsT]; have := h.2.1; omega, fun y hy => ?_⟩⟩
    obtain ⟨b, hb, rfl⟩ := List.mem_map.mp (show y ∈ ts.map tmD from hy)
    exact OkT.fit (h.2.2 b hb) (by omega) k
end ST
end
section
namespace ST
open PySem PySem.Spec PyProof.Rows L2 DL SH
theorem sureT_yes (x : D) (h : FitT 40 x) (ht : termN 40 x = true) : f_sure_terms [.d (.list [x])] = .ok (.d .none) [some (.d (.list [x]))] := by
 have e := is_term_ok 40 x h
 rw [ht] at e
 have it : itemsD (.list [x]) = some [x] := rfl
 simp [f_sure_terms, m_sure_terms, fnOf, it, forGo_cons, e, outsOf]
theorem OkT.lift {n : Nat} {t : Tm} (h : OkT n t) : ∀ k, OkT (n + k) t
 | 0 => h
 | k + 1 => (OkT.lift h k).up
section
variable {x : D}
end
structure Term28 (t : Tm) : Prop where
 ok : OkT 28 t
 few : (everyP 40 t).length ≤ 500
section
variable {t : Tm}
theorem Term28.ok40 (h : Term28 t) : OkT 40 t := OkT.lift h.ok 12
theorem Term28.sure (h : Term28 t) : f_sure_terms [.d (.list [tmD t])] = .ok (.d .none) [some (.d (.list [tmD t]))] := sureT_yes _ (OkT.fit h.ok (by omega) 12) h.ok40.term
theorem Term28.parts (h : Term28 t) : f_parts_of [.d (tmD t)] = .ok (.d (.int ((everyP 40 t).length : Nat))) [some (.d (tmD t))] := by
 have sy := h.sure
 have ev := every_ok 40 t h.ok40 h.few
 have ln : lenD (.list ((everyP 40 t).map tmD)) = some (.int ((everyP 40 t).length : Nat)) := len_m _ _
 generalize (everyP 40 t).map tmD = z at *
 generalize (everyP 40 t).length = n at *
 generalize tmD t = a at *
 simp [f_parts_of, m_parts_of, fnOf, sy, ev, ln, outsOf]
theorem Term28.levels (h : Term28 t) : f_levels_of [.d (tmD t)] = .ok (.d (.int (levelsI 40 t))) [some (.d (tmD t))] := by
 have sy := h.sure
 have ev := level_ok 40 t h.ok40
 generalize levelsI 40 t = n at *
 generalize tmD t = a at *
 simp [f_levels_of, m_levels_of, fnOf, sy, ev, outsOf]
theorem Term28.ts (h : Term28 t) : OkTs [t] := ⟨fun u hu => by rw [List.mem_singleton.mp hu]; exact h.ok40, fun u hu => by rw [List.mem_singleton.mp hu]; exact h.few⟩
theorem Term28.names (h : Term28 t) (hl : (allN [t]).length ≤ 900) : f_names_in [.d (tmD t)] = .ok (.lst ((sortS (onceS (allN [t]))).map .str)) [some (.d (tmD t))] := by
 have sy := h.sure
 have ev := all_names_ok h.ts hl
 rw [List.map_cons, List.map_nil] at ev
 generalize (sortS (onceS (allN [t]))).map PyData.str = z at *
 generalize tmD t = a at *
 simp [f_names_in, m_names_in, fnOf, sy, ev, outsOf]
theorem Term28.holes (h : Term28 t) (hl : (allH [t]).length ≤ 900) : f_holes_in [.d (tmD t)] = .ok (.lst ((sortS (onceS (allH [t]))).map .str)) [some (.d (tmD t))] := by
 have sy := h.sure
 have ev := all_holes_ok h.ts hl
 rw [List.map_cons, List.map_nil] at ev
 generalize (sortS (onceS (allH [t]))).map PyData.str = z at *
 generalize tmD t = a at *
 simp [f_holes_in, m_holes_in, fnOf, sy, ev, outsOf]
end
end ST
end
section
namespace ST
open PySem PySem.Spec PyProof.Rows L2 DL SH
end ST
end
section
namespace ST
open PySem PySem.Spec PyProof.Rows L2 DL SH
end ST
end
section
namespace ST
open PySem PySem.Spec PyProof.Rows L2 DL SH
def six : List Str := ["X", "Y", "Z", "X1", "Y1", "Z1"]
theorem six_nd : six.Nodup := by decide +kernel
theorem six_hl : ∀ s ∈ six, HlS s := fun s h => hlS_iff.mp (List.all_eq_true.mp (show six.all hlS = true by decide +kernel) s h)
theorem holes_ok {B : Nat} (hB : B < 2 ^ 48) {p : List D} (h : Pile B p) (m : Nat) (hm : m ≤ 6) : ∃ (l : List Str) (p' : List D), l.length = m ∧ l.Nodup ∧ (∀ s ∈ l, HlS s) ∧ Pile (B + 20 * m) p' ∧ f__law_holes [.lst p, .d (.int m)] = .ok (.lst (l.map .str)) [some (.lst p'), some (.d (.int m))] := by
 have hr := range_ok m (by omega)
 let A := fun (a : List D) (l : List Str) (w4 w5 w6 : Option OV) => [some (OV.lst a), some (.d (.int (m : Nat))), some (.d (.str gts)), some (.lst (l.map .str)), w4, w5, w6, none]
 have a0 : ∀ a l w4 w5 w6, A a l w4 w5 w6 = [some (OV.lst a), some (.d (.int (m : Nat))), some (.d (.str gts)), some (.lst (l.map .str)), w4, w5, w6, none] := fun _ _ _ _ _ => rfl
 have lf : (gts ++ fig).length = 36 := by rw [app_len, gts_len, fig_len]
 have big := size_big
 obtain ⟨ρ', f1, l, q, w4, w5, w6, rfl, f2, f3, f4, f5⟩ := forGo_inv (t := tName 4) (b := b3__law_holes) (xs := rangeL 0 m) (ρ := A p [] none none none)
  (fun i ρ => ∃ (l : List Str) (q : List D) (w4 w5 w6 : Option OV), ρ = A q l w4 w5 w6 ∧ l.length = i ∧ l.Nodup ∧ (∀ s ∈ l, HlS s) ∧ Pile (B + 20 * i) q)
  ⟨[], p, none, none, none, rfl, rfl, .nil, fun _ z => (by cases z), h⟩ fun i x ρ hx ⟨l, q, w4, w5, w6, e, n1, n2, n3, n4⟩ => by
   subst e
   obtain ⟨hi, rfl⟩ := range_at hx
   obtain ⟨r, q1, r0, r1, hq1, e1⟩ := take_ok (by omega) n4 26 (by omega) (by omega)
   obtain ⟨c, hc, i1⟩ := ix_str (z := gts) (r := r) (by rw [gts_len]; omega) r0 (by rw [gts_len]; omega)
   have hc := (mem_gts c).mp hc
   obtain ⟨kd, q2, k0, k1, hq2, e2⟩ := take_ok (by omega) hq1 3 (by omega) (by omega)
   obtain ⟨s, q3, v6, hs, hq3, st⟩ : ∃ (s : Str) (q3 : List D) (v6 : Option OV), HlS s ∧ Pile (B + 20 * i + 12) q3 ∧ ∀ K : M Fl, sSeq (sSet 5 (mBin ixD (mVar 2) (mFrz (mCall SH.f__law_take (gO 0 (gD (mC (.int 26)) gNil)))))) (sSeq (mIf (mB (mBin eqD (mFrz (mCall SH.f__law_take (gO 0 (gD (mC (.int 3)) gNil)))) (mC (.int 2)))) (sFor (mRange1 (mFrz (mCall SH.f__law_take (gO 0 (gD (mC (.int 8)) gNil))))) (tName 6) b1__law_holes) sNil) K) (A q l (some (.d (.int (i : Nat)))) w5 w6) = K (A q3 l (some (.d (.int (i : Nat)))) (some (.d (.str s))) v6) := by
    by_cases hk : kd = 2
    ·subst hk
     obtain ⟨k, q3, t0, t1, hq3, e3⟩ := take_ok (by omega) hq2 8 (by omega) (by omega)
     have hr2 := range_ok k.toNat (by omega)
     rw [Int.toNat_of_nonneg t0] at hr2
     obtain ⟨ρ', g1, s, q4, v6, rfl, g2, g3, g4⟩ := forGo_inv (t := tName 6) (b := b1__law_holes) (xs := rangeL 0 k.toNat) (ρ := A q3 l (some (.d (.int (i : Nat)))) (some (.d (.str ⟨#[c]⟩))) w6)
      (fun j ρ => ∃ (s : Str) (q4 : List D) (v6 : Option OV), ρ = A q4 l (some (.d (.int (i : Nat)))) (some (.d (.str s))) v6 ∧ HlS s ∧ s.length = 1 + j ∧ Pile (B + 20 * i + 3 + j) q4)
      ⟨_, q3, w6, rfl, hl_one hc, rfl, hq3.up (by omega)⟩ fun j x ρ hx ⟨s, q4, v6, e, m1, m2, m3⟩ => by
       subst e
       obtain ⟨hj, rfl⟩ := range_at hx
       obtain ⟨t, q5, u0, u1, hq5, e5⟩ := take_ok (by omega) m3 36 (by omega) (by omega)
       obtain ⟨d, hd, e6⟩ := ix_str (z := gts ++ fig) (r := t) (by omega) u0 (by omega)
       have hd' : isGt d ∨ isFg d := by
        rw [app_cps] at hd
        rcases List.mem_append.mp hd with hd | hd
        ·exact .inl ((mem_gts d).mp hd)
        ·exact .inr ((mem_fig d).mp hd)
       refine ⟨A q4 l (some (.d (.int (i : Nat)))) (some (.d (.str s))) (some (.d (.int (j : Nat)))), A q5 l (some (.d (.int (i : Nat)))) (some (.d (.str (s ++ ⟨#[d]⟩)))) (some (.d (.int (j : Nat)))), by simp [A], ?_, s ++ ⟨#[d]⟩, q5, some (.d (.int (j : Nat))), rfl, hl_app m1 (by omega) hd', by rw [app_len, m2, one_len]; omega, hq5.up (by omega)⟩
       have ad : addD (.str s) (.str ⟨#[d]⟩) = some (.str (s ++ ⟨#[d]⟩)) := add_str (by rw [one_len]; omega)
       simp only [a0]
       simp [e5, add_gf, e6, ad]
     rw [range_len] at g4
     refine ⟨s, q4, v6, g2, g4.up (by omega), fun K => ?_⟩
     refine (seq_nx (ρ1 := A q1 l (some (.d (.int (i : Nat)))) (some (.d (.str ⟨#[c]⟩))) w6) (by simp [a0, e1, i1])).trans ?_
     refine (seq_nx (ρ1 := A q4 l (some (.d (.int (i : Nat)))) (some (.d (.str s))) v6) (by
      simp only [a0] at g1 ⊢
      simp [e2, eq_i, e3, hr2]
      exact g1)).trans rfl
    ·refine ⟨⟨#[c]⟩, q2, w6, hl_one hc, hq2.up (by omega), fun K => ?_⟩
     refine (seq_nx (ρ1 := A q1 l (some (.d (.int (i : Nat)))) (some (.d (.str ⟨#[c]⟩))) w6) (by simp [a0, e1, i1])).trans ?_
     refine (seq_nx (ρ1 := A q2 l (some (.d (.int (i : Nat)))) (some (.d (.str ⟨#[c]⟩))) w6) (by simp [a0, e2, eq_i, hk])).trans rfl
   have app : ∀ z : Str, appendD (l.map .str) [.str z] = some ((l ++ [z]).map .str, .none) := fun z => by
    show (if _ then _ else _) = _
    rw [if_pos (by rw [List.length_map]; omega)]
    simp
   by_cases hsl : s ∈ l
   ·have fr : (six.filter fun s => !decide (s ∈ l)) ≠ [] := fun z => by
     have := nodup_le six_nd (b := l) fun x hx => by
      have := List.filter_eq_nil_iff.mp z x hx
      simpa using this
     have e6 : six.length = 6 := rfl
     omega
    obtain ⟨z, zs, hz⟩ := List.exists_cons_of_ne_nil fr
    have hz' : z ∈ six ∧ z ∉ l := by
     have := List.mem_filter.mp (show z ∈ (six.filter fun s => !decide (s ∈ l)) by rw [hz]; exact List.mem_cons_self)
     simpa using this
    have lc := lcGo_pure (vs := [7]) (t := tName 7) (tst := p2__law_holes) (e := mVar 7) (p := freeP l) (g := id) (ρ := A q3 l (some (.d (.int (i : Nat)))) (some (.d (.str s))) v6) (xs := six.map .str) fun x hx => by
     obtain ⟨d, hd, rfl⟩ := List.mem_map.mp hx
     refine ⟨[some (OV.lst q3), some (.d (.int (m : Nat))), some (.d (.str gts)), some (.lst (l.map .str)), some (.d (.int (i : Nat))), some (.d (.str s)), v6, some (.d (.str d))], [some (OV.lst q3), some (.d (.int (m : Nat))), some (.d (.str gts)), some (.lst (l.map .str)), some (.d (.int (i : Nat))), some (.d (.str s)), v6, some (.d (.str d))], by simp [A], ?_, fun _ => rfl, fun _ => ⟨_, rfl, rfl⟩⟩
     simp [nin_strs, freeP]
    rw [List.map_id, SH.filter_free, hz] at lc
    have lc : lcGo [7] (tName 7) p2__law_holes (mVar 7) [.str "X", .str "Y", .str "Z", .str "X1", .str "Y1", .str "Z1"] (A q3 l (some (.d (.int (i : Nat)))) (some (.d (.str s))) v6) = .ok (.str z :: zs.map .str) (A q3 l (some (.d (.int (i : Nat)))) (some (.d (.str s))) v6) := lc
    have ix : ixD (.list (.str z :: zs.map .str)) (.int 0) = some (.str z) := by simp [ixD, atI, ixN]
    refine ⟨A q l (some (.d (.int (i : Nat)))) w5 w6, A q3 (l ++ [z]) (some (.d (.int (i : Nat)))) (some (.d (.str z))) v6, by simp [A], (st _).trans ?_, l ++ [z], q3, some (.d (.int (i : Nat))), some (.d (.str z)), v6, rfl, by rw [List.length_append, n1]; rfl, ?_, ?_, hq3.up (by omega)⟩
    ·have ap := app z
     have il6 := il [.str "X", .str "Y", .str "Z", .str "X1", .str "Y1", .str "Z1"]
     have ins := in_strs s l
     rw [decide_eq_true hsl] at ins
     simp only [a0] at lc ⊢
     generalize (l ++ [z]).map PyData.str = y1 at *
     generalize l.map PyData.str = y2 at *
     simp [ins, il6, dataAt, lc, backE, ix, ap]
    ·exact List.nodup_append.mpr ⟨n2, by simp, fun a ha b hb => by simp at hb; subst hb; exact fun e => hz'.2 (e ▸ ha)⟩
    ·intro y hy
     rcases List.mem_append.mp hy with hy | hy
     ·exact n3 y hy
     ·simp at hy; subst hy; exact six_hl _ hz'.1
   ·refine ⟨A q l (some (.d (.int (i : Nat)))) w5 w6, A q3 (l ++ [s]) (some (.d (.int (i : Nat)))) (some (.d (.str s))) v6, by simp [A], (st _).trans ?_, l ++ [s], q3, some (.d (.int (i : Nat))), some (.d (.str s)), v6, rfl, by rw [List.length_append, n1]; rfl, ?_, ?_, hq3.up (by omega)⟩
    ·have ap := app s
     have ins := in_strs s l
     rw [decide_eq_false hsl] at ins
     simp only [a0]
     generalize (l ++ [s]).map PyData.str = y1 at *
     generalize l.map PyData.str = y2 at *
     simp [ins, ap]
    ·exact List.nodup_append.mpr ⟨n2, by simp, fun a ha b hb => by simp at hb; subst hb; exact fun e => hsl (e ▸ ha)⟩
    ·intro y hy
     rcases List.mem_append.mp hy with hy | hy
     ·exact n3 y hy
     ·simp at hy; subst hy; exact hs
 rw [range_len] at f2 f5
 refine ⟨l, q, f2, f3, f4, f5, ?_⟩
 refine fn_ok (ρ' := [some (OV.lst q), some (.d (.int (m : Nat))), some (.d (.str gts)), none, w4, w5, w6, none]) rfl ?_ rfl
 unfold m__law_holes
 refine (seq_nx (ρ1 := [some (OV.lst p), some (.d (.int (m : Nat))), some (.d (.str gts)), none, none, none, none, none]) (by simp)).trans ?_
 refine (seq_nx (ρ1 := A p [] none none none) (by simp [a0])).trans ?_
 refine (seq_nx (ρ1 := A q l w4 w5 w6) (by simp only [a0] at f1 ⊢; simp [hr]; exact f1)).trans ?_
 simp [a0]
end ST
end
section
namespace ST
open PySem PySem.Spec PyProof.Rows L2 DL SH
theorem fgh_nm : ∀ s ∈ (["f", "g", "h"] : List Str), NmS s := fun s h => nmS_iff.mp (List.all_eq_true.mp (show (["f", "g", "h"] : List Str).all nmS = true by decide +kernel) s h)
theorem sign_ok {B : Nat} (hB : B < 2 ^ 48) {p : List D} (h : Pile B p) {l : List Str} (hl : ∀ s ∈ l, NmS s) (h1 : 1 ≤ l.length) : ∃ (a : Str) (p' : List D), NmS a ∧ Pile (B + 1) p' ∧ f__law_sign [.lst p, .d (.list (l.map .str))] = .ok (.d (.str a)) [some (.lst p'), some (.d (.list (l.map .str)))] := by
 obtain ⟨r, q, r0, r1, hq, e⟩ := take_ok (by omega) h 4 (by omega) (by omega)
 obtain ⟨z, hz, i0⟩ := name_at (l := l) (i := 0) (by omega) (by omega)
 obtain ⟨a, ha, i1⟩ := name_at (l := ["f", "g", "h", z]) r0 (by simpa using r1)
 have na : NmS a := by
  rcases List.mem_append.mp (show a ∈ (["f", "g", "h"] : List Str) ++ [z] from ha) with k | k
  ·exact fgh_nm a k
  ·rw [List.mem_singleton.mp k]; exact hl z hz
 refine ⟨a, q, na, hq, ?_⟩
 have i1 : ixD (.list [.str "f", .str "g", .str "h", .str z]) (.int r) = some (.str a) := i1
 generalize l.map PyData.str = nl at *
 simp [f__law_sign, m__law_sign, fnOf, i0, e, i1, outsOf]
end ST
end
section
namespace SU
open PySem PySem.Spec PyProof.Rows L2 DL
noncomputable def g1__law_term : M D := (mOrV (mBin eqD (mVar 3) (mC (.int 0))) (mBin eqD (mVar 4) (mC (.int 0))))
noncomputable def g2__law_term : M Bool := (mAnd (mB (mVar 5)) (mAnd (mB (mBin neD (mLook 2) (mLstF mNil))) (mB (mBin gtD (mFrz (mCall SH.f__law_take (gO 0 (gD (mC (.int 3)) gNil)))) (mC (.int 0))))))
noncomputable abbrev e3__law_term (R : Fn) : M D := (mFrz (mCall R (gO 0 (gD (mVar 1) (gO 2 (gD (mBin subD (mVar 3) (mC (.int 1))) gNil))))))
noncomputable def m__law_term (R : Fn) : M Fl := (sSeq (sSet 4 (mFrz (mCall SH.f__law_take (gO 0 (gD (mC (.int 10)) gNil))))) (sSeq (sSet 5 g1__law_term) (sSeq (mIf g2__law_term (sRet (mD (mTup (mCons (mC (.str "hole")) (mCons (mFrz (mCall SH.f__law_turn (gO 0 (gD (mVar 1) gNil)))) (mCons (mLM 2 popD (mCons (mFrz (mCall SH.f__law_take (gO 0 (gD (mF1 lenD (mLook 2)) gNil)))) mNil)) mNil)))))) sNil) (sSeq (mIf (mB (mVar 5)) (sRet (mD (mTup (mCons (mC (.str "name")) (mCons (mBin ixD (mVar 1) (mFrz (mCall SH.f__law_take (gO 0 (gD (mF1 lenD (mVar 1)) gNil))))) mNil))))) sNil) (sSeq (mIf (mB (mBin ltD (mVar 4) (mC (.int 4)))) (sRet (mD (mTup (mCons (mC (.str "shut")) (mCons (mBin ixD (mVar 1) (mFrz (mCall SH.f__law_take (gO 0 (gD (mF1 lenD (mVar 1)) gNil))))) (mCons (mFrz (mCall R (gO 0 (gD (mVar 1) (gO 2 (gD (mBin subD (mVar 3) (mC (.int 1))) gNil)))))) mNil)))))) sNil) (sSeq (sSet 6 (mBin ixD (mLstF (mCons (mC (.int 0)) (mCons (mC (.int 1)) (mCons (mC (.int 2)) (mCons (mC (.int 2)) (mCons (mC (.int 3)) (mCons (mC (.int 3)) mNil))))))) (mFrz (mCall SH.f__law_take (gO 0 (gD (mC (.int 6)) gNil)))))) (sSeq (sSet 7 (mLstF (mLc [8] (mRange1 (mVar 6)) (tName 8) mYes (e3__law_term R)))) (sRet (mD (mTup (mCons (mC (.str "sign")) (mCons (mFrz (mCall ST.f__law_sign (gO 0 (gD (mVar 1) gNil)))) (mCons (mF1 tupD (mVar 7)) mNil)))))))))))))
noncomputable def f__law_term : Nat → Fn
 | 0 => fun _ => .bad
 | n + 1 => fnOf 9 4 [0, 2] (m__law_term (f__law_term n))
noncomputable def h1__law_term (a3 : D) (a4 : D) : Pr D :=
 oB (eqD a3 (.int 0)) fun v4 =>
 oB (bO v4) fun v5 =>
 pB (if v5 = true then
 .ok (.bool true) else
 oB (eqD a4 (.int 0)) fun v6 =>
 .ok v6) fun v7 =>
 .ok v7
theorem r1__law_term {T : Type} [Tg T] (a0 : Option OV) (a1 : Option OV) (a2 : Option OV) (a3 : D) (a4 : D) (u5 : Option OV) (u6 : Option OV) (u7 : Option OV) (u8 : Option OV) (k : D → DL.Env → T) : rB (g1__law_term [a0, a1, a2, some (.d a3), some (.d a4), u5, u6, u7, u8]) k hE = pB (h1__law_term a3 a4) fun z => k z [a0, a1, a2, some (.d a3), some (.d a4), u5, u6, u7, u8] := by
 simp (maxSteps := 2000000) only [g1__law_term, h1__law_term, e3__law_term, RB, Nat.reduceAdd, Nat.reduceBEq]
noncomputable def h2__law_term (a0 : Option OV) (a2 : Option OV) (a5 : D) : Pr (Bool × Option OV) :=
 oB (bO a5) fun v9 =>
 pB (if v9 = true then
 oB (lk a2) fun v10 =>
 oB (neD v10 (.list [])) fun v11 =>
 oB (bO v11) fun v12 =>
 pB (if v12 = true then
 oB a0 fun _ =>
 oB a0 fun v13 =>
 cB (SH.f__law_take [v13, .d (.int 3)]) fun v14 w15 =>
 oB (OV.frz v14) fun v16 =>
 oB (gtD v16 (.int 0)) fun v17 =>
 oB (bO v17) fun v18 =>
 .ok (v18, (gt w15 0)) else
 .ok (false, a0)) fun v19 =>
 .ok (v19.1, v19.2) else
 .ok (false, a0)) fun v20 =>
 .ok (v20.1, v20.2)
theorem r2__law_term {T : Type} [Tg T] (a0 : Option OV) (a1 : Option OV) (a2 : Option OV) (a3 : Option OV) (a4 : Option OV) (a5 : D) (u6 : Option OV) (u7 : Option OV) (u8 : Option OV) (k : Bool → DL.Env → T) : rB (g2__law_term [a0, a1, a2, a3, a4, some (.d a5), u6, u7, u8]) k hE = pB (h2__law_term a0 a2 a5) fun z => k z.1 [z.2, a1, a2, a3, a4, some (.d a5), u6, u7, u8] := by
 simp (maxSteps := 2000000) only [g2__law_term, h2__law_term, e3__law_term, RB, Nat.reduceAdd, Nat.reduceBEq, r1__law_term]
noncomputable def c3__law_term (R : Fn) (a1 : D) (a3 : D) (x : D) (s : Option OV × Option OV) : Pr (Option D × Option OV × Option OV) :=
 oB s.1 fun _ =>
 oB s.2 fun _ =>
 oB (subD a3 (.int 1)) fun v61 =>
 oB s.1 fun v62 =>
 oB s.2 fun v63 =>
 cB (R [v62, .d a1, v63, .d v61]) fun v64 w65 =>
 oB (OV.frz v64) fun v66 =>
 .ok (some v66, (gt w65 0), (gt w65 2))
theorem r3__law_term {T : Type} [Tg T] (R : Fn) (c0 : Option OV) (a1 : D) (c2 : Option OV) (a3 : D) (a4 : Option OV) (a5 : Option OV) (a6 : Option OV) (u7 : Option OV) (xs : List D) (k : List D → DL.Env → T) (h : Exc → DL.Env → T) : rB (lcGo [8] (tName 8) mYes (e3__law_term R) xs [c0, some (.d a1), c2, some (.d a3), a4, a5, a6, u7, none]) k h = nB (lcS (c3__law_term R a1 a3) xs (c0, c2)) fun z => k z.1 [z.2.1, some (.d a1), z.2.2, some (.d a3), a4, a5, a6, u7, none] :=
 lc_rBS (E := fun s => [s.1, some (.d a1), s.2, some (.d a3), a4, a5, a6, u7, none]) (pe := (c3__law_term R a1 a3)) (fun x s => by unfold lst1; simp (maxSteps := 2000000) only [c3__law_term, e3__law_term, RB, Nat.reduceAdd, Nat.reduceBEq, r1__law_term, r2__law_term]) xs (c0, c2) k h
theorem eq__law_term (n : Nat) (x0 : OV) (x1 : D) (x2 : OV) (x3 : D) : f__law_term (n + 1) [x0, .d x1, x2, .d x3] =
 cB (SH.f__law_take [x0, .d (.int 10)]) fun v1 w2 =>
 oB (OV.frz v1) fun v3 =>
 pB (h1__law_term x3 v3) fun v8 =>
 pB (h2__law_term (gt w2 0) (some x2) v8) fun v21 =>
 if v21.1 = true then
 oB v21.2 fun _ =>
 oB v21.2 fun v22 =>
 cB (SH.f__law_turn [v22, .d x1]) fun v23 w24 =>
 oB (OV.frz v23) fun v25 =>
 oB (lO (some x2)) fun v26 =>
 oB (gt w24 0) fun _ =>
 oB (lk (some x2)) fun v27 =>
 oB (lenD v27) fun v28 =>
 oB (gt w24 0) fun v29 =>
 cB (SH.f__law_take [v29, .d v28]) fun v30 w31 =>
 oB (OV.frz v30) fun v32 =>
 oB (lO (some x2)) fun v33 =>
 oB (popD v33 [v32]) fun v34 =>
 .ok (.d (.tuple [(.str "hole"), v25, v34.2])) [(gt w31 0), some (.d x1), (some (.lst v34.1)), some (.d x3)] else
 oB (bO v8) fun v35 =>
 if v35 = true then
 oB v21.2 fun _ =>
 oB (lenD x1) fun v36 =>
 oB v21.2 fun v37 =>
 cB (SH.f__law_take [v37, .d v36]) fun v38 w39 =>
 oB (OV.frz v38) fun v40 =>
 oB (ixD x1 v40) fun v41 =>
 .ok (.d (.tuple [(.str "name"), v41])) [(gt w39 0), some (.d x1), (some x2), some (.d x3)] else
 oB (ltD v3 (.int 4)) fun v42 =>
 oB (bO v42) fun v43 =>
 if v43 = true then
 oB v21.2 fun _ =>
 oB (lenD x1) fun v44 =>
 oB v21.2 fun v45 =>
 cB (SH.f__law_take [v45, .d v44]) fun v46 w47 =>
 oB (OV.frz v46) fun v48 =>
 oB (ixD x1 v48) fun v49 =>
 oB (gt w47 0) fun _ =>
 oB (subD x3 (.int 1)) fun v50 =>
 oB (gt w47 0) fun v51 =>
 cB (f__law_term n [v51, .d x1, x2, .d v50]) fun v52 w53 =>
 oB (OV.frz v52) fun v54 =>
 .ok (.d (.tuple [(.str "shut"), v49, v54])) [(gt w53 0), some (.d x1), (gt w53 2), some (.d x3)] else
 oB v21.2 fun _ =>
 oB v21.2 fun v55 =>
 cB (SH.f__law_take [v55, .d (.int 6)]) fun v56 w57 =>
 oB (OV.frz v56) fun v58 =>
 oB (ixD (.list [(.int 0), (.int 1), (.int 2), (.int 2), (.int 3), (.int 3)]) v58) fun v59 =>
 oB (range1 v59) fun v60 =>
 nB (lcS (c3__law_term (f__law_term n) x1 x3) v60 ((gt w57 0), (some x2))) fun v67 =>
 oB v67.2.1 fun _ =>
 oB v67.2.1 fun v68 =>
 cB (ST.f__law_sign [v68, .d x1]) fun v69 w70 =>
 oB (OV.frz v69) fun v71 =>
 oB (tupD (.list v67.1)) fun v72 =>
 .ok (.d (.tuple [(.str "sign"), v71, v72])) [(gt w70 0), some (.d x1), v67.2.2, some (.d x3)] := by
 refine (fn_eq (n := 9) (np := 4) (fx := [0, 2]) (os := [x0, .d x1, x2, .d x3]) (m := (m__law_term (f__law_term n))) (ρ := [some x0, some (.d x1), some x2, some (.d x3), none, none, none, none, none]) rfl rfl).trans ?_
 have oe : ∀ ρ : DL.Env, outsOf [0, 2] ρ 0 [x0, .d x1, x2, .d x3] = [gt ρ 0, some (.d x1), gt ρ 2, some (.d x3)] := fun _ => rfl
 simp (maxSteps := 2000000) only [m__law_term, e3__law_term, RB, Nat.reduceAdd, Nat.reduceBEq, r1__law_term, r2__law_term, r3__law_term, oe]
noncomputable def g1__law_any : M Fl := (sK [] (mIf (mB (mBin eqD (mFrz (mCall SH.f__law_take (gO 0 (gD (mC (.int 3)) gNil)))) (mC (.int 0)))) (sSet 4 (mTup (mCons (mC (.str "sign")) (mCons (mFrz (mCall ST.f__law_sign (gO 0 (gD (mVar 1) gNil)))) (mCons (mTup (mCons (mVar 4) mNil)) mNil))))) (sSet 4 (mTup (mCons (mC (.str "shut")) (mCons (mBin ixD (mVar 1) (mFrz (mCall SH.f__law_take (gO 0 (gD (mF1 lenD (mVar 1)) gNil))))) (mCons (mVar 4) mNil)))))))
noncomputable abbrev b2__law_any : M Fl := (sK [5] g1__law_any)
noncomputable abbrev e3__law_any : M D := (mFrz (mCall (SU.f__law_term 40) (gO 0 (gD (mVar 1) (gO 2 (gD (mC (.int 1)) gNil))))))
noncomputable def m__law_any : M Fl := (sSeq (sSet 3 (mFrz (mCall SH.f__law_take (gO 0 (gD (mC (.int 5)) gNil))))) (sSeq (mIf (mB (mBin eqD (mVar 3) (mC (.int 3)))) (sSeq (sSet 4 (mFrz (mCall (SU.f__law_term 40) (gO 0 (gD (mVar 1) (gO 2 (gD (mC (.int 2)) gNil))))))) (sSeq (sKb [5] (sFor (mRange1 (mBin addD (mC (.int 1)) (mFrz (mCall SH.f__law_take (gO 0 (gD (mC (.int 9)) gNil)))))) (tName 5) b2__law_any)) (sRet (mD (mVar 4))))) sNil) (sSeq (mIf (mB (mBin eqD (mVar 3) (mC (.int 4)))) (sSeq (sSet 6 (mLstF (mLc [5] (mRange1 (mFrz (mCall SH.f__law_take (gO 0 (gD (mC (.int 7)) gNil))))) (tName 5) mYes e3__law_any))) (sRet (mD (mTup (mCons (mC (.str "sign")) (mCons (mFrz (mCall ST.f__law_sign (gO 0 (gD (mVar 1) gNil)))) (mCons (mF1 tupD (mVar 6)) mNil))))))) sNil) (sRet (mCall (SU.f__law_term 40) (gO 0 (gD (mVar 1) (gO 2 (gD (mC (.int 3)) gNil)))))))))
noncomputable def f__law_any : Fn := fnOf 7 3 [0, 2] m__law_any
noncomputable def h2__law_any (a0 : Option OV) (a1 : D) (a4 : D) : Pr (Option OV × D) :=
 oB a0 fun _ =>
 oB a0 fun v16 =>
 cB (SH.f__law_take [v16, .d (.int 3)]) fun v17 w18 =>
 oB (OV.frz v17) fun v19 =>
 oB (eqD v19 (.int 0)) fun v20 =>
 oB (bO v20) fun v21 =>
 pB (if v21 = true then
 oB (gt w18 0) fun _ =>
 oB (gt w18 0) fun v22 =>
 cB (ST.f__law_sign [v22, .d a1]) fun v23 w24 =>
 oB (OV.frz v23) fun v25 =>
 .ok ((gt w24 0), (.tuple [(.str "sign"), v25, (.tuple [a4])])) else
 oB (gt w18 0) fun _ =>
 oB (lenD a1) fun v26 =>
 oB (gt w18 0) fun v27 =>
 cB (SH.f__law_take [v27, .d v26]) fun v28 w29 =>
 oB (OV.frz v28) fun v30 =>
 oB (ixD a1 v30) fun v31 =>
 .ok ((gt w29 0), (.tuple [(.str "shut"), v31, a4]))) fun s32 =>
 .ok (s32.1, s32.2)
theorem r2__law_any {T : Type} [Tg T] (a0 : Option OV) (a1 : D) (a2 : Option OV) (a3 : Option OV) (a4 : D) (a5 : Option OV) (u6 : Option OV) (k : Fl → DL.Env → T) : rB (g1__law_any [a0, some (.d a1), a2, a3, some (.d a4), a5, u6]) k hE = pB (h2__law_any a0 a1 a4) fun z => k .nx [z.1, some (.d a1), a2, a3, some (.d z.2), a5, u6] := by
 simp (maxSteps := 2000000) only [g1__law_any, h2__law_any, e3__law_any, RB, Nat.reduceAdd, Nat.reduceBEq]
noncomputable def q1__law_any (a1 : D) (x : D) (s : Option OV × D) : Pr (Option OV × D) :=
 pB (h2__law_any s.1 a1 s.2) fun s33 =>
 .ok (s33.1, s33.2)
theorem r1__law_any {T : Type} [Tg T] (c0 : Option OV) (a1 : D) (a2 : Option OV) (a3 : Option OV) (c4 : D) (u6 : Option OV) (xs : List D) (k : Fl → DL.Env → T) : rB (forGo (tName 5) b2__law_any xs [c0, some (.d a1), a2, a3, some (.d c4), none, u6]) k hE = pB (forS (q1__law_any a1) xs (c0, c4)) fun s => k .nx [s.1, some (.d a1), a2, a3, some (.d s.2), none, u6] :=
 for_rB (E := fun (s : Option OV × D) => [s.1, some (.d a1), a2, a3, some (.d s.2), none, u6]) (pb := (q1__law_any a1)) (fun x s => by unfold stp; simp (maxSteps := 2000000) only [b2__law_any, q1__law_any, e3__law_any, RB, Nat.reduceAdd, Nat.reduceBEq, r2__law_any]) k xs (c0, c4)
noncomputable def c3__law_any (a1 : D) (x : D) (s : Option OV × Option OV) : Pr (Option D × Option OV × Option OV) :=
 oB s.1 fun _ =>
 oB s.2 fun _ =>
 oB s.1 fun v42 =>
 oB s.2 fun v43 =>
 cB ((SU.f__law_term 40) [v42, .d a1, v43, .d (.int 1)]) fun v44 w45 =>
 oB (OV.frz v44) fun v46 =>
 .ok (some v46, (gt w45 0), (gt w45 2))
theorem r3__law_any {T : Type} [Tg T] (c0 : Option OV) (a1 : D) (c2 : Option OV) (a3 : Option OV) (u4 : Option OV) (u6 : Option OV) (xs : List D) (k : List D → DL.Env → T) (h : Exc → DL.Env → T) : rB (lcGo [5] (tName 5) mYes e3__law_any xs [c0, some (.d a1), c2, a3, u4, none, u6]) k h = nB (lcS (c3__law_any a1) xs (c0, c2)) fun z => k z.1 [z.2.1, some (.d a1), z.2.2, a3, u4, none, u6] :=
 lc_rBS (E := fun s => [s.1, some (.d a1), s.2, a3, u4, none, u6]) (pe := (c3__law_any a1)) (fun x s => by unfold lst1; simp (maxSteps := 2000000) only [c3__law_any, e3__law_any, RB, Nat.reduceAdd, Nat.reduceBEq, r2__law_any, r1__law_any]) xs (c0, c2) k h
theorem eq__law_any (x0 : OV) (x1 : D) (x2 : OV) : f__law_any [x0, .d x1, x2] =
 cB (SH.f__law_take [x0, .d (.int 5)]) fun v1 w2 =>
 oB (OV.frz v1) fun v3 =>
 oB (eqD v3 (.int 3)) fun v4 =>
 oB (bO v4) fun v5 =>
 if v5 = true then
 oB (gt w2 0) fun _ =>
 oB (gt w2 0) fun v6 =>
 cB ((SU.f__law_term 40) [v6, .d x1, x2, .d (.int 2)]) fun v7 w8 =>
 oB (OV.frz v7) fun v9 =>
 oB (gt w8 0) fun _ =>
 oB (gt w8 0) fun v10 =>
 cB (SH.f__law_take [v10, .d (.int 9)]) fun v11 w12 =>
 oB (OV.frz v11) fun v13 =>
 oB (addD (.int 1) v13) fun v14 =>
 oB (range1 v14) fun v15 =>
 pB (forS (q1__law_any x1) v15 ((gt w12 0), v9)) fun s34 =>
 .ok (.d s34.2) [s34.1, some (.d x1), (gt w8 2)] else
 oB (eqD v3 (.int 4)) fun v35 =>
 oB (bO v35) fun v36 =>
 if v36 = true then
 oB (gt w2 0) fun _ =>
 oB (gt w2 0) fun v37 =>
 cB (SH.f__law_take [v37, .d (.int 7)]) fun v38 w39 =>
 oB (OV.frz v38) fun v40 =>
 oB (range1 v40) fun v41 =>
 nB (lcS (c3__law_any x1) v41 ((gt w39 0), (some x2))) fun v47 =>
 oB v47.2.1 fun _ =>
 oB v47.2.1 fun v48 =>
 cB (ST.f__law_sign [v48, .d x1]) fun v49 w50 =>
 oB (OV.frz v49) fun v51 =>
 oB (tupD (.list v47.1)) fun v52 =>
 .ok (.d (.tuple [(.str "sign"), v51, v52])) [(gt w50 0), some (.d x1), v47.2.2] else
 oB (gt w2 0) fun _ =>
 oB (gt w2 0) fun v53 =>
 cB ((SU.f__law_term 40) [v53, .d x1, x2, .d (.int 3)]) fun v54 w55 =>
 .ok v54 [(gt w55 0), some (.d x1), (gt w55 2)] := by
 refine (fn_eq (n := 7) (np := 3) (fx := [0, 2]) (os := [x0, .d x1, x2]) (m := m__law_any) (ρ := [some x0, some (.d x1), some x2, none, none, none, none]) rfl rfl).trans ?_
 have oe : ∀ ρ : DL.Env, outsOf [0, 2] ρ 0 [x0, .d x1, x2] = [gt ρ 0, some (.d x1), gt ρ 2] := fun _ => rfl
 simp (maxSteps := 2000000) only [m__law_any, e3__law_any, RB, Nat.reduceAdd, Nat.reduceBEq, r2__law_any, r1__law_any, r3__law_any, oe]
noncomputable def m__law_in : M Fl := (sSeq (mIf (mB (mBin eqD (mBin ixD (mVar 0) (mC (.int 0))) (mC (.str "shut")))) (sRet (mLst (mCons (mBin ixD (mVar 0) (mC (.int 2))) mNil))) sNil) (sSeq (mIf (mB (mBin eqD (mBin ixD (mVar 0) (mC (.int 0))) (mC (.str "sign")))) (sRet (mLst (mFN listD (mBin ixD (mVar 0) (mC (.int 2)))))) sNil) (sRet (mLst mNil))))
noncomputable def f__law_in : Fn := fnOf 1 1 [] m__law_in
theorem eq__law_in (x0 : D) : f__law_in [.d x0] =
 oB (ixD x0 (.int 0)) fun v1 =>
 oB (eqD v1 (.str "shut")) fun v2 =>
 oB (bO v2) fun v3 =>
 if v3 = true then
 oB (ixD x0 (.int 2)) fun v4 =>
 .ok (.lst [v4]) [some (.d x0)] else
 oB (ixD x0 (.int 0)) fun v5 =>
 oB (eqD v5 (.str "sign")) fun v6 =>
 oB (bO v6) fun v7 =>
 if v7 = true then
 oB (ixD x0 (.int 2)) fun v8 =>
 oB (listD v8) fun v9 =>
 .ok (.lst v9) [some (.d x0)] else
 .ok (.lst []) [some (.d x0)] := by
 refine (fn_eq (n := 1) (np := 1) (fx := []) (os := [.d x0]) (m := m__law_in) (ρ := [some (.d x0)]) rfl rfl).trans ?_
 have oe : ∀ ρ : DL.Env, outsOf [] ρ 0 [.d x0] = [some (.d x0)] := fun _ => rfl
 simp (maxSteps := 2000000) only [m__law_in, RB, Nat.reduceAdd, Nat.reduceBEq, oe]
noncomputable abbrev b1__law_parts (R : Fn) : M Fl := (sK [2] (sSet 1 (mBin addD (mVar 1) (mFrz (mCall R (gD (mVar 2) gNil))))))
noncomputable def m__law_parts (R : Fn) : M Fl := (sSeq (sSet 1 (mLstF (mCons (mVar 0) mNil))) (sSeq (sKb [2] (sFor (mItems (mFrz (mCall SU.f__law_in (gD (mVar 0) gNil)))) (tName 2) (b1__law_parts R))) (sRet (mD (mVar 1)))))
noncomputable def f__law_parts : Nat → Fn
 | 0 => fun _ => .bad
 | n + 1 => fnOf 3 1 [] (m__law_parts (f__law_parts n))
noncomputable def q1__law_parts (R : Fn) (x : D) (s : D) : Pr D :=
 cB (R [.d x]) fun v5 w6 =>
 oB (OV.frz v5) fun v7 =>
 oB (addD s v7) fun v8 =>
 .ok v8
theorem r1__law_parts {T : Type} [Tg T] (R : Fn) (a0 : Option OV) (c1 : D) (xs : List D) (k : Fl → DL.Env → T) : rB (forGo (tName 2) (b1__law_parts R) xs [a0, some (.d c1), none]) k hE = pB (forS (q1__law_parts R) xs c1) fun s => k .nx [a0, some (.d s), none] :=
 for_rB (E := fun (s : D) => [a0, some (.d s), none]) (pb := (q1__law_parts R)) (fun x s => by unfold stp; simp (maxSteps := 2000000) only [b1__law_parts, q1__law_parts, RB, Nat.reduceAdd, Nat.reduceBEq]) k xs c1
theorem eq__law_parts (n : Nat) (x0 : D) : f__law_parts (n + 1) [.d x0] =
 cB (SU.f__law_in [.d x0]) fun v1 w2 =>
 oB (OV.frz v1) fun v3 =>
 oB (itemsD v3) fun v4 =>
 pB (forS (q1__law_parts (f__law_parts n)) v4 (.list [x0])) fun s9 =>
 .ok (.d s9) [some (.d x0)] := by
 refine (fn_eq (n := 3) (np := 1) (fx := []) (os := [.d x0]) (m := (m__law_parts (f__law_parts n))) (ρ := [some (.d x0), none, none]) rfl rfl).trans ?_
 have oe : ∀ ρ : DL.Env, outsOf [] ρ 0 [.d x0] = [some (.d x0)] := fun _ => rfl
 simp (maxSteps := 2000000) only [m__law_parts, RB, Nat.reduceAdd, Nat.reduceBEq, r1__law_parts, oe]
noncomputable def h2__law_small (a0 : Option OV) (a1 : D) (a3 : D) : Pr (Option OV × D) :=
 oB a0 fun _ =>
 oB a0 fun v14 =>
 cB (SH.f__law_take [v14, .d (.int 3)]) fun v15 w16 =>
 oB (OV.frz v15) fun v17 =>
 oB (eqD v17 (.int 0)) fun v18 =>
 oB (bO v18) fun v19 =>
 pB (if v19 = true then
 oB (gt w16 0) fun _ =>
 oB (gt w16 0) fun v20 =>
 cB (ST.f__law_sign [v20, .d a1]) fun v21 w22 =>
 oB (OV.frz v21) fun v23 =>
 .ok ((gt w22 0), (.tuple [(.str "sign"), v23, (.tuple [a3])])) else
 oB (gt w16 0) fun _ =>
 oB (lenD a1) fun v24 =>
 oB (gt w16 0) fun v25 =>
 cB (SH.f__law_take [v25, .d v24]) fun v26 w27 =>
 oB (OV.frz v26) fun v28 =>
 oB (ixD a1 v28) fun v29 =>
 .ok ((gt w27 0), (.tuple [(.str "shut"), v29, a3]))) fun s30 =>
 .ok (s30.1, s30.2)
end SU
end
section
namespace ST
open PySem PySem.Spec PyProof.Rows L2 DL SH SU
theorem erase_map {α β : Type} (f : α → β) : ∀ (l : List α) (i : Nat), (l.map f).eraseIdx i = (l.eraseIdx i).map f
 | [], _ => rfl
 | _ :: _, 0 => rfl
 | a :: l, i + 1 => by rw [List.map_cons, List.eraseIdx_cons_succ, List.eraseIdx_cons_succ, List.map_cons, erase_map f l i]
theorem pop_str {hs : List Str} {r : Int} (h0 : 0 ≤ r) (h1 : r < hs.length) (hl : hs.length ≤ 1000) : ∃ s hs', s ∈ hs ∧ (s :: hs').Perm hs ∧ popD (hs.map .str) [.int r] = some (hs'.map .str, .str s) := by
 have hi : r.toNat < hs.length := by omega
 refine ⟨hs[r.toNat], hs.eraseIdx r.toNat, List.getElem_mem _, cut_perm hs r.toNat hi, ?_⟩
 have hb : -(2 ^ 63) ≤ r ∧ r < 2 ^ 63 := by omega
 have sq : seqIndex? r (hs.map PyData.str).length = some r.toNat := by
  unfold seqIndex?
  rw [List.length_map]
  have : ¬ r < 0 := by omega
  simp only [this, if_false]
  simp [h0, h1]
 have g : (hs.map PyData.str)[r.toNat]? = some (.str hs[r.toNat]) := by simp [hi]
 simp only [popD, hb, if_pos, sq, Option.bind_some, g, Option.map_some, and_self, if_true]
 rw [erase_map]
def OfT (l hs : List Str) : Nat → Tm → Prop
 | 0, _ => False
 | _ + 1, .nm s => s ∈ l
 | _ + 1, .hole t x => Turn t ∧ t.length ≤ 6 ∧ (∀ s ∈ keys t, s ∈ l) ∧ x ∈ hs
 | n + 1, .shut a b => a ∈ l ∧ OfT l hs n b
 | n + 1, .sign a ts => NmS a ∧ ts.length ≤ 6 ∧ ∀ b ∈ ts, OfT l hs n b
theorem OfT.up {l hs : List Str} {n : Nat} : ∀ {t : Tm}, OfT l hs n t → OfT l hs (n + 1) t := by
 induction n with
 | zero => intro t h; exact h.elim
 | succ n ih =>
  intro t h
  cases t with
  | nm s => exact h
  | hole t x => exact h
  | shut a b => exact ⟨h.1, ih h.2⟩
  | sign a ts => exact ⟨h.1, h.2.1, fun b hb => ih (h.2.2 b hb)⟩
theorem OfT.lift {l hs : List Str} {n : Nat} {t : Tm} (h : OfT l hs n t) : ∀ k, OfT l hs (n + k) t
 | 0 => h
 | k + 1 => (OfT.lift h k).up
theorem OfT.to {l hs : List Str} {n m : Nat} {t : Tm} (h : OfT l hs n t) (hm : n ≤ m) : OfT l hs m t := by
 have := h.lift (m - n)
 rwa [show n + (m - n) = m by omega] at this
theorem OfT.of {l hs hs' : List Str} (hh : ∀ s ∈ hs', s ∈ hs) {n : Nat} : ∀ {t : Tm}, OfT l hs' n t → OfT l hs n t := by
 induction n with
 | zero => intro t h; exact h.elim
 | succ n ih =>
  intro t h
  cases t with
  | nm s => exact h
  | hole t x => exact ⟨h.1, h.2.1, h.2.2.1, hh _ h.2.2.2⟩
  | shut a b => exact ⟨h.1, ih h.2⟩
  | sign a ts => exact ⟨h.1, h.2.1, fun b hb => ih (h.2.2 b hb)⟩
theorem OfT.ok {l hs : List Str} (hl : ∀ s ∈ l, NmS s) (hh : ∀ s ∈ hs, HlS s) {n : Nat} : ∀ {t : Tm}, OfT l hs n t → OkT n t := by
 induction n with
 | zero => intro t h; exact h.elim
 | succ n ih =>
  intro t h
  cases t with
  | nm s => exact hl s h
  | hole t x => exact ⟨h.1, h.2.1, hh x h.2.2.2⟩
  | shut a b => exact ⟨hl a h.1, ih h.2⟩
  | sign a ts => exact ⟨h.1, h.2.1, fun b hb => ih (h.2.2 b hb)⟩
def Few (k : Nat) (t : Tm) : Prop := ∀ m, (everyP m t).length ≤ k
theorem Few.up {k j : Nat} {t : Tm} (h : Few k t) (hk : k ≤ j) : Few j t := fun m => Nat.le_trans (h m) hk
theorem few_leaf {t : Tm} (h : innerT t = []) : Few 1 t := fun m => by
 cases m with
 | zero => exact Nat.zero_le _
 | succ m => show (t :: (innerT t).flatMap (everyP m)).length ≤ 1; rw [h]; simp
theorem few_sum {k m : Nat} : ∀ {ts : List Tm}, (∀ b ∈ ts, Few k b) → (ts.flatMap (everyP m)).length ≤ ts.length * k
 | [], _ => by simp
 | b :: ts, h => by
  rw [List.flatMap_cons, List.length_append, List.length_cons, Nat.add_mul, Nat.one_mul]
  have h1 := h b List.mem_cons_self m
  have h2 := few_sum (m := m) fun c hc => h c (List.mem_cons_of_mem _ hc)
  omega
theorem few_in {k j : Nat} {t : Tm} (h : ∀ b ∈ innerT t, Few k b) (hj : (innerT t).length ≤ j) : Few (1 + j * k) t := fun m => by
 cases m with
 | zero => exact Nat.zero_le _
 | succ m =>
  show (t :: (innerT t).flatMap (everyP m)).length ≤ _
  rw [List.length_cons]
  have := few_sum (m := m) h
  have := Nat.mul_le_mul_right k hj
  omega
def bd : Nat → Nat
 | 0 => 1
 | d + 1 => 1 + 3 * bd d
theorem bd_pos (d : Nat) : 1 ≤ bd d := by cases d with
 | zero => exact Nat.le_refl _
 | succ d => show 1 ≤ 1 + _; omega
theorem ne_nil (hs : List Str) (hh : ∀ s ∈ hs, PyData.strOk s = true) : neD (.list (hs.map .str)) (.list []) = some (.bool (!decide (hs = []))) := ne_strs (b := []) hh (fun _ h => by cases h)
theorem six_of {r : Int} (h0 : 0 ≤ r) (h1 : r < 6) : ∃ m : Nat, m ≤ 3 ∧ ixD (.list [.int 0, .int 1, .int 2, .int 2, .int 3, .int 3]) (.int r) = some (.int (m : Nat)) := by
 have : r = 0 ∨ r = 1 ∨ r = 2 ∨ r = 3 ∨ r = 4 ∨ r = 5 := by omega
 rcases this with rfl | rfl | rfl | rfl | rfl | rfl
 ·exact ⟨0, by omega, rfl⟩
 ·exact ⟨1, by omega, rfl⟩
 ·exact ⟨2, by omega, rfl⟩
 ·exact ⟨2, by omega, rfl⟩
 ·exact ⟨3, by omega, rfl⟩
 ·exact ⟨3, by omega, rfl⟩
structure Drawn (l hs : List Str) (lv cnt B : Nat) (t : Tm) (p' : List D) (hs' : List Str) : Prop where
 of : OfT l hs lv t
 few : Few cnt t
 sub : ∀ s ∈ hs', s ∈ hs
 len : hs'.length ≤ hs.length
 pile : Pile B p'
def TermOk (d : Nat) : Prop := ∀ (n : Nat), d < n → ∀ {B : Nat}, B + 40 * bd d < 2 ^ 46 → ∀ {p : List D}, Pile B p → ∀ {l : List Str}, Names 6 l → 1 ≤ l.length → ∀ {hs : List Str}, hs.length ≤ 100 → (∀ s ∈ hs, HlS s) → ∃ t p' hs', Drawn l hs (d + 1) (bd d) (B + 40 * bd d) t p' hs' ∧ f__law_term n [.lst p, .d (.list (l.map .str)), .lst (hs.map .str), .d (.int (d : Nat))] = .ok (.d (tmD t)) [some (.lst p'), some (.d (.list (l.map .str))), some (.lst (hs'.map .str)), some (.d (.int (d : Nat)))]
theorem hole_len {l : List Str} (n : Names 6 l) {t : PL} (T : Turn t) (h : ∀ s ∈ keys t, s ∈ l) : t.length ≤ 6 := n.fit T h
theorem term_step (d : Nat) (hd : d ≤ 3) (ih : ∀ e, d = e + 1 → TermOk e) : TermOk d := by
 intro n hn B hB p hp l nl l1 hs hl hh
 cases n with
 | zero => omega
 | succ n =>
  have b1 := bd_pos d
  have big := size_big
  have l6 := nl.len
  obtain ⟨kd, p1, k0, k1, hp1, e1⟩ := take_ok (by omega) hp 10 (by omega) (by omega)
  have x1 : h1__law_term (.int (d : Nat)) (.int kd) = .ok (.bool (decide (d = 0) || decide (kd = 0))) := by
   by_cases h : d = 0
   ·subst h; simp [h1__law_term, eq_i]
   ·have h' : ¬ (d : Int) = 0 := by omega
    simp [h1__law_term, eq_i, h, h']
  obtain ⟨b, p2, hp2, hb, x2⟩ : ∃ b p2, Pile (B + 2) p2 ∧ (b = true → hs ≠ []) ∧ h2__law_term (some (.lst p1)) (some (.lst (hs.map .str))) (.bool (decide (d = 0) || decide (kd = 0))) = .ok (b, some (.lst p2)) := by
   have ne := ne_nil hs fun s hs => (hh s hs).fit.ok
   cases (decide (d = 0) || decide (kd = 0)) with
   | false => exact ⟨false, p1, hp1.up (by omega), fun z => (by cases z), by simp [h2__law_term]⟩
   | true =>
    by_cases he : hs = []
    ·subst he
     exact ⟨false, p1, hp1.up (by omega), fun z => (by cases z), by rw [List.map_nil] at ne ⊢; simp [h2__law_term, ne]⟩
    ·obtain ⟨r, p2, r0, r1, hp2, e2⟩ := take_ok (by omega) hp1 3 (by omega) (by omega)
     refine ⟨decide (0 < r), p2, hp2, fun _ => he, ?_⟩
     have g : gtD (.int r) (.int 0) = some (.bool (decide (0 < r))) := rfl
     generalize hs.map PyData.str = hh at *
     simp [h2__law_term, ne, he, e2, g]
  have ln := len_m PyData.str l
  rw [eq__law_term]
  cases b with
  | true =>
   have hb := hb rfl
   obtain ⟨u, p3, U, hu, hp3, e3⟩ := drawn_ok (by omega) hp2 nl l1 (by omega)
   have h0 : 0 < hs.length := List.length_pos_iff.mpr hb
   obtain ⟨r, p4, r0, r1, hp4, e4⟩ := take_ok (by omega) hp3 (hs.length : Nat) (by omega) (by omega)
   obtain ⟨x, hs', hx, pm, pp⟩ := pop_str r0 r1 (by omega)
   have pl := pm.length_eq
   rw [List.length_cons] at pl
   refine ⟨.hole u x, p4, hs', ⟨⟨U, hole_len nl U hu, hu, hx⟩, (few_leaf rfl).up b1, fun s h => pm.mem_iff.mp (List.mem_cons_of_mem _ h), by omega, hp4.up (by omega)⟩, ?_⟩
   have lh := len_m PyData.str hs
   rw [tmD]
   generalize hs.map PyData.str = hh at *
   generalize hs'.map PyData.str = hh' at *
   generalize l.map PyData.str = nn at *
   generalize tD u = uu at *
   simp [e1, x1, x2, e3, lh, e4, pp]
  | false =>
   cases hlf : (decide (d = 0) || decide (kd = 0)) with
   | true =>
    rw [hlf] at x1 x2
    obtain ⟨r, p3, r0, r1, hp3, e3⟩ := take_ok (by omega) hp2 (l.length : Nat) (by omega) (by omega)
    obtain ⟨s, hs1, i1⟩ := name_at r0 r1
    refine ⟨.nm s, p3, hs, ⟨hs1, (few_leaf rfl).up b1, fun _ h => h, Nat.le_refl _, hp3.up (by omega)⟩, ?_⟩
    rw [tmD]
    generalize hs.map PyData.str = hh at *
    generalize l.map PyData.str = nn at *
    simp [e1, x1, x2, ln, e3, i1]
   | false =>
    rw [hlf] at x1 x2
    have hd0 : ¬ d = 0 := fun z => by rw [z] at hlf; cases hlf
    obtain ⟨e, rfl⟩ : ∃ e, d = e + 1 := ⟨d - 1, by omega⟩
    have be : bd (e + 1) = 1 + 3 * bd e := rfl
    have b40 : bd e ≤ 13 := by
     have : e ≤ 2 := by omega
     rcases (by omega : e = 0 ∨ e = 1 ∨ e = 2) with rfl | rfl | rfl <;> decide
    have be1 := bd_pos e
    have sb : subD (.int ((e + 1 : Nat) : Int)) (.int 1) = some (.int (e : Nat)) := by rw [sub_i]; congr 2; omega
    by_cases h4 : kd < 4
    ·obtain ⟨r, p3, r0, r1, hp3, e3⟩ := take_ok (by omega) hp2 (l.length : Nat) (by omega) (by omega)
     obtain ⟨s, hs1, i1⟩ := name_at r0 r1
     obtain ⟨t, p4, hs', q, e4⟩ := ih e rfl n (by omega) (by omega) hp3 nl l1 hl hh
     refine ⟨.shut s t, p4, hs', ⟨⟨hs1, q.of⟩, (few_in (k := bd e) (j := 1) (fun b hb => by rw [List.mem_singleton.mp hb]; exact q.few) (by simp [innerT])).up (by omega), q.sub, q.len, q.pile.up (by omega)⟩, ?_⟩
     have lt : ltD (.int kd) (.int 4) = some (.bool true) := by rw [lt_i]; simp [h4]
     rw [tmD]
     generalize hs.map PyData.str = hh at *
     generalize hs'.map PyData.str = hh' at *
     generalize l.map PyData.str = nn at *
     generalize tmD t = tt at *
     generalize ((e + 1 : Nat) : Int) = z at *
     simp [e1, x1, x2, ln, e3, i1, lt, sb, e4]
    ·obtain ⟨r, p3, r0, r1, hp3, e3⟩ := take_ok (by omega) hp2 6 (by omega) (by omega)
     obtain ⟨m, m3, i1⟩ := six_of r0 r1
     have hr := range_ok m (by omega)
     obtain ⟨ts, s', e4, g1, g2, g3, g4, p4, hs', g5, g6, g7, g8⟩ := lcS_inv (pe := c3__law_term (f__law_term n) (.list (l.map .str)) (.int ((e + 1 : Nat) : Int))) (G := tmD) (xs := rangeL 0 m) (s := (some (.lst p3), some (.lst (hs.map .str))))
      (fun i ts s => ts.length = i ∧ (∀ b ∈ ts, OfT l hs (e + 1) b) ∧ (∀ b ∈ ts, Few (bd e) b) ∧ i ≤ m ∧ ∃ p4 hs', s = (some (.lst p4), some (.lst (hs'.map .str))) ∧ (∀ s ∈ hs', s ∈ hs) ∧ hs'.length ≤ hs.length ∧ Pile (B + 3 + i * (40 * bd e)) p4)
      ⟨rfl, (fun b hb => by cases hb), (fun b hb => by cases hb), Nat.zero_le _, p3, hs, rfl, fun _ h => h, Nat.le_refl _, by simpa using hp3⟩ fun i x ts s hx ⟨f1, f2, f3, f4, p4, hs', f5, f6, f7, f8⟩ => by
       subst f5
       obtain ⟨hi, rfl⟩ := range_at hx
       have : i * (40 * bd e) ≤ 2 * (40 * bd e) := Nat.mul_le_mul_right _ (by omega)
       obtain ⟨t, p5, hs2, q, e5⟩ := ih e rfl n (by omega) (by omega) f8 nl l1 (by omega) fun s h => hh s (f6 s h)
       refine ⟨t, (some (.lst p5), some (.lst (hs2.map .str))), ?_, by rw [List.length_append, f1]; rfl, ?_, ?_, by omega, p5, hs2, rfl, fun s h => f6 s (q.sub s h), Nat.le_trans q.len f7, q.pile.up (by rw [Nat.add_mul, Nat.one_mul]; omega)⟩
       ·generalize ((e + 1 : Nat) : Int) = z at *
        simp [c3__law_term, sb, e5]
       ·intro b hb
        rcases List.mem_append.mp hb with hb | hb
        ·exact f2 b hb
        ·rw [List.mem_singleton.mp hb]; exact q.of.of f6
       ·intro b hb
        rcases List.mem_append.mp hb with hb | hb
        ·exact f3 b hb
        ·rw [List.mem_singleton.mp hb]; exact q.few
     subst g5
     rw [range_len] at g1 g4 g8
     have : m * (40 * bd e) ≤ 3 * (40 * bd e) := Nat.mul_le_mul_right _ m3
     obtain ⟨a, p5, na, hp5, e5⟩ := sign_ok (by omega) g8 nl.nm l1
     refine ⟨.sign a ts, p5, hs', ⟨⟨na, by omega, g2⟩, (few_in (t := .sign a ts) (k := bd e) (j := 3) g3 (by rw [innerT]; omega)).up (by omega), g6, g7, hp5.up (by omega)⟩, ?_⟩
     have lt : ltD (.int kd) (.int 4) = some (.bool false) := by rw [lt_i]; simp [h4]
     have tp : tupD (.list (ts.map tmD)) = some (.tuple (ts.map tmD)) := rfl
     rw [tmD, tmDs_map]
     generalize hs.map PyData.str = hh at *
     generalize hs'.map PyData.str = hh' at *
     generalize l.map PyData.str = nn at *
     generalize ts.map tmD = tt at *
     generalize ((e + 1 : Nat) : Int) = z at *
     simp [e1, x1, x2, e3, i1, lt, hr, e4, e5, tp]
theorem term_ok : ∀ d, d ≤ 3 → TermOk d
 | 0, h => term_step 0 h fun e z => by omega
 | d + 1, h => term_step (d + 1) h fun e z => by
  obtain rfl : d = e := by omega
  exact term_ok d (by omega)
end ST
end
section
namespace ST
open PySem PySem.Spec PyProof.Rows L2 DL SH SU
theorem wrap_ok {B : Nat} (hB : B < 2 ^ 46) {p : List D} (hp : Pile B p) {l hs : List Str} (nl : Names 6 l) (l1 : 1 ≤ l.length) {lv k : Nat} {t : Tm} (ht : OfT l hs lv t) (hk : Few k t) : ∃ t' p', OfT l hs (lv + 1) t' ∧ Few (k + 1) t' ∧ Pile (B + 3) p' ∧ h2__law_small (some (.lst p)) (.list (l.map .str)) (tmD t) = .ok (some (.lst p'), tmD t') := by
 have l6 := nl.len
 obtain ⟨r, p1, r0, r1, hp1, e1⟩ := take_ok (by omega) hp 3 (by omega) (by omega)
 have ln := len_m PyData.str l
 by_cases h : r = 0
 ·obtain ⟨a, p2, na, hp2, e2⟩ := sign_ok (by omega) hp1 nl.nm l1
  refine ⟨.sign a [t], p2, ⟨na, by simp, fun b hb => by rw [List.mem_singleton.mp hb]; exact ht⟩, (few_in (t := .sign a [t]) (k := k) (j := 1) (fun b hb => by rw [List.mem_singleton.mp hb]; exact hk) (by simp [innerT])).up (by omega), hp2.up (by omega), ?_⟩
  rw [tmD, tmDs_map, List.map_cons, List.map_nil]
  generalize l.map PyData.str = nn at *
  generalize tmD t = tt at *
  simp [h2__law_small, e1, eq_i, h, e2]
 ·obtain ⟨i, p2, i0, i1, hp2, e2⟩ := take_ok (by omega) hp1 (l.length : Nat) (by omega) (by omega)
  obtain ⟨a, ha, ix⟩ := name_at i0 i1
  refine ⟨.shut a t, p2, ⟨ha, ht⟩, (few_in (t := .shut a t) (k := k) (j := 1) (fun b hb => by rw [List.mem_singleton.mp hb]; exact hk) (by simp [innerT])).up (by omega), hp2.up (by omega), ?_⟩
  rw [tmD]
  generalize l.map PyData.str = nn at *
  generalize tmD t = tt at *
  simp [h2__law_small, e1, eq_i, h, ln, e2, ix]
theorem law_in_ok (t : Tm) : f__law_in [.d (tmD t)] = .ok (.lst ((innerT t).map tmD)) [some (.d (tmD t))] := by
 have ka := kind_at t
 rw [eq__law_in]
 cases t with
 | nm s => simp [ka, eq_s, innerT, show ¬ (("name" : Str) = "shut") by decide, show ¬ (("name" : Str) = "sign") by decide]
 | hole u x => simp [ka, eq_s, innerT, show ¬ (("hole" : Str) = "shut") by decide, show ¬ (("hole" : Str) = "sign") by decide]
 | shut a b =>
  have i2 : ixD (tmD (.shut a b)) (.int 2) = some (tmD b) := by rw [tmD]; rfl
  simp [ka, eq_s, innerT, i2]
 | sign a ts =>
  have i2 : ixD (tmD (.sign a ts)) (.int 2) = some (.tuple (ts.map tmD)) := by rw [tmD, tmDs_map]; rfl
  have li : listD (.tuple (ts.map tmD)) = some (ts.map tmD) := rfl
  simp [ka, eq_s, innerT, i2, li, show ¬ (("sign" : Str) = "shut") by decide]
end ST
end
section
namespace ST
open PySem PySem.Spec PyProof.Rows L2 DL SH SU
def Ly (n : Nat) (x : D) : Prop := x.canLay0 = true ∧ x.depth ≤ n
theorem Ly.tup {n : Nat} {xs : List D} (h : ∀ x ∈ xs, Ly n x) : Ly (n + 1) (.tuple xs) := lay_tup h
theorem Ly.lst {n : Nat} {xs : List D} (h : ∀ x ∈ xs, Ly n x) : Ly (n + 1) (.list xs) := by
 obtain ⟨a, b⟩ := lay_tup h
 exact ⟨by simpa only [PyData.canLay0] using a, by simpa only [PyData.depth] using b⟩
def argsT : Tm → List D
 | .nm s => [.str s]
 | .hole t x => [tD t, .str x]
 | .shut a b => [.str a, tmD b]
 | .sign a ts => [.str a, .tuple (ts.map tmD)]
def wordT : Tm → Str
 | .nm _ => "name"
 | .hole _ _ => "hole"
 | .shut _ _ => "shut"
 | .sign _ _ => "sign"
theorem tm_args (t : Tm) : tmD t = .tuple (.str (wordT t) :: argsT t) := by
 cases t <;> rw [tmD]
 ·rfl
 ·rfl
 ·rfl
 ·rw [tmDs_map]; rfl
section
variable {n : Nat} {t : Tm}
structure Odd (x : D) : Prop where
 m : FitM x
 f : Fit x
 len : (partsT x).length ≤ 20
 t : ∀ k, FitT (k + 1) x
 p : ∀ y ∈ partsT x, ∀ k, FitT (k + 1) y
end
end ST
end
section
namespace ST
open PySem PySem.Spec PyProof.Rows L2 DL SH SU
def LeT (u t : Tm) : Prop := ∀ m, (everyP m u).length ≤ (everyP m t).length
def StayT (n : Nat) (t : Tm) (x : D) : Prop := ∀ k, termN k x = true → ∃ u, x = tmD u ∧ OkT n u ∧ LeT u t
section
variable {n : Nat} {t : Tm}
end
end ST
end
section
namespace ST
open PySem PySem.Spec PyProof.Rows L2 DL SH SU
section
variable (t : Tm)
theorem tm_ix0 : ixD (tmD t) (.int 0) = some (.str (wordT t)) := by rw [tm_args]; cases t <;> rfl
end
structure Bent (lv : Nat) (t : Tm) (o : OV) (x : D) : Prop where
 frz : o.frz = some x
 fit : ∀ k, FitT (lv + 2 + k) x
 stay : StayT (lv + 1) t x
end ST
end
section
namespace SV
open PySem PySem.Spec PyProof.Rows L2 DL
end SV
end
section
namespace ST
open PySem PySem.Spec PyProof.Rows L2 DL SH SU SV
mutual
def ledT (u : PL) : Tm → Tm
 | .nm s => .nm (ledP u s)
 | .hole t x => .hole (both t u) x
 | .shut a b => .shut (ledP u a) (ledT u b)
 | .sign a ts => .sign a (ledTs u ts)
def ledTs (u : PL) : List Tm → List Tm
 | [] => []
 | t :: ts => ledT u t :: ledTs u ts
end
theorem kind_is (t : Tm) : ixD (tmD t) (.int 0) = some (.str (wordT t)) := tm_ix0 t
theorem ne_same {x : D} {n : Nat} (h : Ly n x) (hn : n ≤ 60) : neD x x = some (.bool false) ∧ eqD x x = some (.bool true) := by
 have sh : SeqAt.shaped x = true := by
  unfold SeqAt.shaped
  rw [h.1, Bool.true_and, decide_eq_true_eq]
  have := h.2
  omega
 have e : PyData.eqv x x = true := PySem.SeqAt.eqv_refl x h.1
 have k1 : (∃ s, x = .str s) ∨ (neD x x = if SeqAt.shaped x = true ∧ SeqAt.shaped x = true then some (.bool (!PyData.eqv x x)) else none) ∧ eqD x x = if SeqAt.shaped x = true ∧ SeqAt.shaped x = true then some (.bool (PyData.eqv x x)) else none := by
  cases x with
  | str s => exact .inl ⟨s, rfl⟩
  | list xs => cases xs <;> exact .inr ⟨rfl, rfl⟩
  | _ => exact .inr ⟨rfl, rfl⟩
 rcases k1 with ⟨s, rfl⟩ | ⟨k1, k2⟩
 ·rw [ne_s, eq_s, decide_eq_true rfl]; exact ⟨rfl, rfl⟩
 ·rw [k1, k2, if_pos ⟨sh, sh⟩, if_pos ⟨sh, sh⟩, e]; exact ⟨rfl, rfl⟩
end ST
end
section
namespace ST
open PySem PySem.Spec PyProof.Rows L2 DL SH SU SV
theorem wrap_eq : h2__law_any = h2__law_small := rfl
theorem any_ok {B : Nat} (hB : B + 2000 < 2 ^ 46) {p : List D} (hp : Pile B p) {l hs : List Str} (nl : Names 6 l) (l1 : 1 ≤ l.length) (hl : hs.length ≤ 100) (hh : ∀ s ∈ hs, HlS s) : ∃ t p' hs', Drawn l hs 12 40 (B + 2000) t p' hs' ∧ f__law_any [.lst p, .d (.list (l.map .str)), .lst (hs.map .str)] = .ok (.d (tmD t)) [some (.lst p'), some (.d (.list (l.map .str))), some (.lst (hs'.map .str))] := by
 have big := size_big
 obtain ⟨kd, p0, k0, k1, hp0, e0⟩ := take_ok (by omega) hp 5 (by omega) (by omega)
 rw [eq__law_any]
 by_cases h3 : kd = 3
 ·obtain ⟨t, p1, hs', q, e1⟩ := term_ok 2 (by omega) 40 (by omega) (B := B + 1) (by show B + 1 + 40 * 13 < _; omega) hp0 nl l1 hl hh
  have e1 : f__law_term 40 [.lst p0, .d (.list (l.map .str)), .lst (hs.map .str), .d (.int 2)] = .ok (.d (tmD t)) [some (.lst p1), some (.d (.list (l.map .str))), some (.lst (hs'.map .str)), some (.d (.int 2))] := e1
  have hp1 : Pile (B + 521) p1 := q.pile
  obtain ⟨a, p2, a0, a1, hp2, e2⟩ := take_ok (by omega) hp1 9 (by omega) (by omega)
  have hr := range_ok (a.toNat + 1) (by omega)
  have hc : ((a.toNat + 1 : Nat) : Int) = 1 + a := by omega
  rw [hc] at hr
  obtain ⟨s', f1, t', p', f2, f3, f4, f5⟩ := forS_inv (b := q1__law_any (.list (l.map .str))) (xs := rangeL 0 (a.toNat + 1)) (s := (some (.lst p2), tmD t))
   (fun i s => ∃ t p, s = (some (.lst p), tmD t) ∧ OfT l hs (3 + i) t ∧ Few (13 + i) t ∧ Pile (B + 522 + 3 * i) p) ⟨t, p2, rfl, q.of, q.few, hp2⟩ fun i x s hx ⟨t, p, g1, g2, g3, g4⟩ => by
    subst g1
    obtain ⟨hi, rfl⟩ := range_at hx
    obtain ⟨t', p', w1, w2, w3, w4⟩ := wrap_ok (by omega) g4 nl l1 g2 g3
    rw [← wrap_eq] at w4
    exact ⟨_, by simp [q1__law_any, w4], t', p', rfl, w1, w2, w3.up (by omega)⟩
  rw [range_len] at f3 f4 f5
  refine ⟨t', p', hs', ⟨f3.to (by omega), f4.up (by omega), q.sub, q.len, f5.up (by omega)⟩, ?_⟩
  subst f2
  generalize hs.map PyData.str = hh at *
  generalize hs'.map PyData.str = hh' at *
  generalize l.map PyData.str = nn at *
  generalize tmD t = tt at *
  generalize tmD t' = tt' at *
  subst h3
  simp [e0, eq_i, e1, e2, hr, f1]
 ·by_cases h4 : kd = 4
  ·subst h4
   obtain ⟨a, p2, a0, a1, hp2, e2⟩ := take_ok (by omega) hp0 7 (by omega) (by omega)
   have hr := range_ok a.toNat (by omega)
   rw [Int.toNat_of_nonneg a0] at hr
   obtain ⟨ts, s', e4, g1, g2, g3, p4, hs', g5, g6, g7, g8⟩ := lcS_inv (pe := c3__law_any (.list (l.map .str))) (G := tmD) (xs := rangeL 0 a.toNat) (s := (some (.lst p2), some (.lst (hs.map .str))))
    (fun i ts s => ts.length = i ∧ (∀ b ∈ ts, OfT l hs 2 b) ∧ (∀ b ∈ ts, Few 4 b) ∧ ∃ p4 hs', s = (some (.lst p4), some (.lst (hs'.map .str))) ∧ (∀ s ∈ hs', s ∈ hs) ∧ hs'.length ≤ hs.length ∧ Pile (B + 2 + i * 160) p4)
    ⟨rfl, (fun b hb => by cases hb), (fun b hb => by cases hb), p2, hs, rfl, fun _ h => h, Nat.le_refl _, by simpa using hp2⟩ fun i x ts s hx ⟨f1, f2, f3, p4, hs', f5, f6, f7, f8⟩ => by
     subst f5
     obtain ⟨hi, rfl⟩ := range_at hx
     obtain ⟨t, p5, hs2, q, e5⟩ := term_ok 1 (by omega) 40 (by omega) (by show B + 2 + i * 160 + 40 * 4 < _; omega) f8 nl l1 (hs := hs') (by omega) fun s h => hh s (f6 s h)
     have e5 : f__law_term 40 [.lst p4, .d (.list (l.map .str)), .lst (hs'.map .str), .d (.int 1)] = .ok (.d (tmD t)) [some (.lst p5), some (.d (.list (l.map .str))), some (.lst (hs2.map .str)), some (.d (.int 1))] := e5
     have qp : Pile (B + 2 + i * 160 + 160) p5 := q.pile
     refine ⟨t, (some (.lst p5), some (.lst (hs2.map .str))), ?_, by rw [List.length_append, f1]; rfl, ?_, ?_, p5, hs2, rfl, fun s h => f6 s (q.sub s h), Nat.le_trans q.len f7, qp.up (by omega)⟩
     ·simp [c3__law_any, e5]
     ·intro b hb
      rcases List.mem_append.mp hb with hb | hb
      ·exact f2 b hb
      ·rw [List.mem_singleton.mp hb]; exact q.of.of f6
     ·intro b hb
      rcases List.mem_append.mp hb with hb | hb
      ·exact f3 b hb
      ·rw [List.mem_singleton.mp hb]; exact q.few
   subst g5
   rw [range_len] at g1 g8
   have a6 : a.toNat ≤ 6 := by omega
   have := Nat.mul_le_mul_right 160 a6
   obtain ⟨z, p5, na, hp5, e5⟩ := sign_ok (by omega) g8 nl.nm l1
   have o2 : OfT l hs 3 (.sign z ts) := ⟨na, by omega, g2⟩
   refine ⟨.sign z ts, p5, hs', ⟨o2.to (by omega), (few_in (t := .sign z ts) (k := 4) (j := 6) g3 (by rw [innerT]; omega)).up (by omega), g6, g7, hp5.up (by omega)⟩, ?_⟩
   have tp : tupD (.list (ts.map tmD)) = some (.tuple (ts.map tmD)) := rfl
   rw [tmD, tmDs_map]
   generalize hs.map PyData.str = hh at *
   generalize hs'.map PyData.str = hh' at *
   generalize l.map PyData.str = nn at *
   generalize ts.map tmD = tt at *
   simp [e0, eq_i, e2, hr, e4, e5, tp]
  ·obtain ⟨t, p1, hs', q, e1⟩ := term_ok 3 (by omega) 40 (by omega) (B := B + 1) (by show B + 1 + 40 * 40 < _; omega) hp0 nl l1 hl hh
   have e1 : f__law_term 40 [.lst p0, .d (.list (l.map .str)), .lst (hs.map .str), .d (.int 3)] = .ok (.d (tmD t)) [some (.lst p1), some (.d (.list (l.map .str))), some (.lst (hs'.map .str)), some (.d (.int 3))] := e1
   have hp1 : Pile (B + 1601) p1 := q.pile
   refine ⟨t, p1, hs', ⟨q.of.to (by omega), q.few.up (by decide), q.sub, q.len, hp1.up (by omega)⟩, ?_⟩
   generalize hs.map PyData.str = hh at *
   generalize hs'.map PyData.str = hh' at *
   generalize l.map PyData.str = nn at *
   generalize tmD t = tt at *
   simp [e0, eq_i, h3, h4, e1]
end ST
end
section
namespace SW
open PySem PySem.Spec PyProof.Rows L2 DL
end SW
end
section
namespace ST
open PySem PySem.Spec PyProof.Rows L2 DL SH SU SV
end ST
end
section
namespace ST
open PySem PySem.Spec PyProof.Rows L2 DL SH SU SV SW
theorem part_le {α β : Type} (f : α → List β) : ∀ {l : List α} {a : α}, a ∈ l → (f a).length ≤ (l.flatMap f).length
 | b :: l, a, h => by
  rw [List.flatMap_cons, List.length_append]
  rcases List.mem_cons.mp h with rfl | h
  ·omega
  ·have := part_le f h; omega
end ST
end
section
namespace ST
open PySem PySem.Spec PyProof.Rows L2 DL SH SU SV SW
end ST
end
section
namespace ST
open PySem PySem.Spec PyProof.Rows L2 DL SH SU SV SW
end ST
end
section
namespace ST
open PySem PySem.Spec PyProof.Rows L2 DL SH SU SV SW
end ST
end
section
namespace ST
open PySem PySem.Spec PyProof.Rows L2 DL SH SU SV SW
end ST
end
section
namespace ST
open PySem PySem.Spec PyProof.Rows L2 DL SH SU SV SW
structure Sm (t : Tm) : Prop where
 ok : OkT 13 t
 few : Few 60 t
theorem Sm.t28 {t : Tm} (h : Sm t) : Term28 t := ⟨OkT.lift h.ok 15, Nat.le_trans (h.few 40) (by omega)⟩
theorem own_few {n : Nat} {t : Tm} (h : OkT (n + 1) t) : (ownN t).length ≤ 6 := by
 cases t with
 | nm s => simp [ownN]
 | hole u x => simp [ownN, keys_len]; exact h.2.1
 | shut a b => simp [ownN]
 | sign a ts => simp [ownN]
theorem every_ok_all : ∀ (m n : Nat) (t : Tm), OkT n t → ∀ u ∈ everyP m t, ∃ k, OkT (k + 1) u
 | 0, _, _, _, _, h => by cases h
 | m + 1, 0, _, h, _, _ => h.elim
 | m + 1, n + 1, t, h, u, hu => by
  rcases List.mem_cons.mp hu with rfl | hu
  ·exact ⟨n, h⟩
  ·obtain ⟨b, hb, hu⟩ := List.mem_flatMap.mp hu
   exact every_ok_all m n b (h.inner b hb) u hu
theorem flat_few {α β : Type} {f : α → List β} {k : Nat} : ∀ {l : List α}, (∀ a ∈ l, (f a).length ≤ k) → (l.flatMap f).length ≤ k * l.length
 | [], _ => by simp
 | a :: l, h => by
  rw [List.flatMap_cons, List.length_append, List.length_cons, Nat.mul_add, Nat.mul_one]
  have := h a List.mem_cons_self
  have := flat_few (k := k) fun b hb => h b (List.mem_cons_of_mem _ hb)
  omega
theorem one_flat {α β : Type} (f : α → List β) (a : α) : [a].flatMap f = f a := by rw [List.flatMap_cons, List.flatMap_nil, List.append_nil]
theorem names_few {n : Nat} {t : Tm} (h : OkT n t) : (allN [t]).length ≤ 6 * (everyP 40 t).length := by
 unfold allN
 rw [one_flat]
 exact flat_few fun u hu => by
  obtain ⟨k, hk⟩ := every_ok_all 40 n t h u hu
  exact own_few hk
theorem holes_few (t : Tm) : (allH [t]).length ≤ (everyP 40 t).length := by
 unfold allH
 rw [one_flat, List.length_map]
 exact List.length_filter_le _ _
theorem own_nm {n : Nat} {t : Tm} (h : OkT (n + 1) t) : ∀ s ∈ ownN t, NmS s := fun s hs => by
 cases t with
 | nm x => rw [List.mem_singleton.mp hs]; exact h
 | hole u x => exact keys_nm2 h.1.nm s hs
 | shut a b => rw [List.mem_singleton.mp hs]; exact h.1
 | sign a ts => cases hs
theorem names_nm {n : Nat} {t : Tm} (h : OkT n t) : ∀ s ∈ allN [t], NmS s := fun s hs => by
 unfold allN at hs
 rw [one_flat] at hs
 obtain ⟨u, hu, hs⟩ := List.mem_flatMap.mp hs
 obtain ⟨k, hk⟩ := every_ok_all 40 n t h u hu
 exact own_nm hk s hs
theorem holes_hl {n : Nat} {t : Tm} (h : OkT n t) : ∀ s ∈ allH [t], HlS s := fun s hs => by
 unfold allH at hs
 rw [one_flat] at hs
 obtain ⟨u, hu, rfl⟩ := List.mem_map.mp hs
 obtain ⟨hu, ht⟩ := List.mem_filter.mp hu
 obtain ⟨k, hk⟩ := every_ok_all 40 n t h u hu
 cases u with
 | hole u x => exact hk.2.2
 | _ => cases ht
def nmL (t : Tm) : List Str := sortS (onceS (allN [t]))
def hlL (t : Tm) : List Str := sortS (onceS (allH [t]))
theorem mem_so {a : List Str} {x : Str} : x ∈ sortS (onceS a) ↔ x ∈ a := (List.mergeSort_perm _ leS).mem_iff.trans once_mem
theorem so_len (a : List Str) : (sortS (onceS a)).length ≤ a.length := by
 have : (sortS (onceS a)).length = (onceS a).length := (List.mergeSort_perm _ leS).length_eq
 have := once_len a
 omega
theorem Sm.names {t : Tm} (h : Sm t) : f_names_in [.d (tmD t)] = .ok (.lst ((nmL t).map .str)) [some (.d (tmD t))] := h.t28.names (by have := names_few h.ok; have := h.few 40; omega)
theorem Sm.holes {t : Tm} (h : Sm t) : f_holes_in [.d (tmD t)] = .ok (.lst ((hlL t).map .str)) [some (.d (tmD t))] := h.t28.holes (by have := holes_few t; have := h.few 40; omega)
end ST
end
section
namespace ST
open PySem PySem.Spec PyProof.Rows L2 DL SH SU SV SW
theorem nmL_ok {t : Tm} (h : Sm t) : ∀ s ∈ nmL t, PyData.strOk s = true := fun s hs => (NmS.fit (names_nm h.ok s (mem_so.mp hs))).ok
theorem hlL_ok {t : Tm} (h : Sm t) : ∀ s ∈ hlL t, PyData.strOk s = true := fun s hs => (HlS.fit (holes_hl h.ok s (mem_so.mp hs))).ok
end ST
end
section
namespace ST
open PySem PySem.Spec PyProof.Rows L2 DL SH SU SV SW
end ST
end
section
namespace ST
open PySem PySem.Spec PyProof.Rows L2 DL SH SU SV SW
end ST
end
section
namespace SX
open PySem PySem.Spec PyProof.Rows L2 DL
end SX
end
section
namespace ST
open PySem PySem.Spec PyProof.Rows L2 DL SH SU SV SW SX
inductive Fm where
 | nm (s : Str)
 | lev (k : Nat)
 | shut (f : Fm)
 | sign (a : Str) (fs : List Fm)
mutual
def fmD : Fm → D
 | .nm s => .tuple [.str "name", .str s]
 | .lev k => .tuple [.str "level", .int (k : Nat)]
 | .shut f => .tuple [.str "shut", fmD f]
 | .sign a fs => .tuple [.str "sign", .str a, .tuple (fmDs fs)]
def fmDs : List Fm → List D
 | [] => []
 | f :: fs => fmD f :: fmDs fs
end
mutual
def levT : List Str → Tm → Fm
 | ab, .nm s => if s ∈ ab then .lev (ab.idxOf s) else .nm s
 | _, .hole _ _ => .nm ""
 | ab, .shut a b => .shut (levT (a :: ab) b)
 | ab, .sign a ts => .sign a (levTs ab ts)
def levTs : List Str → List Tm → List Fm
 | _, [] => []
 | ab, t :: ts => levT ab t :: levTs ab ts
end
theorem add_ll {a b : List D} (h : a.length + b.length ≤ 1000) : addD (.list a) (.list b) = some (.list (a ++ b)) := by
 have := size_big
 show (if a.length + b.length ≤ sizeLine then _ else _) = _
 rw [if_pos (by omega)]
section
variable {l : List Str}
end
end ST
end
section
namespace ST
open PySem PySem.Spec PyProof.Rows L2 DL SH SU SV SW SX
mutual
def freeL : List Str → Tm → List Str
 | ab, .nm s => if s ∈ ab then [] else [s]
 | _, .hole _ _ => []
 | ab, .shut a b => freeL (a :: ab) b
 | ab, .sign _ ts => freeLs ab ts
def freeLs : List Str → List Tm → List Str
 | _, [] => []
 | ab, t :: ts => freeL ab t ++ freeLs ab ts
end
section
variable {l hs : List Str}
end
mutual
def nmsU (ab : List Str) : Nat → Fm → List Str
 | _, .nm s => [s]
 | d, .lev k => if d ≤ k then [ab.getD (k - d) ""] else []
 | d, .shut f => nmsU ab (d + 1) f
 | d, .sign _ fs => nmsUs ab d fs
def nmsUs (ab : List Str) : Nat → List Fm → List Str
 | _, [] => []
 | d, f :: fs => nmsU ab d f ++ nmsUs ab d fs
end
end ST
end
section
namespace ST
open PySem PySem.Spec PyProof.Rows L2 DL SH SU SV SW SX
section
variable {l : List Str}
end
end ST
end
section
namespace ST
open PySem PySem.Spec PyProof.Rows L2 DL SH SU SV SW SX
structure Ren (l : List Str) (n B : Nat) (t : Tm) (t' : Tm) (p' : List D) : Prop where
 of : OfT l [] n t'
 len : (everyP n t').length = (everyP n t).length
 pile : Pile (B + 2 * (everyP n t).length) p'
end ST
end
section
namespace ST
open PySem PySem.Spec PyProof.Rows L2 DL SH SU SV SW SX
structure IsT (x : D) : Prop where
 fit : FitT 40 x
 tm : termN 40 x = true
structure NoT (x : D) : Prop where
 fit : FitT 40 x
 tm : termN 40 x = false
structure Pln (l : List Str) (t : Tm) : Prop where
 nm : ∀ s ∈ l, NmS s
 of : OfT l [] 20 t
 few : (everyP 40 t).length ≤ 400
section
variable {l : List Str} {t u : Tm}
end
end ST
end
section
namespace ST
open PySem PySem.Spec PyProof.Rows L2 DL SH SU SV SW SX
section
variable {l : List Str} {t u : Tm}
end
end ST
end
section
namespace ST
open PySem PySem.Spec PyProof.Rows L2 DL SH SU SV SW SX
section
variable {L : List Str}
end
end ST
end
section
namespace ST
open PySem PySem.Spec PyProof.Rows L2 DL SH SU SV SW SX
def ltr (i : Nat) : Str := ⟨#[97 + i]⟩
def ltrs : List Str := (List.range 26).map ltr
def firstC (xs : List Str) : Str := ((ltrs.filter fun s => !decide (s ∈ xs)).head?).getD ""
structure First (xs : List Str) (i : Nat) : Prop where
 lt : i < 26
 out : ltr i ∉ xs
 before : ∀ j, j < i → ltr j ∈ xs
 is : firstC xs = ltr i
 head : ∃ r, ltrs.filter (fun s => !decide (s ∈ xs)) = ltr i :: r
mutual
def toldF : List Str → Fm → Tm
 | _, .nm s => .nm s
 | ab, .lev k => .nm (ab.getD k "")
 | ab, .shut f => .shut (firstC (nmsU ab 1 f)) (toldF (firstC (nmsU ab 1 f) :: ab) f)
 | ab, .sign a fs => .sign a (toldFs ab fs)
def toldFs : List Str → List Fm → List Tm
 | _, [] => []
 | ab, f :: fs => toldF ab f :: toldFs ab fs
end
def FmL (L : List Str) : Nat → Nat → Fm → Prop
 | 0, _, _ => False
 | _ + 1, _, .nm s => s ∈ L
 | _ + 1, m, .lev k => k < m
 | n + 1, m, .shut f => FmL L n (m + 1) f
 | n + 1, m, .sign a fs => NmS a ∧ fs.length ≤ 6 ∧ ∀ f ∈ fs, FmL L n m f
mutual
def lvs : Fm → Nat
 | .nm _ => 1
 | .lev _ => 1
 | .shut f => lvs f
 | .sign _ fs => lvss fs
def lvss : List Fm → Nat
 | [] => 0
 | f :: fs => lvs f + lvss fs
end
section
variable {L : List Str}
end
end ST
end
section
namespace ST
open PySem PySem.Spec PyProof.Rows L2 DL SH SU SV SW SX
section
variable {L : List Str}
end
end ST
end
section
namespace ST
open PySem PySem.Spec PyProof.Rows L2 DL SH SU SV SW SX
mutual
def pureD : D → Bool
 | .str _ => true
 | .int _ => true
 | .tuple xs => pureDs xs
 | .none => false
 | .bool _ => false
 | .list _ => false
 | .dict _ => false
def pureDs : List D → Bool
 | [] => true
 | x :: xs => pureD x && pureDs xs
end
structure Tol (L : List Str) (t : Tm) : Prop where
 nm : ∀ s ∈ L, NmS s
 len : L.length ≤ 12
 of : OfT L [] 14 t
 few : (everyP 40 t).length ≤ 400
section
variable {L : List Str} {t u : Tm}
end
end ST
end
section
namespace ST
open PySem PySem.Spec PyProof.Rows L2 DL SH SU SV SW SX
end ST
end
section
namespace ST
open PySem PySem.Spec PyProof.Rows L2 DL SH SU SV SW SX
mutual
def putF (tb : Str → Option Fm) : Fm → Fm
 | .nm s => (tb s).getD (.nm s)
 | .lev k => .lev k
 | .shut f => .shut (putF tb f)
 | .sign a fs => .sign a (putFs tb fs)
def putFs (tb : Str → Option Fm) : List Fm → List Fm
 | [] => []
 | f :: fs => putF tb f :: putFs tb fs
end
mutual
def cntF : Fm → Nat
 | .nm _ => 1
 | .lev _ => 1
 | .shut f => 1 + cntF f
 | .sign _ fs => 1 + cntFs fs
def cntFs : List Fm → Nat
 | [] => 0
 | f :: fs => cntF f + cntFs fs
end
section
variable {L : List Str}
structure TolF (L : List Str) (f : Fm) : Prop where
 nm : ∀ s ∈ L, NmS s
 len : L.length ≤ 12
 fm : FmL L 14 0 f
 few : cntF f ≤ 400
variable {f : Fm}
end
end ST
end
section
namespace ST
open PySem PySem.Spec PyProof.Rows L2 DL SH SU SV SW SX
section
variable {L : List Str} {t : Tm} {ps : List (Str × Tm)}
end
end ST
end
section
namespace ST
open PySem PySem.Spec PyProof.Rows L2 DL SH SU SV SW SX
mutual
def bindF (a : Str) : Nat → Fm → Fm
 | d, .nm s => if s = a then .lev d else .nm s
 | _, .lev k => .lev k
 | d, .shut f => .shut (bindF a (d + 1) f)
 | d, .sign b fs => .sign b (bindFs a d fs)
def bindFs (a : Str) : Nat → List Fm → List Fm
 | _, [] => []
 | d, f :: fs => bindF a d f :: bindFs a d fs
end
mutual
def freeF (a : Str) : Nat → Fm → Fm
 | _, .nm s => .nm s
 | d, .lev k => if k = d then .nm a else .lev k
 | d, .shut f => .shut (freeF a (d + 1) f)
 | d, .sign b fs => .sign b (freeFs a d fs)
def freeFs (a : Str) : Nat → List Fm → List Fm
 | _, [] => []
 | d, f :: fs => freeF a d f :: freeFs a d fs
end
section
variable {L : List Str}
mutual
def ledF (u : PL) : Fm → Fm
 | .nm s => .nm (ledP u s)
 | .lev k => .lev k
 | .shut f => .shut (ledF u f)
 | .sign a fs => .sign a (ledFs u fs)
def ledFs (u : PL) : List Fm → List Fm
 | [] => []
 | f :: fs => ledF u f :: ledFs u fs
end
end
end ST
end
section
namespace ST
open PySem PySem.Spec PyProof.Rows L2 DL SH SU SV SW SX
section
variable {L : List Str}
structure Ag (L : List Str) (t : Tm) : Prop where
 of : OfT L [] 13 t
 few : (everyP 13 t).length ≤ 400
end
end ST
end
section
namespace ST
open PySem PySem.Spec PyProof.Rows L2 DL SH SU SV SW SX
section
variable {L : List Str}
structure TolG (L : List Str) (f : Fm) : Prop where
 nm : ∀ s ∈ L, NmS s
 len : L.length ≤ 10
 fm : FmL L 16 0 f
 lv : lvs f ≤ 900
variable {f : Fm}
end
end ST
end
section
namespace ST
open PySem PySem.Spec PyProof.Rows L2 DL SH SU SV SW SX
section
variable {L : List Str}
end
end ST
end
section
namespace ST
open PySem PySem.Spec PyProof.Rows L2 DL SH SU SV SW SX
section
variable {L : List Str}
end
end ST
end
section
namespace SY
open PySem PySem.Spec PyProof.Rows L2 DL
end SY
end
section
namespace ST
open PySem PySem.Spec PyProof.Rows L2 DL SH SU SV SW SX SY
section
variable {α : Type}
def prD (g : α → D) (p : Str × α) : D := .tuple [.str p.1, g p.2]
variable (g : α → D)
end
end ST
end
section
namespace ST
open PySem PySem.Spec PyProof.Rows L2 DL SH SU SV SW SX SY
mutual
def fillT (tb : Str → Option ST.Tm) : ST.Tm → ST.Tm
 | .nm s => .nm s
 | .hole u x => (tb x).elim (.hole u x) (ledT u)
 | .shut a b => .shut a (fillT tb b)
 | .sign a ts => .sign a (fillTs tb ts)
def fillTs (tb : Str → Option ST.Tm) : List ST.Tm → List ST.Tm
 | [] => []
 | t :: ts => fillT tb t :: fillTs tb ts
end
abbrev FP := List (Str × ST.Tm)
abbrev flD (f : FP) : D := .tuple (f.map (prD tmD))
structure FitF (x : D) : Prop where
 m : FitM x
 len : (partsT x).length ≤ 20
 each : ∀ y ∈ partsT x, FitM y ∧ (partsT y).length ≤ 20 ∧ ∀ z ∈ partsT y, FitM z ∧ FitT 40 z
def prB2 : D → Bool
 | .tuple [a, b] => hlB a && termN 40 b
 | _ => false
def strD : D → Str
 | .str s => s
 | _ => ""
def fstS (y : D) : Str := match y with
 | .tuple (a :: _) => strD a
 | _ => ""
def fillB : D → Bool
 | .tuple ys => ys.all prB2 && decide (ys.map fstS = sortS (onceS (ys.map fstS)))
 | _ => false
end ST
end
section
namespace ST
open PySem PySem.Spec PyProof.Rows L2 DL SH SU SV SW SX SY
structure Flg (l hs : List Str) (n : Nat) (ps : FP) : Prop where
 hl : ∀ p ∈ ps, HlS p.1
 of : ∀ p ∈ ps, OfT l hs n p.2
 ris : ps.map (·.1) = sortS (onceS (ps.map (·.1)))
 len : ps.length ≤ 12
section
variable {l hs : List Str} {n : Nat} {ps : FP}
end
end ST
end
section
namespace ST
open PySem PySem.Spec PyProof.Rows L2 DL SH SU SV SW SX SY
def StayF (ps : FP) (x : D) : Prop := fillB x = true → ∃ qs : FP, x = flD qs ∧ (∀ q ∈ qs, q ∈ ps) ∧ qs.length ≤ 12
structure BentF (ps : FP) (o : OV) (x : D) : Prop where
 frz : o.frz = some x
 fit : FitF x
 stay : StayF ps x
end ST
end
section
namespace ST
open PySem PySem.Spec PyProof.Rows L2 DL SH SU SV SW SX SY
theorem mul_3 {l : List Str} (h : l.length ≤ 100) : mulL (.list (l.map .str)) (.int 3) = some ((l ++ l ++ l).map .str) := by
 have e : (List.replicate (Int.toNat 3) (l.map PyData.str)).flatten = (l ++ l ++ l).map PyData.str := by
  show (l.map PyData.str) ++ ((l.map PyData.str) ++ ((l.map PyData.str) ++ [])) = _
  simp
 have u : mulL (.list (l.map .str)) (.int 3) = if -(2 ^ 63) ≤ (3 : Int) ∧ (3 : Int) < 2 ^ 63 ∧ (l.map PyData.str).length * (3 : Int).toNat ≤ sizeLine then some (List.replicate (3 : Int).toNat (l.map PyData.str)).flatten else none := rfl
 rw [u, if_pos ⟨by decide, by decide, by
  rw [List.length_map]
  have := size_big
  show l.length * 3 ≤ sizeLine
  omega⟩, e]
end ST
end
section
namespace ST
open PySem PySem.Spec PyProof.Rows L2 DL SH SU SV SW SX SY
section
variable {α : Type}
def Ris (ps : List (Str × α)) : Prop := ps.map (·.1) = sortS (onceS (ps.map (·.1)))
end
section
variable {l hs : List Str} {n m : Nat} {ps qs rs : FP}
end
end ST
end
section
namespace SZ
open PySem PySem.Spec PyProof.Rows L2 DL
end SZ
end
section
namespace ST
open PySem PySem.Spec PyProof.Rows L2 DL SH SU SV SW SX SY SZ
structure FitC (x : D) : Prop where
 m : FitM x
 len : (partsT x).length ≤ 20
 each : ∀ y ∈ partsT x, FitM y ∧ (partsT y).length ≤ 20 ∧ ∀ z ∈ partsT y, FitM z
end ST
end
section
namespace ST
open PySem PySem.Spec PyProof.Rows L2 DL SH SU SV SW SX SY SZ
end ST
end
section
namespace ST
open PySem PySem.Spec PyProof.Rows L2 DL SH SU SV SW SX SY SZ
structure TwF (o : OV) (x : D) : Prop where
 frz : o.frz = some x
 fit : FitC x
end ST
end
section
namespace ST
open PySem PySem.Spec PyProof.Rows L2 DL SH SU SV SW SX SY SZ
end ST
end
section
namespace ST
open PySem PySem.Spec PyProof.Rows L2 DL SH SU SV SW SX SY SZ
def addO (x y : Option PL) : Option PL := x.bind fun a => y.map fun b => a ++ b
mutual
def need (a : Str) : ST.Tm → Option PL
 | .nm s => if s = a then none else some []
 | .hole u x => some [(ledP (SH.inv u) a, x)]
 | .shut b t => if b = a then some [] else need a t
 | .sign _ ts => needs a ts
def needs (a : Str) : List ST.Tm → Option PL
 | [] => some []
 | t :: ts => addO (need a t) (needs a ts)
end
end ST
end
section
namespace ST
open PySem PySem.Spec PyProof.Rows L2 DL SH SU SV SW SX SY SZ
end ST
end
section
namespace ST
open PySem PySem.Spec PyProof.Rows L2 DL SH SU SV SW SX SY SZ
structure Tab (l hs : List Str) (T : FP) : Prop where
 ks : T.map (·.1) = hs
 of : ∀ p ∈ T, OfT l [] 3 p.2
 few : ∀ p ∈ T, Few 13 p.2
structure Sit (l hs : List Str) (ps : FP) (fs : PL) : Prop where
 nl : Names 6 l
 hn : hs.Nodup
 h6 : hs.length ≤ 6
 of : ∀ p ∈ ps, OfT l hs 3 p.2
 few : ∀ p ∈ ps, Few 13 p.2
 nd : (ps.map (·.1)).Nodup
 pl : ps.length ≤ 12
 fl : ∀ p ∈ fs, p.1 ∈ l ∧ p.2 ∈ hs
end ST
end
section
namespace ST
open PySem PySem.Spec PyProof.Rows L2 DL SH SU SV SW SX SY SZ
end ST
end
section
namespace ST
open PySem PySem.Spec PyProof.Rows L2 DL SH SU SV SW SX SY SZ
section
variable {l : List Str}
end
theorem lawparts_ok {l hs : List Str} : ∀ (n : Nat) {t : ST.Tm}, OfT l hs n t → (everyP n t).length ≤ 500 → SU.f__law_parts n [.d (tmD t)] = .ok (.d (.list ((everyP n t).map tmD))) [some (.d (tmD t))]
 | 0, t, h, _ => h.elim
 | n + 1, t, h, hf => by
  have inn := law_in_ok t
  rw [everyP, List.length_cons] at hf
  have hb : ∀ b ∈ innerT t, OfT l hs n b := fun b hb => by
   cases t with
   | nm s => cases hb
   | hole u y => cases hb
   | shut a c => rw [List.mem_singleton.mp hb]; exact h.2
   | sign a ts => exact h.2.2 b hb
  obtain ⟨s', f1, f2⟩ := forS_map (b := SU.q1__law_parts (SU.f__law_parts n)) (f := tmD) (l := innerT t) (s := .list [tmD t]) (fun pre s => s = .list ((t :: pre.flatMap (everyP n)).map tmD)) rfl fun pre b post s' hpre hI => by
   subst hI
   have hbm : b ∈ innerT t := by rw [hpre]; simp
   have few : (everyP n b).length ≤ 500 := by
    have := part_le (everyP n) hbm
    omega
   have ih := lawparts_ok n (hb b hbm) few
   have ad : addD (.list ((t :: pre.flatMap (everyP n)).map tmD)) (.list ((everyP n b).map tmD)) = some (.list ((t :: (pre ++ [b]).flatMap (everyP n)).map tmD)) := by
    have e : (t :: (pre ++ [b]).flatMap (everyP n)).map tmD = (t :: pre.flatMap (everyP n)).map tmD ++ (everyP n b).map tmD := by
     rw [List.flatMap_append, ← List.map_append, List.cons_append]
     simp
    rw [e]
    refine add_ll ?_
    have : ((innerT t).flatMap (everyP n)).length ≤ 500 := by omega
    rw [hpre, List.flatMap_append, List.flatMap_cons, List.length_append, List.length_append] at this
    rw [List.length_map, List.length_map, List.length_cons]
    omega
   refine ⟨_, ?_, rfl⟩
   generalize (t :: (pre ++ [b]).flatMap (everyP n)).map tmD = y1 at *
   generalize (t :: pre.flatMap (everyP n)).map tmD = y2 at *
   generalize (everyP n b).map tmD = y3 at *
   generalize tmD b = y4 at *
   simp [SU.q1__law_parts, ih, ad]
  rw [f2] at f1
  have it : itemsD (.list ((innerT t).map tmD)) = some ((innerT t).map tmD) := rfl
  rw [SU.eq__law_parts, everyP]
  generalize (t :: (innerT t).flatMap (everyP n)).map tmD = y1 at *
  generalize (innerT t).map tmD = y2 at *
  generalize tmD t = y3 at *
  simp [inn, it, f1]
end ST
end
section
namespace SA
open PySem PySem.Spec PyProof.Rows L2 DL
end SA
end
section
namespace SB
open PySem PySem.Spec PyProof.Rows L2 DL
end SB
end
section
namespace SC
open PySem PySem.Spec PyProof.Rows L2 DL
end SC
end
section
namespace DL
open PySem PySem.Spec PyProof.Rows L2 PySem.W
def putO (f : Str) (o : OV) : List (Str × OV) → List (Str × OV)
 | [] => [(f, o)]
 | (g, x) :: r => if g = f then (g, o) :: r else (g, x) :: putO f o r
section
variable {K : Frag} {ca : Str → Addr} {F H : Hp}
end
section
variable {K : Frag} {c : Ct} {F H : Hp} {σ : Sl} {ρ : Env} {O A : List Addr} {i : Nat} {cl f : Str} {fs : List (Str × OV)} {o : OV}
theorem EnvR.putS {v : V} (e : EnvR K c F H σ ρ O) (hv : σ[i]? = some (some v)) (r : OwR K c.ca F H v o A) (a : Apart c F A O) : ∃ O', EnvR K c F H σ (ρ.set i (some o)) O' := by
 obtain ⟨R, h1, h2, _, h4⟩ := e.sl.put (i := i) (List.getElem?_eq_some_iff.mp hv).1
 obtain ⟨O', k1, k2⟩ := h4 v o A r
 rw [set_self hv] at k1
 obtain ⟨n1, n2, n3⟩ := List.nodup_append.mp a.nd
 have nd : (A ++ R).Nodup := List.nodup_append.mpr ⟨n1, h2 n2, fun x hx y hy => n3 x hx y (h1 y hy)⟩
 refine ⟨O', e.sub, e.f0, e.h0, e.n0, k1, k2.nodup_iff.mpr nd, fun p hp => ?_, e.fx⟩
 rcases List.mem_append.mp (k2.mem_iff.mp hp) with z | z
 ·exact a.ow p z
 ·exact e.ow p (h1 p z)
theorem EnvR.upd_out {q : Addr} (e : EnvR K c F H σ ρ O) (a : Apart c F [q] O) (u : HO) : EnvR K c F (upd H q u) σ ρ O := by
 obtain ⟨fq, cq⟩ := a.ow q (List.mem_singleton_self _)
 have qO : q ∉ O := (List.nodup_cons.mp a.nd).1
 refine ⟨fun b u q' => ?_, e.f0, fun b o q' hb => ?_, e.n0, e.sl.mono (Same.refl _) fun b hb => upd_ne fun z => qO (by rw [← z]; exact hb), e.nd, e.ow, e.fx⟩
 ·rw [upd_ne fun z => by rw [z, fq] at q'; cases q']
  exact e.sub b u q'
 ·rw [upd_ne fun z => by
   subst z
   rcases cq with w | w
   ·exact hb w
   ·rw [w] at q'; cases q']
  exact e.h0 b o q' hb
theorem Apart.one {B : List Addr} (a : Apart c F B O) {q : Addr} (h : q ∈ B) : Apart c F [q] O :=
 ⟨List.nodup_cons.mpr ⟨fun z => (List.nodup_append.mp a.nd).2.2 q h q z rfl, (List.nodup_append.mp a.nd).2.1⟩, fun p hp => by rw [List.mem_singleton] at hp; subst hp; exact a.ow _ h⟩
theorem Apart.perm {B B' : List Addr} (a : Apart c F B O) (h : B'.Perm B) : Apart c F B' O :=
 ⟨(List.Perm.append_right O h).nodup_iff.mpr a.nd, fun p hp => a.ow p (h.mem_iff.mp hp)⟩
theorem EnvR.keepA {F1 H1 : Hp} {ρ1 : Env} {R O1 : List Addr} (e : EnvR K c F H σ ρ R) (a : Apart c F A R) (t : ∀ b ∈ A, H b ≠ none) (e1 : EnvR K (c.at F H R σ) F1 H1 σ ρ1 O1) : Apart c F1 A O1 ∧ ∀ b ∈ A, H1 b = H b := by
 have dis : ∀ b ∈ A, b ∉ R := fun b hb hc => (List.nodup_append.mp a.nd).2.2 b hb b hc rfl
 refine ⟨⟨List.nodup_append.mpr ⟨(List.nodup_append.mp a.nd).1, e1.nd, fun x hx y hy z => ?_⟩, fun p hp => ⟨e1.n0 p (t p hp) (dis p hp) (a.ow p hp).1, (a.ow p hp).2⟩⟩, fun b hb => ?_⟩
 ·subst z
  rcases (e1.ow x hy).2 with w | w
  ·exact dis x hx w
  ·exact t x hx w
 ·cases q : H b with
  | none => exact absurd q (t b hb)
  | some o => exact e1.h0 b o q (dis b hb)
end
end DL
end
section
namespace DL
open PySem PySem.Spec PyProof.Rows L2 PySem.W
def fldV (cl f : Str) : Option OV → Option OV
 | some (.obj c fs) => if c = cl then fs.lookup f else none
 | _ => none
def lkF (cl f : Str) (w : Option OV) : Option D := (fldV cl f w).bind OV.look
def setF (f : Str) (o : OV) : Option OV → Option OV
 | some (.obj c fs) => some (.obj c (putO f o fs))
 | w => w
def setV (cl f : Str) (w : Option OV) (o : OV) : Option OV := match w with
 | some (.obj c fs) => if c = cl ∧ fs.length < 1000 then some (.obj c (putO f o fs)) else none
 | _ => none
def fzV (cl f : Str) (w : Option OV) : Option D := (fldV cl f w).bind OV.frz
def fzVK (cl f : Str) (w : Option OV) : Option D := (fldV cl f w).bind OV.frzA
def lstV (cl f : Str) (w : Option OV) : Option (List D) := match fldV cl f w with
 | some (.lst xs) => some xs
 | _ => none
def dctV (cl f : Str) (w : Option OV) : Option (List (D × D)) := match fldV cl f w with
 | some (.dct l) => some l
 | _ => none
def mFld (i : Nat) (cl f : Str) : M D := fun ρ => match ρ[i]? with
 | some w => ofO (lkF cl f w) ρ
 | none => .bad
def mFldZ (i : Nat) (cl f : Str) : M D := fun ρ => match ρ[i]? with
 | some w => match fzV cl f w with
  | some x => .ok x (ρ.set i (setF f (.d x) w))
  | none => .bad
 | none => .bad
def mFldZK (i : Nat) (cl f : Str) : M D := fun ρ => match ρ[i]? with
 | some w => match fzVK cl f w with
  | some x => .ok x (ρ.set i (setF f (.d x) w))
  | none => .bad
 | none => .bad
def sFldSet (i : Nat) (cl f : Str) (m : M OV) : M Fl := fun ρ => (m ρ).bind fun o ρ1 => match ρ1[i]? with
 | some w => match setV cl f w o with
  | some o' => .ok .nx (ρ1.set i (some o'))
  | none => .bad
 | none => .bad
def mFldM (i : Nat) (cl f : Str) (g : List D → List D → Option (List D × D)) (ms : M (List D)) : M D := fun ρ => match ρ[i]? with
 | some w => match lstV cl f w with
  | some xs => (ms (ρ.set i none)).bind fun as ρ1 => match g xs as with
   | some z => .ok z.2 (ρ1.set i (setF f (.lst z.1) w))
   | none => .bad
  | none => .bad
 | none => .bad
def mFldX (i : Nat) (cl f : Str) (m : M D) : M D := fun ρ => match ρ[i]? with
 | some w => match lstV cl f w with
  | some xs => (m (ρ.set i none)).bind fun a ρ1 => match extendD xs a with
   | some z => .ok .none (ρ1.set i (setF f (.lst z) w))
   | none => .bad
  | none => .bad
 | none => .bad
def sFldPut (i : Nat) (cl f : Str) (mk mv : M D) : M Fl := fun ρ => (mv ρ).bind fun v ρ1 => match ρ1[i]? with
 | some w => match dctV cl f w with
  | some l => (mk (ρ1.set i none)).bind fun k ρ2 => match putD l k v with
   | some z => .ok .nx (ρ2.set i (setF f (.dct z) w))
   | none => .bad
  | none => .bad
 | none => .bad
def taE (K : Frag) (c : Ct) (pu : Bool) (m : M (List D)) : TA := fun σ H Q => ∃ F0 H0 O0 σ0, ta K (c.at F0 H0 O0 σ0) pu m σ H Q
section
variable {X : Cx} {c : Ct} {e : Expr} {es : List Expr} {pos apos cpos npos fpos : Pos} {ka pu p1 p2 : Bool} {ms : M (List D)} {me : M D} {mo : M OV} {g : List D → List D → Option (List D × D)} {x f cl name : Str} {id : String}
end
end DL
end
section
namespace DL
open PySem PySem.Spec PyProof.Rows L2 PySem.W
def objO (cl m : Str) (w : Option OV) : Option Unit := match w with
 | some (.obj c fs) => if c = cl ∧ fs.lookup m = none then some () else none
 | _ => none
def gOb (i : Nat) (cl m : Str) (r : M (List AV)) : M (List AV) := fun ρ => match ρ[i]? with
 | some w => match objO cl m w with
  | some _ => (r ρ).bind fun xs ρ2 => .ok (.o i :: xs) ρ2
  | none => .bad
 | none => .bad
section
variable {X : Cx} {c : Ct} {e : Expr} {es : List Expr} {pos apos npos : Pos} {ms : M (List AV)} {x cl m : Str} {k : Nat} {f : Addr} {fd : FuncData} {ps : List Str} {fn : Fn}
end
def mkO : OV → Env → Option OV
 | .d .none, some o :: _ => some o
 | _, _ => none
def mkR (ρ : Env) : Rf → Res OV
 | .ok v w => ofO (mkO v w) ρ
 | .ex ξ => .ex ξ ρ
 | .bad => .bad
def mMake (cl : Str) (fn : Fn) (ms : M (List D)) : M OV := fun ρ => (ms ρ).bind fun xs ρ1 => mkR ρ1 (fn (.obj cl [] :: xs.map .d))
section
variable {X : Cx} {c : Ct} {e : Expr} {es : List Expr} {pos : Pos} {ms : M (List D)} {x cl : Str} {k : Nat} {f : Addr} {fd : FuncData} {ps : List Str} {fn : Fn} {pu : Bool}
end
end DL
end
section
namespace DL
open PySem PySem.Spec PyProof.Rows L2 PySem.W
section
variable {T : Type} [Tg T] {ρ : DL.Env} {h : Exc → DL.Env → T}
theorem rB_fld {k : D → DL.Env → T} (i : Nat) (cl f : Str) : rB (mFld i cl f ρ) k h = oB (lkF cl f (gt ρ i)) fun x => k x ρ := by
 unfold mFld gt
 cases ρ[i]? with
 | none => rfl
 | some w => show rB (ofO (lkF cl f w) ρ) k h = _; rw [rB_ofO]
theorem rB_fldZ {k : D → DL.Env → T} (i : Nat) (cl f : Str) : rB (mFldZ i cl f ρ) k h = oB (fzV cl f (gt ρ i)) fun x => k x (ρ.set i (setF f (.d x) (gt ρ i))) := by
 unfold mFldZ gt
 cases ρ[i]? with
 | none => rfl
 | some w =>
  show rB (match fzV cl f w with | some x => .ok x (ρ.set i (setF f (.d x) w)) | none => .bad) k h = oB (fzV cl f w) _
  cases fzV cl f w <;> rfl
theorem rB_fldZK {k : D → DL.Env → T} (i : Nat) (cl f : Str) : rB (mFldZK i cl f ρ) k h = oB (fzVK cl f (gt ρ i)) fun x => k x (ρ.set i (setF f (.d x) (gt ρ i))) := by
 unfold mFldZK gt
 cases ρ[i]? with
 | none => rfl
 | some w =>
  show rB (match fzVK cl f w with | some x => .ok x (ρ.set i (setF f (.d x) w)) | none => .bad) k h = oB (fzVK cl f w) _
  cases fzVK cl f w <;> rfl
theorem rB_fldSet {k : Fl → DL.Env → T} (i : Nat) (cl f : Str) (m : M OV) : rB (sFldSet i cl f m ρ) k h = rB (m ρ) (fun o ρ1 => oB (setV cl f (gt ρ1 i) o) fun z => k .nx (ρ1.set i (some z))) h := by
 unfold sFldSet; rw [rB_bind]; congr; funext o ρ1
 unfold gt
 cases ρ1[i]? with
 | none => rfl
 | some w =>
  show rB (match setV cl f w o with | some z => .ok .nx (ρ1.set i (some z)) | none => .bad) k h = oB (setV cl f w o) _
  cases setV cl f w o <;> rfl
theorem rB_fldM {k : D → DL.Env → T} (i : Nat) (cl f : Str) (g : List D → List D → Option (List D × D)) (ms : M (List D)) : rB (mFldM i cl f g ms ρ) k h =
  oB (lstV cl f (gt ρ i)) fun xs => rB (ms (ρ.set i none)) (fun as ρ1 => oB (g xs as) fun z => k z.2 (ρ1.set i (setF f (.lst z.1) (gt ρ i)))) h := by
 unfold mFldM gt
 cases ρ[i]? with
 | none => rfl
 | some w =>
  simp only
  cases lstV cl f w with
  | none => rfl
  | some xs =>
   show rB ((ms (ρ.set i none)).bind _) k h = rB (ms (ρ.set i none)) _ h
   rw [rB_bind]; congr; funext as ρ1
   show rB (match g xs as with | some z => .ok z.2 (ρ1.set i (setF f (.lst z.1) w)) | none => .bad) k h = oB (g xs as) _
   cases g xs as <;> rfl
theorem rB_fldX {k : D → DL.Env → T} (i : Nat) (cl f : Str) (m : M D) : rB (mFldX i cl f m ρ) k h =
  oB (lstV cl f (gt ρ i)) fun xs => rB (m (ρ.set i none)) (fun a ρ1 => oB (extendD xs a) fun z => k .none (ρ1.set i (setF f (.lst z) (gt ρ i)))) h := by
 unfold mFldX gt
 cases ρ[i]? with
 | none => rfl
 | some w =>
  simp only
  cases lstV cl f w with
  | none => rfl
  | some xs =>
   show rB ((m (ρ.set i none)).bind _) k h = rB (m (ρ.set i none)) _ h
   rw [rB_bind]; congr; funext a ρ1
   show rB (match extendD xs a with | some z => .ok .none (ρ1.set i (setF f (.lst z) w)) | none => .bad) k h = oB (extendD xs a) _
   cases extendD xs a <;> rfl
theorem rB_fldPut {k : Fl → DL.Env → T} (i : Nat) (cl f : Str) (mk mv : M D) : rB (sFldPut i cl f mk mv ρ) k h =
  rB (mv ρ) (fun v ρ1 => oB (dctV cl f (gt ρ1 i)) fun l => rB (mk (ρ1.set i none)) (fun y ρ2 => oB (putD l y v) fun z => k .nx (ρ2.set i (setF f (.dct z) (gt ρ1 i)))) h) h := by
 unfold sFldPut; rw [rB_bind]; congr; funext v ρ1
 unfold gt
 cases ρ1[i]? with
 | none => rfl
 | some w =>
  simp only
  cases dctV cl f w with
  | none => rfl
  | some l =>
   show rB ((mk (ρ1.set i none)).bind _) k h = rB (mk (ρ1.set i none)) _ h
   rw [rB_bind]; congr; funext y ρ2
   show rB (match putD l y v with | some z => .ok .nx (ρ2.set i (setF f (.dct z) w)) | none => .bad) k h = oB (putD l y v) _
   cases putD l y v <;> rfl
theorem rB_gOb {k : List AV → DL.Env → T} (i : Nat) (cl m : Str) (r : M (List AV)) : rB (gOb i cl m r ρ) k h = oB (objO cl m (gt ρ i)) fun _ => rB (r ρ) (fun xs ρ2 => k (.o i :: xs) ρ2) h := by
 unfold gOb gt
 cases ρ[i]? with
 | none => rfl
 | some w =>
  simp only
  cases objO cl m w with
  | none => rfl
  | some _ =>
   show rB ((r ρ).bind _) k h = rB (r ρ) _ h
   rw [rB_bind]; rfl
theorem rB_make {k : OV → DL.Env → T} (cl : Str) (f : Fn) (m : M (List D)) : rB (mMake cl f m ρ) k h = rB (m ρ) (fun xs ρ1 => cX (f (.obj cl [] :: xs.map .d)) (fun ξ => h ξ ρ1) fun v w => oB (mkO v w) fun o => k o ρ1) h := by
 unfold mMake; rw [rB_bind]; congr; funext xs ρ1
 cases f (.obj cl [] :: xs.map .d) with
 | ok v w =>
  show rB (ofO (mkO v w) ρ1) k h = _
  rw [rB_ofO]; rfl
 | ex ξ => rfl
 | bad => rfl
end
abbrev RBV := And.intro @rB_fld <| And.intro @rB_fldZ <| And.intro @rB_fldZK <| And.intro @rB_fldSet <| And.intro @rB_fldM <| And.intro @rB_fldX <| And.intro @rB_fldPut <| And.intro @rB_gOb @rB_make
end DL
end
section
namespace DL
open PySem PySem.Spec PyProof.Rows L2 PySem.W
section
variable {σ T : Type} [Tg T]
end
def fdF (cl f : Str) (w : Option OV) : Option D := match fldV cl f w with
 | some (.d x) => some x
 | _ => none
def mFldD (i : Nat) (cl f : Str) : M D := fun ρ => match ρ[i]? with
 | some w => ofO (fdF cl f w) ρ
 | none => .bad
section
variable {X : Cx} {c : Ct} {pos npos : Pos} {x f cl : Str}
end
section
variable {T : Type} [Tg T] {ρ : DL.Env} {h : Exc → DL.Env → T}
theorem rB_fldD {k : D → DL.Env → T} (i : Nat) (cl f : Str) : rB (mFldD i cl f ρ) k h = oB (fdF cl f (gt ρ i)) fun x => k x ρ := by
 unfold mFldD gt
 cases ρ[i]? with
 | none => rfl
 | some w => show rB (ofO (fdF cl f w) ρ) k h = _; rw [rB_ofO]
end
abbrev RBV2 := And.intro RBV @rB_fldD
end DL
end
section
namespace DL
open PySem PySem.Spec PyProof.Rows L2 PySem.W
def slL (x : D) (lo hi : Option Int) : Option (List D) := match x with
 | .list xs => some (cutD xs lo hi)
 | _ => none
def mSlN (a : M D) (l u : M (Option Int)) : M (List D) := fun ρ => (a ρ).bind fun x ρ1 => (l ρ1).bind fun i ρ2 => (u ρ2).bind fun j ρ3 => ofO (slL x i j) ρ3
section
variable {X : Cx} {c : Ct} {a : Expr} {lo hi : Option Expr} {pos p2 : Pos} {ka pa pl pu : Bool} {ma : M D} {ml mu : M (Option Int)}
end
section
variable {T α : Type} [Tg T] {ρ : Env} {h : Exc → Env → T}
theorem rB_slN (a : M D) (l u : M (Option Int)) (k : List D → Env → T) : rB (mSlN a l u ρ) k h = rB (a ρ) (fun x ρ1 => rB (l ρ1) (fun i ρ2 => rB (u ρ2) (fun j ρ3 => oB (slL x i j) fun z => k z ρ3) h) h) h := by
 unfold mSlN; rw [rB_bind]; congr; funext x ρ1; rw [rB_bind]; congr; funext y ρ2; rw [rB_bind]; congr; funext z ρ3; rw [rB_ofO]
end
abbrev RBV3 := And.intro RBV2 @rB_slN
end DL
end
section
namespace DL
open PySem PySem.Spec PyProof.Rows L2 PySem.W
open PySem.SeqAt PySem.MeetsSeq PySem.AutoSeq1
section
variable {A : Around} {s : Shared}
end
inductive EqE (K : Frag) (H : Hp) : V → V → Bool → Prop
 | same {v w : V} {d e : D} : Dp K H v d → Dp K H w e → SeqAt.shaped d = true → SeqAt.shaped e = true → d.depth ≤ 63 → EqE K H v w (PyData.eqv d e)
 | lst {a c : Addr} {xs ys : List V} : SqT K H a xs → SqL K H c ys → EqE K H (.ref a) (.ref c) false
 | dct {a c : Addr} {xs : List V} {kvs : List (Key × V)} : SqT K H a xs → Rd H c (.dK kvs) → EqE K H (.ref a) (.ref c) false
section
variable {X : Cx} {pins : List (Addr × Obj)} {σ : L2.St} {H : Hp} {s : Shared}
end
section
variable {X : Cx}
end
end DL
end
section
namespace DLv
open PySem PySem.Calls PyProof.Rows PyProof.V PySem.Spec PySem.W
section
variable {prog : Program} {w : World} {K : Type} [DecidableEq K] {knd : KeyKind prog w K} {A : Around} {s : Shared} {R : Result → Shared → Prop} {kvs : List (K × Value)} {ep : Nat}
end
section
variable {prog : Program} {w : World} {K : Type} [DecidableEq K] {knd : KeyKind prog w K} {A : Around} {E : Value → Shared → Prop} {s : Shared} {r d : Addr} {kvs : List (K × Value)} {ep : Nat}
end
end DLv
namespace DL
open PySem PySem.Spec PyProof.Rows L2
section
variable {X : Cx} {e : Expr} {te : TE} {p apos cpos pos : Pos}
end
def valsD : D → Option (List D)
 | .dict kvs => if (cells kvs).isNone = true then some (kvs.map (·.2)) else none
 | _ => none
def mValsN (a : M D) : M (List D) := fun ρ => (a ρ).bind fun x ρ1 => ofO (valsD x) ρ1
section
variable {X : Cx} {c : Ct} {a : Expr} {p apos cpos pos : Pos} {ka pa : Bool} {ma : M D}
end
section
variable {T α : Type} [Tg T] {ρ : Env} {h : Exc → Env → T}
theorem rB_valsN (a : M D) (k : List D → Env → T) : rB (mValsN a ρ) k h = rB (a ρ) (fun x ρ1 => oB (valsD x) fun z => k z ρ1) h := by
 unfold mValsN; rw [rB_bind]; congr; funext x ρ1; rw [rB_ofO]
end
abbrev RBV4 := And.intro RBV3 @rB_valsN
end DL
end
section
namespace DL
open PySem PySem.Spec PyProof.Rows L2 PySem.Calls
def gCatR (a b : M (List AV)) : M (List AV) := fun ρ => (a ρ).bind fun as ρ1 => (b ρ1).bind fun bs ρ2 => .ok (as ++ bs.reverse) ρ2
section
variable {X : Cx} {c : Ct} {k n : Nat} {f : Addr} {fd : FuncData} {ps ks : List Str} {fn : Fn} {x : Str} {p pos : Pos} {e : Expr} {es : List Expr} {kws : List Keyword} {ma mk ms : M (List AV)}
end
end DL
namespace DL
open PySem PySem.Spec PyProof.Rows L2
theorem appN (bs : List AV) : [] ++ bs = bs := rfl
theorem appC (x : AV) (as bs : List AV) : (x :: as) ++ bs = x :: (as ++ bs) := rfl
theorem revA (x y : AV) : [x, y].reverse = [y, x] := rfl
section
variable {T α : Type} [Tg T] {ρ : Env} {h : Exc → Env → T}
theorem rB_catR (a b : M (List AV)) (k : List AV → Env → T) : rB (gCatR a b ρ) k h = rB (a ρ) (fun as ρ1 => rB (b ρ1) (fun bs ρ2 => k (as ++ bs.reverse) ρ2) h) h := by
 unfold gCatR; rw [rB_bind]; congr; funext x ρ1; rw [rB_bind]; congr
end
abbrev RBV5 := And.intro RBV4 <| And.intro @rB_catR <| And.intro @revA <| And.intro @appC @appN
end DL
end
section
namespace L2
open PySem PySem.Spec PyProof.Rows PySem.Calls
section
variable {K : PySem.W.Frag} {x qual : Str} {params : Arguments} {body : List Stmt} {scope : Scope} {kws : List (Str × V)} {f : Addr} {fd : FuncData} {ps : List Str}
end
end L2
namespace DL
open PySem PySem.Spec PyProof.Rows L2 PySem.Calls
def gCatD (y : D) (a b : M (List AV)) : M (List AV) := fun ρ => (a ρ).bind fun as ρ1 => (b ρ1).bind fun bs ρ2 => .ok (as ++ AV.d y :: bs) ρ2
section
variable {X : Cx} {c : Ct} {k n : Nat} {f : Addr} {fd : FuncData} {ps ks : List Str} {fn : Fn} {x : Str} {p pos : Pos} {e : Expr} {es : List Expr} {kws : List Keyword} {ma mk ms : M (List AV)} {dv : V} {y : D}
end
end DL
namespace DL
open PySem PySem.Spec PyProof.Rows L2
section
variable {T α : Type} [Tg T] {ρ : Env} {h : Exc → Env → T}
theorem rB_catD (y : D) (a b : M (List AV)) (k : List AV → Env → T) : rB (gCatD y a b ρ) k h = rB (a ρ) (fun as ρ1 => rB (b ρ1) (fun bs ρ2 => k (as ++ AV.d y :: bs) ρ2) h) h := by
 unfold gCatD; rw [rB_bind]; congr; funext x ρ1; rw [rB_bind]; congr
end
abbrev RBV6 := And.intro RBV5 @rB_catD
end DL
end
section
namespace SD
open PySem PySem.Spec PyProof.Rows L2 DL
end SD
end
section
namespace SE
open PySem PySem.Spec PyProof.Rows L2 DL
end SE
end
section
namespace SF
open PySem PySem.Spec PyProof.Rows L2 DL
end SF
end
section
namespace SG
open PySem PySem.Spec PyProof.Rows L2 DL
end SG
end
section
namespace SI
open PySem PySem.Spec PyProof.Rows L2 DL
end SI
end
section
namespace SJ
open PySem PySem.Spec PyProof.Rows L2 DL
end SJ
end
section
namespace DL
open PySem PySem.Spec PyProof.Rows L2 PySem.Calls
def putF (g : Addr → Obj) : Hp → List Addr → List (Key × V) → Hp
 | H, a :: as, p :: kvs => putF g (upd H a (.frz (g a) (.tup [kV p.1, p.2]))) as kvs
 | H, _, _ => H
variable {g : Addr → Obj}
section
variable {X : Cx} {e : Expr} {te : TE} {p apos cpos pos : Pos}
end
def itemsN : D → Option (List D)
 | .dict kvs => if (cells kvs).isNone = true then some (kvs.map fun p => .tuple [p.1, p.2]) else none
 | _ => none
def mItemsN (a : M D) : M (List D) := fun ρ => (a ρ).bind fun x ρ1 => ofO (itemsN x) ρ1
section
variable {X : Cx} {c : Ct} {a : Expr} {p apos cpos pos : Pos} {ka pa : Bool} {ma : M D}
end
section
variable {T α : Type} [Tg T] {ρ : Env} {h : Exc → Env → T}
theorem rB_itemsN (a : M D) (k : List D → Env → T) : rB (mItemsN a ρ) k h = rB (a ρ) (fun x ρ1 => oB (itemsN x) fun z => k z ρ1) h := by
 unfold mItemsN; rw [rB_bind]; congr; funext x ρ1; rw [rB_ofO]
end
abbrev RBV7 := And.intro RBV6 @rB_itemsN
end DL
end
section
namespace DL
open PySem PySem.Spec PyProof.Rows L2 PySem.Calls
section
variable {K : Frag} {F : Hp} {p : Addr} {od : Obj} {ws : List (Key × V)}
end
section
variable {K : Frag} {ca : Str → Addr} {F F2 H H2 : Hp}
theorem SlR.conv2 : ∀ {σ : Sl} {ρ : Env} {O : List Addr}, SlR K ca F H σ ρ O → (∀ (j : Nat) v o A, σ[j]? = some (some v) → ρ[j]? = some (some o) → OwR K ca F H v o A → OwR K ca F2 H2 v o A) → SlR K ca F2 H2 σ ρ O
 | _, _, _, .nil, _ => .nil
 | _, _, _, .no r, k => .no (r.conv2 fun j v o A h1 h2 => k (j + 1) v o A (by simpa using h1) (by simpa using h2))
 | _, _, _, .so h r, k => .so (k 0 _ _ _ rfl rfl h) (r.conv2 fun j v o A h1 h2 => k (j + 1) v o A (by simpa using h1) (by simpa using h2))
end
open Classical in
noncomputable def mLendK (i : Nat) (fb : List Nat) (m : M D) : M D := fun ρ => match ρ[i]? with
 | some (some (.dct l)) => match m (ρ.set i (some (.d (.dict l)))) with
  | .ok y ρ' => if ρ'[i]? = some (some (.d (.dict l))) ∧ flatB y = true ∧ okSlots i fb 0 (ρ.set i (some (.d (.dict l)))) ρ' then .ok y (ρ'.set i (some (.dct l))) else .bad
  | _ => .bad
 | _ => .bad
section
variable {X : Cx} {c : Ct} {e : Expr} {pu : Bool} {m : M D}
end
section
variable {T : Type} [Tg T] {ρ : Env} {h : Exc → Env → T}
theorem rB_lendK {k : D → Env → T} (i : Nat) (fb : List Nat) (m : M D) : rB (mLendK i fb m ρ) k h = oB (kO (gt ρ i)) fun l => rB (m (ρ.set i (some (.d (.dict l))))) (fun y ρ' => iB (ρ'[i]? = some (some (.d (.dict l)))) (iB (flatB y = true ∧ okSlots i fb 0 (ρ.set i (some (.d (.dict l)))) ρ') (k y (ρ'.set i (some (.dct l)))))) hN := by
 unfold mLendK gt
 cases ρ[i]? with
 | none => rfl
 | some w => cases w with
  | none => rfl
  | some o => cases o with
   | dct l =>
    simp only [kO, oB_some]
    cases m (ρ.set i (some (.d (.dict l)))) with
    | ok y ρ' =>
     by_cases q : ρ'[i]? = some (some (.d (.dict l)))
     ·by_cases q2 : flatB y = true ∧ okSlots i fb 0 (ρ.set i (some (.d (.dict l)))) ρ'
      ·simp only [rB, iB_t q, iB_t q2, if_pos (And.intro q q2)]
      ·simp only [rB, iB, if_neg q2, if_neg fun z : _ ∧ _ => q2 z.2, if_pos q]
     ·simp only [rB, iB, if_neg q, if_neg fun z : _ ∧ _ => q z.1]
    | ex ξ ρ' => rfl
    | bad => rfl
   | _ => rfl
end
abbrev RBV8 := And.intro @rB_lendK @iB_True
end DL
end
section
namespace SK
open PySem PySem.Spec PyProof.Rows L2 DL
end SK
end
section
namespace DL
open PySem PySem.Spec PyProof.Rows L2 PySem.Calls
def nmO (os : List OV) : List (Str × OV) := os.map fun o => ("", o)
def mNilO : M (List OV) := fun ρ => .ok [] ρ
def mConsO (a : M OV) (r : M (List OV)) : M (List OV) := fun ρ => (a ρ).bind fun x ρ1 => (r ρ1).bind fun xs ρ2 => .ok (x :: xs) ρ2
def mTupO (m : M (List OV)) : M OV := fun ρ => (m ρ).bind fun os ρ1 => .ok (.tup (nmO os)) ρ1
def POs (K : Frag) (c : Ct) (F H : Hp) (σ : Sl) (Q : List V → Hp → Prop) (os : List OV) (ρ' : Env) : Prop :=
 ∀ F' H' O' A fvs, EnvR K c F' H' σ ρ' O' → Same F F' → OwF K c.ca F' H' fvs (nmO os) A → Apart c F' A O' → Q (fvs.map (·.2)) H'
def tOs (K : Frag) (c : Ct) (m : M (List OV)) : TA := fun σ H Q => ∃ F ρ O, EnvR K c F H σ ρ O ∧ (m ρ).post (POs K c F H σ Q) (PX K c σ)
def tOsA (K : Frag) (c : Ct) (m : M (List OV)) : TA := fun σ H Q => ∃ F0 H0 O0 σ0, tOs K (c.at F0 H0 O0 σ0) m σ H Q
structure SO (X : Cx) (c : Ct) (es : List Expr) (m : M (List OV)) : Prop where
 pa : PA X es (tOs X.K c m)
 len : ∀ ρ xs ρ', m ρ = .ok xs ρ' → xs.length = es.length
section
variable {K : Frag} {ca : Str → Addr} {F H : Hp}
theorem OwF.lengthOw : ∀ {fvs : List (Str × V)} {fs : List (Str × OV)} {O : List Addr}, OwF K ca F H fvs fs O → fvs.length = fs.length
 | _, _, _, .nil => rfl
 | _, _, _, .cons _ r => by rw [List.length_cons, List.length_cons, r.lengthOw]
end
section
variable {X : Cx} {c : Ct} {e : Expr} {es : List Expr} {pos : Pos} {ma : M OV} {ms : M (List OV)}
theorem so_nilO : SO X c [] mNilO := ⟨pa_nil.imp fun σ H Q ⟨F, ρ, O, e, h⟩ => h F H O [] [] e (Same.refl _) .nil ⟨e.nd, fun p hp => by cases hp⟩, fun ρ xs ρ' h => by cases h; rfl⟩
theorem so_consO (ha : PE X e (to X.K c ma)) (hr : ∀ F H O σ, SO X (c.at F H O σ) es ms) (hs : starEach (e :: es) X.env = (false, eval e X.env) :: starEach es X.env := by rfl) : SO X c (e :: es) (mConsO ma ms) := by
 have hp : PA X es (tOsA X.K c ms) := ⟨fun pos pins s σ H Q I ⟨F0, H0, O0, σ0, q⟩ => (hr F0 H0 O0 σ0).pa.run pos pins s σ H Q I q⟩
 refine ⟨(pa_cons ha hp hs).imp fun σ H Q ⟨F, ρ, O, ev, h⟩ => to_step ev h fun o ρ1 F1 H1 O1 A v h2 e1 s1 r1 a1 => ?_, fun ρ xs ρ' h => ?_⟩
 ·have h3 := Res.post_bind h2
  refine ⟨F1, H1, O1, σ, F1, ρ1, O1, e1.self, Res.post_imp h3 (fun os ρ2 h4 F' H' O' A' fvs e' s' rF a' => ?_) fun ξ ρ' h F' H' O' cls d e' x => h F' H' O' cls d (e1.trans e') x⟩
  obtain ⟨aA, same⟩ := e1.keepA a1 r1.there e'
  have aB := Apart.trans e1 a'
  refine h4 F' H' O' (A ++ A') ((("" : Str), v) :: fvs) (e1.trans e') (s1.trans s') (.cons (r1.mono s' fun b hb => same b hb) rF) ⟨?_, fun p hp => ?_⟩
  ·rw [List.append_assoc]
   refine List.nodup_append.mpr ⟨(List.nodup_append.mp aA.nd).1, a'.nd, fun x hx y hy z => ?_⟩
   subst z
   rcases List.mem_append.mp hy with hy | hy
   ·rcases (a'.ow x hy).2 with w | w
    ·exact (List.nodup_append.mp a1.nd).2.2 x hx x w rfl
    ·exact r1.there x hx w
   ·exact (List.nodup_append.mp aA.nd).2.2 x hx x hy rfl
  ·rcases List.mem_append.mp hp with hp | hp
   ·exact aA.ow p hp
   ·exact aB.ow p hp
 ·unfold mConsO at h
  cases h1 : ma ρ with
  | ok x ρ1 =>
   rw [h1] at h
   have h : ((ms ρ1).bind fun xs ρ2 => Res.ok (x :: xs) ρ2) = .ok xs ρ' := h
   cases h2 : ms ρ1 with
   | ok ys ρ2 =>
    rw [h2] at h
    have h : Res.ok (x :: ys) ρ2 = .ok xs ρ' := h
    cases h
    rw [List.length_cons, List.length_cons, (hr (fun _ => none) (fun _ => none) [] []).len _ _ _ h2]
   | ex _ _ => rw [h2] at h; cases h
   | bad => rw [h2] at h; cases h
  | ex _ _ => rw [h1] at h; cases h
  | bad => rw [h1] at h; cases h
theorem so_tupO {k : Nat} (h : SO X c es ms) (hl : es.length ≤ 1000 := by exact Nat.le_of_ble_eq_true rfl) : PE X (.Tuple es k pos) (to X.K c (mTupO ms)) := (pe_tupF h.pa).imp fun σ H Q ⟨F, ρ, O, ev, h1⟩ => by
 unfold mTupO at h1
 refine ⟨F, ρ, O, ev, ?_⟩
 cases hm : ms ρ with
 | bad => rw [hm] at h1; exact h1
 | ex ξ ρ' => rw [hm] at h1; exact h1
 | ok os ρ1 =>
  rw [hm] at h1
  intro F1 H1 O1 A fvs e1 s1 rF a1
  refine ⟨by rw [List.length_map, rF.lengthOw]; unfold nmO; rw [List.length_map, h.len _ _ _ hm]; exact few hl, fun p ob hp hob => ?_⟩
  have n := New.one e1.sub hp (.frz ob (.tup (fvs.map (·.2))))
  have h1 : PO X.K c F H σ Q (.tup (nmO os)) ρ1 := h1
  exact h1 _ _ O1 A _ (e1.new n) (s1.trans n.fF) (.tup (.inl ⟨ob, upd_same, hob⟩) (rF.mono n.fF fun b hb => by
   have z := rF.there b hb
   cases hz : H1 b with
   | none => exact absurd hz z
   | some u => exact n.hH _ _ hz)) (a1.new n rF.there)
end
section
variable {K : Frag} {ca : Str → Addr} {F H : Hp}
theorem OwF.atOw : ∀ {fvs : List (Str × V)} {fs : List (Str × OV)} {O : List Addr} {k : Nat} {x : Str} {o : OV}, OwF K ca F H fvs fs O → fs[k]? = some (x, o) →
  ∃ v A B, fvs[k]? = some (x, v) ∧ OwR K ca F H v o A ∧ O.Perm (A ++ B) ∧ ∀ F' H', Same F F' → (∀ b ∈ B, H' b = H b) → ∀ o' A', OwR K ca F' H' v o' A' → ∃ A2, OwF K ca F' H' fvs (fs.set k (x, o')) A2 ∧ A2.Perm (A' ++ B)
 | _, _, _, 0, x, o, .cons (A := A) (B := B) h r, e => by
  rw [List.getElem?_cons_zero] at e
  cases e
  exact ⟨_, A, B, rfl, h, .refl _, fun F' H' s k o' A' h' => ⟨A' ++ B, .cons h' (r.mono s k), .refl _⟩⟩
 | _, _, _, k + 1, x, o, .cons (A := A0) (B := B0) h r, e => by
  rw [List.getElem?_cons_succ] at e
  obtain ⟨v, A, B, h1, h2, h3, h4⟩ := r.atOw e
  refine ⟨v, A, A0 ++ B, by rw [List.getElem?_cons_succ]; exact h1, h2, ?_, fun F' H' s k o' A' h' => ?_⟩
  ·refine (List.Perm.append_left A0 h3).trans ?_
   rw [← List.append_assoc, ← List.append_assoc]
   exact List.Perm.append_right B List.perm_append_comm
  ·obtain ⟨A2, g1, g2⟩ := h4 F' H' s (fun b hb => k b (List.mem_append_right _ hb)) o' A' h'
   refine ⟨A0 ++ A2, .cons (h.mono s fun b hb => k b (List.mem_append_left _ hb)) g1, ?_⟩
   refine (List.Perm.append_left A0 g2).trans ?_
   rw [← List.append_assoc, ← List.append_assoc]
   exact List.Perm.append_right B List.perm_append_comm
 | _, _, _, _, _, _, .nil, e => by simp at e
end
def mTupM (i k : Nat) (g : List D → List D → Option (List D × D)) (ms : M (List D)) : M D := fun ρ => match ρ[i]? with
 | some (some (.tup fs)) => match fs[k]? with
  | some (x, .lst xs) => (ms (ρ.set i none)).bind fun as ρ1 => match g xs as with
   | some y => .ok y.2 (ρ1.set i (some (.tup (fs.set k (x, .lst y.1)))))
   | none => .bad
  | _ => .bad
 | _ => .bad
section
variable {X : Cx} {c : Ct} {e : Expr} {es : List Expr} {pos apos cpos npos ipos spos : Pos} {pu : Bool} {ms : M (List D)} {g : List D → List D → Option (List D × D)} {x name : Str} {id : String}
theorem tupM_step {i k : Nat} {σ : Sl} {H : Hp} {Q : VK} {F : Hp} {ρ : Env} {O : List Addr} {t : (List V → Hp → Prop) → Hp → Prop} (ev : EnvR X.K c F H σ ρ O)
  (ht : ∀ {F R ρ0} (P : List V → Hp → Prop), EnvR X.K (c.at F H R σ) F H σ ρ0 R → (ms ρ0).post (PAs X.K (c.at F H R σ) pu F H σ P) (PX X.K (c.at F H R σ) σ) → t P H)
  (h : (mTupM i k g ms ρ).post (PV X.K c false false F H σ Q) (PX X.K c σ)) :
  ∃ v, σ[i]? = some (some v) ∧ rIxT X.K v (.int (k : Nat)) H fun w H1 => H1 = H ∧ ∃ p2 vs, w = .ref p2 ∧ H p2 = some (.lst vs) ∧ t (fun ws H2 => rLM X.K g w ws H2 Q) H := by
 unfold mTupM at h
 cases q : ρ[i]? with
 | none => rw [q] at h; exact h.elim
 | some w =>
  rw [q] at h
  cases w with
  | none => exact h.elim
  | some o =>
   cases o with
   | tup fs =>
    simp only at h
    cases z : fs[k]? with
    | none => rw [z] at h; exact h.elim
    | some xo =>
     obtain ⟨y, o⟩ := xo
     rw [z] at h
     cases o with
     | d _ => exact h.elim
     | dct _ => exact h.elim
     | dctT _ => exact h.elim
     | obj _ _ => exact h.elim
     | tup _ => exact h.elim
     | lst xs =>
      obtain ⟨v, A, R, k1, k2, k3, k4, _⟩ := ev.take q
      cases k2 with
      | @tup a fvs _ _ hT hF =>
       obtain ⟨v2, A2, B, j1, j2, j3, j4⟩ := hF.atOw z
       cases j2 with
       | @lst p2 vs _ hp2 rr =>
        have a3 : Apart c F (p2 :: B) R := k3.perm j3.symm
        have hv : (fvs.map (·.2))[k]? = some (.ref p2) := by rw [List.getElem?_map, j1]; rfl
        refine ⟨_, k1, a, _, _, _, rfl, rfl, sq_t ev.sub hT.seq, L2.atI_nat hv, rfl, p2, vs, rfl, hp2, ?_⟩
        have th : ∀ b ∈ p2 :: B, H b ≠ none := fun b hb => hF.there b (j3.mem_iff.mpr hb)
        have p2B : p2 ∉ B := (List.nodup_cons.mp (List.nodup_append.mp a3.nd).1).1
        refine ht _ k4.self ?_
        refine Res.post_imp (Res.post_bind h) (fun as ρ1 h2 F1 H1 O1 ws e1 s1 _ r1 => ?_) fun ξ ρ' h F' H' O' cls d e' x => h F' H' O' cls d (k4.trans e') x
        obtain ⟨a1, same⟩ := k4.keepA a3 th e1
        cases hg : g xs as with
        | none => simp only [hg] at h2; exact h2.elim
        | some y2 =>
         simp only [hg] at h2
         refine ⟨F1, p2, vs, xs, as, y2, rfl, e1.sub, (same p2 (by simp)).trans hp2, (a1.ow p2 (by simp)).1, rr.mono s1, r1, hg, fun ws' u g1 g2 => ?_⟩
         have e2 := (k4.trans e1).upd_out (a1.one (q := p2) (by simp)) (.lst ws')
         obtain ⟨A4, l1, l2⟩ := j4 F1 (upd H1 p2 (.lst ws')) s1 (fun b hb => (upd_ne fun z => p2B (by rw [← z]; exact hb)).trans (same b (by simp [hb]))) (.lst y2.1) [p2] (.lst upd_same g1)
         obtain ⟨O', j⟩ := e2.putS k1 (.tup (hT.mono s1) l1) (a1.perm l2)
         exact h2 F1 _ O' u j s1 (fun z => nomatch z) g2
   | _ => exact h.elim
theorem se_tupM (i k : Nat) (slot : Slot "list" name id) (hty : typeOf (.builtin id) = pure (.type "method_descriptor")) (hm : MtR X id (rLM X.K g)) (ha : ∀ F H O σ, SA X (c.at F H O σ) (e :: es) pu ms)
  (hN : X.N[i]? = some x := by rfl) (hv : Vis X.env.scope x := by first | exact Or.inl rfl | exact Or.inr (Or.inl rfl) | exact Or.inr (Or.inr rfl)) (hd : (x == ("__debug__" : Str)) = false := by decide)
  (hcd : (x == ("__classdict__" : Str)) = false := by decide)
  (hbase : attributeBase (.Subscript (.Name x npos) (.Constant (.int (k : Nat)) j ipos) spos) name X.env (eval (.Subscript (.Name x npos) (.Constant (.int (k : Nat)) j ipos) spos) X.env) = eval (.Subscript (.Name x npos) (.Constant (.int (k : Nat)) j ipos) spos) X.env := by rfl)
  (hfew : ((backTo cpos (starEach (e :: es) X.env)).all (fun x => !x.1) && (backToKw cpos (keywordEach [] X.env)).all (fun x => x.1.isSome)
   && decide ((e :: es).length + ([] : List Keyword).length + (if ([] : List Keyword).isEmpty then 0 else 1) < 30)) = true := by rfl)
  (hline : (apos.endLine == cpos.line) = true := by rfl) (hs : starEach (e :: es) X.env = (false, eval e X.env) :: starEach es X.env := by rfl) (hplain : (backTo cpos (starEach es X.env)).any (·.1) = false := by rfl) :
  PE X (.Call (.Attribute (.Subscript (.Name x npos) (.Constant (.int (k : Nat)) j ipos) spos) name apos) (e :: es) [] cpos) (te X.K c false false (mTupM i k g ms)) := by
 have hp : PA X (e :: es) (taE X.K c pu ms) := ⟨fun pos pins s σ H Q I ⟨F0, H0, O0, σ0, q⟩ => (ha F0 H0 O0 σ0).pa.run pos pins s σ H Q I q⟩
 refine (pe_bm F.plainAttrs_list slot hty hm (pe_ix ix_tup (pe_var hN hv hd hcd) pe_int (fun _ _ => rfl)) hp hbase hfew hline hs hplain).imp fun σ H Q ⟨F, ρ, O, ev, h⟩ => ?_
 obtain ⟨v, h1, p, zs, i', v', h2, h3, h4, h5, h6, p2, vs, h7, h8, h9⟩ := tupM_step (t := fun P H1 => taE X.K c pu ms σ H1 P) ev (fun P e0 post => ⟨_, _, _, _, _, _, _, e0, post⟩) h
 refine ⟨v, h1, p, zs, i', v', h2, h3, h4, h5, ?_⟩
 rw [h7]
 exact ⟨.inl ⟨rfl, _, .of h8⟩, by rw [h7] at h9; exact h9⟩
theorem se_tupM0 (i k : Nat) (slot : Slot "list" name id) (hty : typeOf (.builtin id) = pure (.type "method_descriptor")) (hm : MtR X id (rLM X.K g))
  (hN : X.N[i]? = some x := by rfl) (hv : Vis X.env.scope x := by first | exact Or.inl rfl | exact Or.inr (Or.inl rfl) | exact Or.inr (Or.inr rfl)) (hd : (x == ("__debug__" : Str)) = false := by decide)
  (hcd : (x == ("__classdict__" : Str)) = false := by decide)
  (hbase : attributeBase (.Subscript (.Name x npos) (.Constant (.int (k : Nat)) j ipos) spos) name X.env (eval (.Subscript (.Name x npos) (.Constant (.int (k : Nat)) j ipos) spos) X.env) = eval (.Subscript (.Name x npos) (.Constant (.int (k : Nat)) j ipos) spos) X.env := by rfl)
  (hline : (apos.endLine == cpos.line) = true := by rfl) :
  PE X (.Call (.Attribute (.Subscript (.Name x npos) (.Constant (.int (k : Nat)) j ipos) spos) name apos) [] [] cpos) (te X.K c false false (mTupM i k g mNil)) := by
 refine (pe_bm0 F.plainAttrs_list slot hty hm (pe_ix ix_tup (pe_var hN hv hd hcd) pe_int (fun _ _ => rfl)) hbase hline).imp fun σ H Q ⟨F, ρ, O, ev, h⟩ => ?_
 obtain ⟨v, h1, p, zs, i', v', h2, h3, h4, h5, h6, p2, vs, h7, h8, h9⟩ := tupM_step (pu := true) (t := fun P H1 => P [] H1) ev (fun P e0 post => by
  have post : PAs _ _ _ _ _ _ _ [] _ := post
  exact post _ _ _ [] e0 (Same.refl _) (fun _ => Same.refl _) .nil) h
 refine ⟨v, h1, p, zs, i', v', h2, h3, h4, h5, ?_⟩
 rw [h7]
 exact ⟨.inl ⟨rfl, _, .of h8⟩, by rw [h7] at h9; exact h9⟩
end
def minusA (F : Hp) (A : List Addr) : Hp := fun b => if b ∈ A then none else F b
theorem minusA_in {F : Hp} {A : List Addr} {b : Addr} (h : b ∈ A) : minusA F A b = none := if_pos h
theorem minusA_out {F : Hp} {A : List Addr} {b : Addr} (h : b ∉ A) : minusA F A b = F b := if_neg h
theorem minusA_none {F : Hp} {A : List Addr} {b : Addr} (h : F b = none) : minusA F A b = none := by
 by_cases e : b ∈ A
 ·exact minusA_in e
 ·rw [minusA_out e]; exact h
theorem minusA_of {F F' : Hp} {A : List Addr} (h : Same F F') (n : ∀ p ∈ A, F p = none) : Same F (minusA F' A) := fun b u q => by
 by_cases e : b ∈ A
 ·rw [n b e] at q; cases q
 ·rw [minusA_out e]; exact h b u q
section
variable {K : Frag} {F : Hp} {A : List Addr}
mutual
theorem rp_minusA (hp : ∀ p ∈ A, ∃ ws, F p = some (.lst ws)) : ∀ {v : V} {x : D}, Rp K F v x → flatB x = true → Rp K (minusA F A) v x
 | _, _, .non, _ => .non
 | _, _, .bl b, _ => .bl b
 | _, _, .int i, _ => .int i
 | _, _, .str x, _ => .str x
 | _, _, .lst h r, e => by rw [flatB] at e; cases e; all_goals (intros; contradiction)
 | _, _, .scr h r, e => by rw [flatB] at e; cases e; all_goals (intros; contradiction)
 | _, _, .tup h r, e => by
  rw [flatB] at e
  have out : ∀ {b : Addr} {u : HO}, F b = some u → (∀ ws, u ≠ .lst ws) → minusA F A b = some u := fun {b u} q n => by
   by_cases z : b ∈ A
   ·obtain ⟨ws, w⟩ := hp b z
    rw [w] at q
    cases q
    exact absurd rfl (n ws)
   ·rw [minusA_out z]; exact q
  refine .tup ?_ (rpAll_minusA hp r e)
  rcases h with ⟨ob, h, hd⟩ | ⟨h, hc⟩
  ·exact .inl ⟨ob, out h (fun ws z => by cases z), hd⟩
  refine .inr ⟨?_, hc⟩
  rcases h with (h | ⟨o, h⟩) | h
  ·exact .inl (.inl (out h (fun ws z => by cases z)))
  ·exact .inl (.inr ⟨o, out h (fun ws z => by cases z)⟩)
  ·exact .inr h
 | _, _, .dcK h r, e => by rw [flatB] at e; cases e; all_goals (intros; contradiction)
theorem rpAll_minusA (hp : ∀ p ∈ A, ∃ ws, F p = some (.lst ws)) : ∀ {vs : List V} {xs : List D}, RpAll K F vs xs → flatL xs = true → RpAll K (minusA F A) vs xs
 | _, _, .nil, _ => .nil
 | _, _, .cons h r, e => by
  rw [flatL, Bool.and_eq_true] at e
  exact .cons (rp_minusA hp h e.1) (rpAll_minusA hp r e.2)
end
end
open Classical in
noncomputable def mLendT (i : Nat) (fb : List Nat) (m : M Bool) : M Bool := fun ρ => match ρ[i]? with
 | some (some (.tup fs)) => match frzL fs with
  | some ds => match m (ρ.set i (some (.d (.tuple ds)))) with
   | .ok y ρ' => if ρ'[i]? = some (some (.d (.tuple ds))) ∧ okSlots i fb 0 (ρ.set i (some (.d (.tuple ds)))) ρ' then .ok y (ρ'.set i (some (.tup fs))) else .bad
   | _ => .bad
  | none => .bad
 | _ => .bad
section
variable {X : Cx} {c : Ct} {e : Expr} {pu : Bool} {m : M Bool}
theorem st_lendT (i : Nat) (fb : List Nat) (h : PT X e (tt X.K c pu m)) : PT X e (tt X.K c false (mLendT i fb m)) := h.imp fun σ H Q ⟨F, ρ, O, ev, h1⟩ => by
 unfold mLendT at h1
 cases q : ρ[i]? with
 | none => rw [q] at h1; exact h1.elim
 | some w =>
  rw [q] at h1
  cases w with
  | none => exact h1.elim
  | some o =>
   cases o with
   | tup fs =>
    simp only at h1
    cases hz : frzL fs with
    | none => rw [hz] at h1; exact h1.elim
    | some ds =>
     rw [hz] at h1
     simp only at h1
     obtain ⟨v, A, R, g1, g2, g3, g4, _⟩ := ev.take q
     cases g2 with
     | @tup a fvs _ _ hT hF =>
      have fA : ∀ p ∈ A, F p = none := fun p hp => (g3.ow p hp).1
      have e2 := g4.frz g3
      have s2 : Same F (frzF F H A) := frz_same fA
      obtain ⟨r2, lA⟩ := hF.frzL s2 hz fun p hp => frz_in hp
      have rt : Rp X.K (frzF F H A) (.ref a) (.tuple ds) := .tup (hT.mono s2) r2
      obtain ⟨R', k1, k2, _, k4⟩ := e2.sl.put (i := i) (List.getElem?_eq_some_iff.mp g1).1
      obtain ⟨O1, k5, k6⟩ := k4 (.ref a) (.d (.tuple ds)) [] (.d rt)
      rw [set_self g1, List.set_set] at k5
      have e3 : EnvR X.K c (frzF F H A) H σ (ρ.set i (some (.d (.tuple ds)))) O1 := ⟨e2.sub, e2.f0, e2.h0, e2.n0, k5, k6.nodup_iff.mpr (k2 e2.nd), fun p hp => e2.ow p (k1 p (k6.mem_iff.mp hp)), e2.fx⟩
      generalize hρ : ρ.set i (some (.d (.tuple ds))) = ρ1 at h1 e3
      refine ⟨_, ρ1, O1, e3, ?_⟩
      cases hr : m ρ1 with
      | bad => rw [hr] at h1; exact h1.elim
      | ex ξ ρ' => rw [hr] at h1; exact h1.elim
      | ok y ρ' =>
       rw [hr] at h1
       simp only at h1
       split at h1
       ·rename_i hok
        obtain ⟨y1, y3⟩ := hok
        intro F' H' O' e' s' _
        have F'A : ∀ p ∈ A, F' p = H p := fun p hp => by
         obtain ⟨ws, w⟩ := lA p hp
         rw [w]
         exact s' _ _ ((frz_in hp).trans w)
        have lA' : ∀ p ∈ A, ∃ ws, F' p = some (.lst ws) := fun p hp => by
         obtain ⟨ws, w⟩ := lA p hp
         exact ⟨ws, (F'A p hp).trans w⟩
        have H'A : ∀ p ∈ A, H' p = H p := fun p hp => by
         obtain ⟨ws, w⟩ := lA p hp
         rw [w]
         exact e'.sub _ _ ((F'A p hp).trans w)
        have FF' : Same F F' := s2.trans s'
        have F3 : Same F (minusA F' A) := minusA_of FF' fA
        obtain ⟨v2, A', R2, u1, u2, u3, u4, um⟩ := e'.take y1
        rw [g1] at u1
        cases u1
        cases u2 with
        | d ru =>
         have sl3 : SlR X.K c.ca (minusA F' A) H' σ (ρ'.set i none) R2 := u4.sl.conv2 fun j v o B j1 j2 ow => by
          by_cases hj : j = i
          ·subst hj
           rw [List.getElem?_set_self (List.getElem?_eq_some_iff.mp y1).1] at j2
           cases j2
          ·rw [List.getElem?_set_ne (Ne.symm hj)] at j2
           obtain ⟨b, a1, a2⟩ := okSlots_at y3 j2
           rw [Nat.zero_add] at a2
           have a2 := a2.resolve_left hj
           cases ow with
           | d r =>
            rcases a2 with z | ⟨z1, z2⟩
            ·exact .d (rp_minusA lA' r z)
            ·subst z2
             rw [← hρ, List.getElem?_set_ne (Ne.symm hj)] at a1
             obtain ⟨w, B, w1, w2⟩ := ev.var a1
             rw [w1] at j1
             cases j1
             cases w2 with
             | d r0 => exact .d (r0.mono F3)
           | lst g r => exact .lst g (rpAll_minusA lA' r a2)
           | dcK g r => exact absurd a2 (by intro z; exact z)
           | dcT g r => exact absurd a2 (by intro z; exact z)
           | obj _ _ _ => exact absurd a2 (by intro z; exact z)
           | tup _ _ => exact absurd a2 (by intro z; exact z)
         have AR2 : ∀ p ∈ A, p ∉ R2 := fun p hp z => by
          have w := (u4.ow p z).1
          obtain ⟨ws, w2⟩ := lA' p hp
          rw [w2] at w; cases w
         obtain ⟨R3, m1, m2, _, m4⟩ := sl3.put (i := i) (List.getElem?_eq_some_iff.mp g1).1
         obtain ⟨O3, m5, m6⟩ := m4 (.ref a) (.tup fs) A (.tup (hT.mono F3) (hF.mono F3 H'A))
         rw [set_self g1, List.set_set] at m5
         refine h1 (minusA F' A) H' O3 ⟨fun b u z => ?_, ?_, e'.h0, fun b z1 z2 z3 => minusA_none (e'.n0 b z1 z2 z3), m5, m6.nodup_iff.mpr ?_, fun q hq => ?_, e'.fx⟩ F3 fun z => nomatch z
         ·by_cases zb : b ∈ A
          ·rw [minusA_in zb] at z; cases z
          ·rw [minusA_out zb] at z
           exact e'.sub b u z
         ·exact minusA_of e'.f0 fun p hp => by
           cases z : c.F p with
           | none => rfl
           | some u =>
            have w := ev.f0 _ _ z
            rw [fA p hp] at w; cases w
         ·exact List.nodup_append.mpr ⟨(List.nodup_append.mp g3.nd).1, m2 u4.nd, fun x hx y hy z => AR2 x hx (m1 x (by rw [z]; exact hy))⟩
         ·rcases List.mem_append.mp (m6.mem_iff.mp hq) with z | z
          ·exact ⟨minusA_in z, (g3.ow q z).2⟩
          ·exact ⟨minusA_none (u4.ow q (m1 q z)).1, (u4.ow q (m1 q z)).2⟩
       ·exact h1.elim
   | _ => exact h1.elim
end
section
variable {T : Type} [Tg T] {ρ : Env} {h : Exc → Env → T}
def tpO (w : Option OV) : Option (List (Str × OV)) := match w with
 | some (.tup fs) => some fs
 | _ => none
@[simp] theorem tpO_t (fs : List (Str × OV)) : tpO (some (.tup fs)) = some fs := rfl
theorem rB_nilO {k : List OV → Env → T} : rB (mNilO ρ) k h = k [] ρ := rfl
theorem rB_consO {k : List OV → Env → T} (a : M OV) (r : M (List OV)) : rB (mConsO a r ρ) k h = rB (a ρ) (fun x ρ1 => rB (r ρ1) (fun xs ρ2 => k (x :: xs) ρ2) h) h := by
 unfold mConsO; rw [rB_bind]; congr; funext x ρ1; rw [rB_bind]; rfl
theorem rB_tupO {k : OV → Env → T} (m : M (List OV)) : rB (mTupO m ρ) k h = rB (m ρ) (fun os ρ1 => k (.tup (nmO os)) ρ1) h := by
 unfold mTupO; rw [rB_bind]; rfl
theorem rB_lendT {k : Bool → Env → T} (i : Nat) (fb : List Nat) (m : M Bool) : rB (mLendT i fb m ρ) k h = oB (tpO (gt ρ i)) fun fs => oB (frzL fs) fun ds => rB (m (ρ.set i (some (.d (.tuple ds))))) (fun y ρ' => iB (ρ'[i]? = some (some (.d (.tuple ds)))) (iB (okSlots i fb 0 (ρ.set i (some (.d (.tuple ds)))) ρ') (k y (ρ'.set i (some (.tup fs)))))) hN := by
 unfold mLendT gt
 cases ρ[i]? with
 | none => rfl
 | some w => cases w with
  | none => rfl
  | some o => cases o with
   | tup fs =>
    simp only [tpO, oB_some]
    cases frzL fs with
    | none => rfl
    | some ds =>
     simp only [oB_some]
     cases m (ρ.set i (some (.d (.tuple ds)))) with
     | ok y ρ' =>
      by_cases q : ρ'[i]? = some (some (.d (.tuple ds)))
      ·by_cases q2 : okSlots i fb 0 (ρ.set i (some (.d (.tuple ds)))) ρ'
       ·simp only [rB, iB_t q, iB_t q2, if_pos (And.intro q q2)]
       ·simp only [rB, iB, if_neg q2, if_neg fun z : _ ∧ _ => q2 z.2, if_pos q]
      ·simp only [rB, iB, if_neg q, if_neg fun z : _ ∧ _ => q z.1]
     | ex ξ ρ' => rfl
     | bad => rfl
   | _ => rfl
def mbO (fs : List (Str × OV)) (k : Nat) : Option (List D) := match fs[k]? with
 | some (_, .lst xs) => some xs
 | _ => none
def mbS (fs : List (Str × OV)) (k : Nat) (xs : List D) : List (Str × OV) := match fs[k]? with
 | some (x, _) => fs.set k (x, .lst xs)
 | none => fs
theorem rB_tupM {kk : D → Env → T} (i k : Nat) (g : List D → List D → Option (List D × D)) (ms : M (List D)) : rB (mTupM i k g ms ρ) kk h = oB (tpO (gt ρ i)) fun fs => oB (mbO fs k) fun xs => rB (ms (ρ.set i none)) (fun as ρ1 => oB (g xs as) fun y => kk y.2 (ρ1.set i (some (.tup (mbS fs k y.1))))) h := by
 unfold mTupM gt
 cases ρ[i]? with
 | none => rfl
 | some w => cases w with
  | none => rfl
  | some o => cases o with
   | tup fs =>
    simp only [tpO, oB_some, mbO, mbS]
    cases fs[k]? with
    | none => rfl
    | some p =>
     obtain ⟨x, o⟩ := p
     cases o with
     | lst xs =>
      simp only [oB_some]
      rw [rB_bind]
      congr
      funext as ρ1
      cases g xs as <;> rfl
     | _ => rfl
   | _ => rfl
end
abbrev RBV9 := And.intro @rB_nilO <| And.intro @rB_consO <| And.intro @rB_tupO <| And.intro @rB_lendT <| And.intro @rB_tupM <| And.intro tpO_t @rB_lendT
end DL
end
section
namespace SL
open PySem PySem.Spec PyProof.Rows L2 DL
end SL
end
section
namespace K11
open PySem PySem.Spec PyProof.Rows L2 DL
theorem sc_is_called : FnScope ["thing", "letters", "sign"] ["thing", "letters"] (defScope s_is_called) := ⟨rfl, rfl, rfl, by decide +kernel, rfl, by decide +kernel, by decide +kernel⟩
theorem sc_is_name : FnScope ["thing"] ["thing"] (defScope s_is_name) := ⟨rfl, rfl, rfl, by decide +kernel, rfl, by decide +kernel, by decide +kernel⟩
theorem sc_is_turn : FnScope ["thing", "pair", "name", "to", "names"] ["thing"] (defScope s_is_turn) := ⟨rfl, rfl, rfl, by decide +kernel, rfl, by decide +kernel, by decide +kernel⟩
theorem sc_is_hole : FnScope ["thing"] ["thing"] (defScope s_is_hole) := ⟨rfl, rfl, rfl, by decide +kernel, rfl, by decide +kernel, by decide +kernel⟩
theorem sc_is_term : FnScope ["thing", "kind", "one", "other", "part"] ["thing"] (defScope s_is_term) := ⟨rfl, rfl, rfl, by decide +kernel, rfl, by decide +kernel, by decide +kernel⟩
theorem sc_sure_terms : FnScope ["terms", "term"] ["terms"] (defScope s_sure_terms) := ⟨rfl, rfl, rfl, by decide +kernel, rfl, by decide +kernel, by decide +kernel⟩
theorem sc_inner : FnScope ["term"] ["term"] (defScope s_inner) := ⟨rfl, rfl, rfl, by decide +kernel, rfl, by decide +kernel, by decide +kernel⟩
theorem sc_every_part : FnScope ["term", "found", "part"] ["term"] (defScope s_every_part) := ⟨rfl, rfl, rfl, by decide +kernel, rfl, by decide +kernel, by decide +kernel⟩
theorem sc_own_names : FnScope ["part", "name", "to"] ["part"] (defScope s_own_names) := ⟨rfl, rfl, rfl, by decide +kernel, rfl, by decide +kernel, by decide +kernel⟩
theorem sc_all_names : FnScope ["terms", "term", "part", "name"] ["terms"] (defScope s_all_names) := ⟨rfl, rfl, rfl, by decide +kernel, rfl, by decide +kernel, by decide +kernel⟩
theorem sc_all_holes : FnScope ["terms", "term", "part"] ["terms"] (defScope s_all_holes) := ⟨rfl, rfl, rfl, by decide +kernel, rfl, by decide +kernel, by decide +kernel⟩
theorem sc_parts_of : FnScope ["term"] ["term"] (defScope s_parts_of) := ⟨rfl, rfl, rfl, by decide +kernel, rfl, by decide +kernel, by decide +kernel⟩
theorem sc_level_count : FnScope ["term", "part"] ["term"] (defScope s_level_count) := ⟨rfl, rfl, rfl, by decide +kernel, rfl, by decide +kernel, by decide +kernel⟩
theorem sc_levels_of : FnScope ["term"] ["term"] (defScope s_levels_of) := ⟨rfl, rfl, rfl, by decide +kernel, rfl, by decide +kernel, by decide +kernel⟩
theorem sc_names_in : FnScope ["term"] ["term"] (defScope s_names_in) := ⟨rfl, rfl, rfl, by decide +kernel, rfl, by decide +kernel, by decide +kernel⟩
theorem sc_holes_in : FnScope ["term"] ["term"] (defScope s_holes_in) := ⟨rfl, rfl, rfl, by decide +kernel, rfl, by decide +kernel, by decide +kernel⟩
theorem sc__law_mixed : FnScope ["_law_cell", "_law_k", "_law_number"] ["_law_cell", "_law_k"] (defScope s__law_mixed) := ⟨rfl, rfl, rfl, by decide +kernel, rfl, by decide +kernel, by decide +kernel⟩
theorem sc__law_pile : FnScope ["_law_script", "_law_k", "_law_cell", "_law_digits"] ["_law_script", "_law_k"] (defScope s__law_pile) := ⟨rfl, rfl, rfl, by decide +kernel, rfl, by decide +kernel, by decide +kernel⟩
theorem sc__law_take : FnScope ["_law_pile_here", "_law_many", "_law_digit"] ["_law_pile_here", "_law_many"] (defScope s__law_take) := ⟨rfl, rfl, rfl, by decide +kernel, rfl, by decide +kernel, by decide +kernel⟩
theorem sc__law_name : FnScope ["_law_pile_here", "_law_kind", "_law_letters", "_law_name_here", "_law_k"] ["_law_pile_here"] (defScope s__law_name) := ⟨rfl, rfl, rfl, by decide +kernel, rfl, by decide +kernel, by decide +kernel⟩
theorem sc__law_names : FnScope ["_law_pile_here", "_law_many", "_law_found", "_law_k", "_law_name_here", "_law_one"] ["_law_pile_here", "_law_many"] (defScope s__law_names) := ⟨rfl, rfl, rfl, by decide +kernel, rfl, by decide +kernel, by decide +kernel⟩
theorem sc__law_order : FnScope ["_law_pile_here", "_law_some", "_law_left", "_law_found"] ["_law_pile_here", "_law_some"] (defScope s__law_order) := ⟨rfl, rfl, rfl, by decide +kernel, rfl, by decide +kernel, by decide +kernel⟩
theorem sc__law_turn : FnScope ["_law_pile_here", "_law_names_here", "_law_kind", "_law_others", "_law_one", "_law_two", "_law_last_one", "_law_name_here", "_law_to"] ["_law_pile_here", "_law_names_here"] (defScope s__law_turn) := ⟨rfl, rfl, rfl, by decide +kernel, rfl, by decide +kernel, by decide +kernel⟩
theorem sc__law_holes : FnScope ["_law_pile_here", "_law_many", "_law_letters", "_law_found", "_law_k", "_law_hole", "_law_j", "_law_one"] ["_law_pile_here", "_law_many"] (defScope s__law_holes) := ⟨rfl, rfl, rfl, by decide +kernel, rfl, by decide +kernel, by decide +kernel⟩
theorem sc__law_sign : FnScope ["_law_pile_here", "_law_names_here"] ["_law_pile_here", "_law_names_here"] (defScope s__law_sign) := ⟨rfl, rfl, rfl, by decide +kernel, rfl, by decide +kernel, by decide +kernel⟩
theorem sc__law_term : FnScope ["_law_pile_here", "_law_names_here", "_law_some", "_law_depth", "_law_kind", "_law_leaf", "_law_many", "_law_parts_here", "_law_k"] ["_law_pile_here", "_law_names_here", "_law_some", "_law_depth"] (defScope s__law_term) := ⟨rfl, rfl, rfl, by decide +kernel, rfl, by decide +kernel, by decide +kernel⟩
theorem sc__law_any : FnScope ["_law_pile_here", "_law_names_here", "_law_some", "_law_kind", "_law_term_here", "_law_k", "_law_parts_here"] ["_law_pile_here", "_law_names_here", "_law_some"] (defScope s__law_any) := ⟨rfl, rfl, rfl, by decide +kernel, rfl, by decide +kernel, by decide +kernel⟩
theorem sc__law_in : FnScope ["_law_term_here"] ["_law_term_here"] (defScope s__law_in) := ⟨rfl, rfl, rfl, by decide +kernel, rfl, by decide +kernel, by decide +kernel⟩
theorem sc__law_parts : FnScope ["_law_term_here", "_law_found", "_law_part"] ["_law_term_here"] (defScope s__law_parts) := ⟨rfl, rfl, rfl, by decide +kernel, rfl, by decide +kernel, by decide +kernel⟩
theorem sc__law_levels : FnScope ["_law_term_here", "_law_part"] ["_law_term_here"] (defScope s__law_levels) := ⟨rfl, rfl, rfl, by decide +kernel, rfl, by decide +kernel, by decide +kernel⟩
theorem sc__law_own : FnScope ["_law_part", "_law_one", "_law_to"] ["_law_part"] (defScope s__law_own) := ⟨rfl, rfl, rfl, by decide +kernel, rfl, by decide +kernel, by decide +kernel⟩
theorem sc__law_is_count : FnScope ["_law_thing", "_law_due"] ["_law_thing", "_law_due"] (defScope s__law_is_count) := ⟨rfl, rfl, rfl, by decide +kernel, rfl, by decide +kernel, by decide +kernel⟩
theorem sc_law : FnScope ["_law_script", "_law_k", "_law_pile_here", "_law_names_here", "_law_term_here", "_law_parts_here", "_law_due", "_law_part", "_law_told", "_law_mine"] ["_law_script"] (defScope s_law) := ⟨rfl, rfl, rfl, by decide +kernel, rfl, by decide +kernel, by decide +kernel⟩
noncomputable abbrev e1__law_levels (R : Fn) : M D := (mFrz (mCall R (gD (mVar 1) gNil)))
noncomputable def m__law_levels (R : Fn) : M Fl := (sRet (mD (mBin addD (mC (.int 1)) (mF1 mxD (mBin addD (mLstF (mCons (mC (.int 0)) mNil)) (mLstF (mLc [1] (mItems (mFrz (mCall SU.f__law_in (gD (mVar 0) gNil)))) (tName 1) mYes (e1__law_levels R))))))))
noncomputable def f__law_levels : Nat → Fn
 | 0 => fun _ => .bad
 | n + 1 => fnOf 2 1 [] (m__law_levels (f__law_levels n))
noncomputable def c1__law_levels (R : Fn) (x : D) : Pr (Option D) :=
 cB (R [.d x]) fun v5 w6 =>
 oB (OV.frz v5) fun v7 =>
 .ok (some v7)
theorem r1__law_levels {T : Type} [Tg T] (R : Fn) (a0 : Option OV) (xs : List D) (k : List D → DL.Env → T) (h : Exc → DL.Env → T) : rB (lcGo [1] (tName 1) mYes (e1__law_levels R) xs [a0, none]) k h = nB (lcP (c1__law_levels R) xs) fun ys => k ys [a0, none] :=
 lc_rB (ρ := [a0, none]) (pe := (c1__law_levels R)) (fun x => by unfold lst1; simp (maxSteps := 2000000) only [c1__law_levels, e1__law_levels, RB, RBY, RBU, RBW, RBZ, RBV7, RBV8, RBV9, Nat.reduceAdd, Nat.reduceBEq]) xs k h
theorem eq__law_levels (n : Nat) (x0 : D) : f__law_levels (n + 1) [.d x0] =
 cB (SU.f__law_in [.d x0]) fun v1 w2 =>
 oB (OV.frz v1) fun v3 =>
 oB (itemsD v3) fun v4 =>
 nB (lcP (c1__law_levels (f__law_levels n)) v4) fun v8 =>
 oB (addD (.list [(.int 0)]) (.list v8)) fun v9 =>
 oB (mxD v9) fun v10 =>
 oB (addD (.int 1) v10) fun v11 =>
 .ok (.d v11) [some (.d x0)] := by
 refine (fn_eq (n := 2) (np := 1) (fx := []) (os := [.d x0]) (m := (m__law_levels (f__law_levels n))) (ρ := [some (.d x0), none]) rfl rfl).trans ?_
 have oe : ∀ ρ : DL.Env, outsOf [] ρ 0 [.d x0] = [some (.d x0)] := fun _ => rfl
 simp (maxSteps := 2000000) only [m__law_levels, e1__law_levels, RB, RBY, RBU, RBW, RBZ, RBV7, RBV8, RBV9, Nat.reduceAdd, Nat.reduceBEq, r1__law_levels, oe]
noncomputable def m__law_own : M Fl := (sSeq (mIf (mB (mBin inD (mBin ixD (mVar 0) (mC (.int 0))) (mLstF (mCons (mC (.str "name")) (mCons (mC (.str "shut")) mNil))))) (sRet (mLst (mCons (mBin ixD (mVar 0) (mC (.int 1))) mNil))) sNil) (sSeq (mIf (mB (mBin eqD (mBin ixD (mVar 0) (mC (.int 0))) (mC (.str "hole")))) (sRet (mLst (mLc [1, 2] (mItems (mBin ixD (mVar 0) (mC (.int 1)))) (tTup 2 (tsCons (tName 1) (tsCons (tName 2) tsNil))) mYes (mVar 1)))) sNil) (sRet (mLst mNil))))
noncomputable def f__law_own : Fn := fnOf 3 1 [] m__law_own
noncomputable def c1__law_own (x : D) : Pr (Option D) :=
 oB (tupO 2 x) fun v10 =>
 oB (conO v10) fun v11 =>
 oB (conO v11.2) fun v12 =>
 oB (nilO v12.2) fun _ =>
 .ok (some v11.1)
theorem r1__law_own {T : Type} [Tg T] (a0 : Option OV) (xs : List D) (k : List D → DL.Env → T) (h : Exc → DL.Env → T) : rB (lcGo [1, 2] (tTup 2 (tsCons (tName 1) (tsCons (tName 2) tsNil))) mYes (mVar 1) xs [a0, none, none]) k h = nB (lcP c1__law_own xs) fun ys => k ys [a0, none, none] :=
 lc_rB (ρ := [a0, none, none]) (pe := c1__law_own) (fun x => by unfold lst1; simp (maxSteps := 2000000) only [c1__law_own, RB, RBY, RBU, RBW, RBZ, RBV7, RBV8, RBV9, Nat.reduceAdd, Nat.reduceBEq]) xs k h
theorem eq__law_own (x0 : D) : f__law_own [.d x0] =
 oB (ixD x0 (.int 0)) fun v1 =>
 oB (inD v1 (.list [(.str "name"), (.str "shut")])) fun v2 =>
 oB (bO v2) fun v3 =>
 if v3 = true then
 oB (ixD x0 (.int 1)) fun v4 =>
 .ok (.lst [v4]) [some (.d x0)] else
 oB (ixD x0 (.int 0)) fun v5 =>
 oB (eqD v5 (.str "hole")) fun v6 =>
 oB (bO v6) fun v7 =>
 if v7 = true then
 oB (ixD x0 (.int 1)) fun v8 =>
 oB (itemsD v8) fun v9 =>
 nB (lcP c1__law_own v9) fun v13 =>
 .ok (.lst v13) [some (.d x0)] else
 .ok (.lst []) [some (.d x0)] := by
 refine (fn_eq (n := 3) (np := 1) (fx := []) (os := [.d x0]) (m := m__law_own) (ρ := [some (.d x0), none, none]) rfl rfl).trans ?_
 have oe : ∀ ρ : DL.Env, outsOf [] ρ 0 [.d x0] = [some (.d x0)] := fun _ => rfl
 simp (maxSteps := 2000000) only [m__law_own, RB, RBY, RBU, RBW, RBZ, RBV7, RBV8, RBV9, Nat.reduceAdd, Nat.reduceBEq, r1__law_own, oe]
noncomputable def m__law_is_count : M Fl := (sRet (mD (mAndV (mF1 (isiD .int) (mVar 0)) (mAndV (mNotV (mF1 (isiD .bool) (mVar 0))) (mBin eqD (mVar 0) (mVar 1))))))
noncomputable def f__law_is_count : Fn := fnOf 2 2 [] m__law_is_count
theorem eq__law_is_count (x0 : D) (x1 : D) : f__law_is_count [.d x0, .d x1] =
 oB ((isiD .int) x0) fun v1 =>
 oB (bO v1) fun v2 =>
 pB (if v2 = true then
 oB ((isiD .bool) x0) fun v3 =>
 oB (bO v3) fun v4 =>
 oB (bO (.bool (!v4))) fun v5 =>
 pB (if v5 = true then
 oB (eqD x0 x1) fun v6 =>
 .ok v6 else
 .ok (.bool false)) fun v7 =>
 .ok v7 else
 .ok (.bool false)) fun v8 =>
 .ok (.d v8) [some (.d x0), some (.d x1)] := by
 refine (fn_eq (n := 2) (np := 2) (fx := []) (os := [.d x0, .d x1]) (m := m__law_is_count) (ρ := [some (.d x0), some (.d x1)]) rfl rfl).trans ?_
 have oe : ∀ ρ : DL.Env, outsOf [] ρ 0 [.d x0, .d x1] = [some (.d x0), some (.d x1)] := fun _ => rfl
 simp (maxSteps := 2000000) only [m__law_is_count, RB, RBY, RBU, RBW, RBZ, RBV7, RBV8, RBV9, Nat.reduceAdd, Nat.reduceBEq, oe]
noncomputable def g1_law : M Bool := (mOr (mNot (mB (mFrz (mCall f__law_is_count (gD (mFrz (mCall ST.f_parts_of (gD (mVar 4) gNil))) (gD (mF1 lenD (mVar 5)) gNil)))))) (mNot (mB (mFrz (mCall f__law_is_count (gD (mFrz (mCall ST.f_levels_of (gD (mVar 4) gNil))) (gD (mFrz (mCall (f__law_levels 40) (gD (mVar 4) gNil))) gNil)))))))
noncomputable abbrev b2_law : M Fl := (sK [7] (sSet 6 (mBin addD (mVar 6) (mFrz (mCall f__law_own (gD (mVar 7) gNil))))))
noncomputable abbrev p3_law : M Bool := (mB (mBin eqD (mBin ixD (mVar 7) (mC (.int 0))) (mC (.str "hole"))))
noncomputable abbrev e4_law : M D := (mBin ixD (mVar 7) (mC (.int 2)))
noncomputable def g5_law : M Bool := (mOr (mB (mBin neD (mVar 8) (mVar 9))) (mOr (mNot (mB (mF1 (isiD .lst) (mBin ixD (mVar 8) (mC (.int 0)))))) (mNot (mB (mF1 (isiD .lst) (mBin ixD (mVar 8) (mC (.int 1))))))))
noncomputable abbrev b6_law : M Fl := (sK [1, 2, 3, 4, 5, 6, 7, 8, 9] (sSeq (sSetO 2 (mCall SH.f__law_pile (gD (mVar 0) (gD (mVar 1) gNil)))) (sSeq (sSet 3 (mFrz (mCall SH.f__law_names (gO 2 (gD (mBin addD (mC (.int 1)) (mFrz (mCall SH.f__law_take (gO 2 (gD (mC (.int 6)) gNil))))) gNil))))) (sSeq (sSet 4 (mFrz (mCallT SU.f__law_any (gOt 2 (gDt (mVar 3) (gT (mLst (mBinN mulL (mFrz (mCall ST.f__law_holes (gO 2 (gD (mFrz (mCall SH.f__law_take (gO 2 (gD (mC (.int 7)) gNil)))) gNil)))) (mC (.int 3)))))))))) (sSeq (sSet 5 (mFrz (mCall (SU.f__law_parts 40) (gD (mVar 4) gNil)))) (sSeq (mIf g1_law (sRet (mD (mC (.bool false)))) sNil) (sSeq (sSet 6 (mLstF mNil)) (sSeq (sKb [7] (sFor (mItems (mVar 5)) (tName 7) b2_law)) (sSeq (sSetO 8 (mTupO (mConsO (mCall ST.f_names_in (gD (mVar 4) gNil)) (mConsO (mCall ST.f_holes_in (gD (mVar 4) gNil)) mNilO)))) (sSeq (sSet 9 (mTup (mCons (mLstF (mFN sortSO (mVar 6))) (mCons (mLstF (mFN sortSO (mLstF (mLc [7] (mItems (mVar 5)) (tName 7) p3_law e4_law)))) mNil)))) (sSeq (mIf (mLendT 8 [0, 1, 2, 3, 4, 5, 6, 7, 8, 9] g5_law) (sRet (mD (mC (.bool false)))) sNil) (sSeq (sDrop (mD (mTupM 8 0 appendD (mCons (mC (.str "a")) mNil)))) (sSeq (sDrop (mD (mTupM 8 1 clearD mNil))) (mIf (mB (mBin neD (mTup (mCons (mFrz (mCall ST.f_names_in (gD (mVar 4) gNil))) (mCons (mFrz (mCall ST.f_holes_in (gD (mVar 4) gNil))) mNil))) (mVar 9))) (sRet (mD (mC (.bool false)))) sNil))))))))))))))
noncomputable def m_law : M Fl := (sSeq (sKb [1, 2, 3, 4, 5, 6, 7, 8, 9] (sFor (mRange1 (mC (.int 30))) (tName 1) b6_law)) (sRet (mD (mC (.bool true)))))
noncomputable def f_law : Fn := fnOf 10 1 [] m_law
noncomputable def h2_law (a4 : D) (a5 : D) : Pr Bool :=
 cB (ST.f_parts_of [.d a4]) fun v28 w29 =>
 oB (OV.frz v28) fun v30 =>
 oB (lenD a5) fun v31 =>
 cB (f__law_is_count [.d v30, .d v31]) fun v32 w33 =>
 oB (OV.frz v32) fun v34 =>
 oB (bO v34) fun v35 =>
 pB (if (!v35) = true then
 .ok true else
 cB (ST.f_levels_of [.d a4]) fun v36 w37 =>
 oB (OV.frz v36) fun v38 =>
 cB ((f__law_levels 40) [.d a4]) fun v39 w40 =>
 oB (OV.frz v39) fun v41 =>
 cB (f__law_is_count [.d v38, .d v41]) fun v42 w43 =>
 oB (OV.frz v42) fun v44 =>
 oB (bO v44) fun v45 =>
 .ok (!v45)) fun v46 =>
 .ok v46
theorem r2_law {T : Type} [Tg T] (a0 : Option OV) (a1 : Option OV) (a2 : Option OV) (a3 : Option OV) (a4 : D) (a5 : D) (u6 : Option OV) (u7 : Option OV) (u8 : Option OV) (u9 : Option OV) (k : Bool → DL.Env → T) : rB (g1_law [a0, a1, a2, a3, some (.d a4), some (.d a5), u6, u7, u8, u9]) k hE = pB (h2_law a4 a5) fun z => k z [a0, a1, a2, a3, some (.d a4), some (.d a5), u6, u7, u8, u9] := by
 simp (maxSteps := 2000000) only [g1_law, h2_law, p3_law, e4_law, RB, RBY, RBU, RBW, RBZ, RBV7, RBV8, RBV9, Nat.reduceAdd, Nat.reduceBEq]
noncomputable def q3_law (x : D) (s : D) : Pr D :=
 cB (f__law_own [.d x]) fun v49 w50 =>
 oB (OV.frz v49) fun v51 =>
 oB (addD s v51) fun v52 =>
 .ok v52
theorem r3_law {T : Type} [Tg T] (a0 : Option OV) (a1 : Option OV) (a2 : Option OV) (a3 : Option OV) (a4 : Option OV) (a5 : Option OV) (c6 : D) (u8 : Option OV) (u9 : Option OV) (xs : List D) (k : Fl → DL.Env → T) : rB (forGo (tName 7) b2_law xs [a0, a1, a2, a3, a4, a5, some (.d c6), none, u8, u9]) k hE = pB (forS q3_law xs c6) fun s => k .nx [a0, a1, a2, a3, a4, a5, some (.d s), none, u8, u9] :=
 for_rB (E := fun (s : D) => [a0, a1, a2, a3, a4, a5, some (.d s), none, u8, u9]) (pb := q3_law) (fun x s => by unfold stp; simp (maxSteps := 2000000) only [b2_law, q3_law, p3_law, e4_law, RB, RBY, RBU, RBW, RBZ, RBV7, RBV8, RBV9, Nat.reduceAdd, Nat.reduceBEq, r2_law]) k xs c6
noncomputable def c4_law (x : D) : Pr (Option D) :=
 oB (ixD x (.int 0)) fun v60 =>
 oB (eqD v60 (.str "hole")) fun v61 =>
 oB (bO v61) fun v62 =>
 if v62 = true then
 oB (ixD x (.int 2)) fun v63 =>
 .ok (some v63) else
 .ok none
theorem r4_law {T : Type} [Tg T] (a0 : Option OV) (a1 : Option OV) (a2 : Option OV) (a3 : Option OV) (a4 : Option OV) (a5 : Option OV) (a6 : Option OV) (a8 : Option OV) (u9 : Option OV) (xs : List D) (k : List D → DL.Env → T) (h : Exc → DL.Env → T) : rB (lcGo [7] (tName 7) p3_law e4_law xs [a0, a1, a2, a3, a4, a5, a6, none, a8, u9]) k h = nB (lcP c4_law xs) fun ys => k ys [a0, a1, a2, a3, a4, a5, a6, none, a8, u9] :=
 lc_rB (ρ := [a0, a1, a2, a3, a4, a5, a6, none, a8, u9]) (pe := c4_law) (fun x => by unfold lst1; simp (maxSteps := 2000000) only [c4_law, p3_law, e4_law, RB, RBY, RBU, RBW, RBZ, RBV7, RBV8, RBV9, Nat.reduceAdd, Nat.reduceBEq, r2_law, r3_law]) xs k h
noncomputable def q1_law (a0 : D) (x : D) (s : Unit) : Pr (Fo Unit) :=
 cB (SH.f__law_pile [.d a0, .d x]) fun v2 w3 =>
 cB (SH.f__law_take [v2, .d (.int 6)]) fun v4 w5 =>
 oB (OV.frz v4) fun v6 =>
 oB (addD (.int 1) v6) fun v7 =>
 oB (gt w5 0) fun v8 =>
 cB (SH.f__law_names [v8, .d v7]) fun v9 w10 =>
 oB (OV.frz v9) fun v11 =>
 oB (gt w10 0) fun _ =>
 oB (gt w10 0) fun _ =>
 oB (gt w10 0) fun _ =>
 oB (gt w10 0) fun v12 =>
 cB (SH.f__law_take [v12, .d (.int 7)]) fun v13 w14 =>
 oB (OV.frz v13) fun v15 =>
 oB (gt w14 0) fun v16 =>
 cB (ST.f__law_holes [v16, .d v15]) fun v17 w18 =>
 oB (OV.frz v17) fun v19 =>
 oB (mulL v19 (.int 3)) fun v20 =>
 oB (gt w18 0) fun v21 =>
 cB (SU.f__law_any [v21, .d v11, (.lst v20)]) fun v22 w23 =>
 oB (OV.frz v22) fun v24 =>
 cB ((SU.f__law_parts 40) [.d v24]) fun v25 w26 =>
 oB (OV.frz v25) fun v27 =>
 pB (h2_law v24 v27) fun v47 =>
 if v47 = true then
 .ok (.rt (.d (.bool false)) ()) else
 oB (itemsD v27) fun v48 =>
 pB (forS q3_law v48 (.list [])) fun s53 =>
 cB (ST.f_names_in [.d v24]) fun v54 w55 =>
 cB (ST.f_holes_in [.d v24]) fun v56 w57 =>
 oB (sortSO s53) fun v58 =>
 oB (itemsD v27) fun v59 =>
 nB (lcP c4_law v59) fun v64 =>
 oB (sortSO (.list v64)) fun v65 =>
 oB (frzL (nmO [v54, v56])) fun v66 =>
 oB (neD (.tuple v66) (.tuple [(.list v58), (.list v65)])) fun v67 =>
 oB (bO v67) fun v68 =>
 pB (if v68 = true then
 .ok true else
 oB (ixD (.tuple v66) (.int 0)) fun v69 =>
 oB ((isiD .lst) v69) fun v70 =>
 oB (bO v70) fun v71 =>
 pB (if (!v71) = true then
 .ok true else
 oB (ixD (.tuple v66) (.int 1)) fun v72 =>
 oB ((isiD .lst) v72) fun v73 =>
 oB (bO v73) fun v74 =>
 .ok (!v74)) fun v75 =>
 .ok v75) fun v76 =>
 iB (okSlots 8 [0, 1, 2, 3, 4, 5, 6, 7, 8, 9] 0 [some (.d a0), some (.d x), (gt w23 0), some (.d v11), some (.d v24), some (.d v27), some (.d s53), none, some (.d (.tuple v66)), some (.d (.tuple [(.list v58), (.list v65)]))] [some (.d a0), some (.d x), (gt w23 0), some (.d v11), some (.d v24), some (.d v27), some (.d s53), none, some (.d (.tuple v66)), some (.d (.tuple [(.list v58), (.list v65)]))]) <|
 if v76 = true then
 .ok (.rt (.d (.bool false)) ()) else
 oB (mbO (nmO [v54, v56]) 0) fun v77 =>
 oB (appendD v77 [(.str "a")]) fun v78 =>
 oB (mbO (mbS (nmO [v54, v56]) 0 v78.1) 1) fun v79 =>
 oB (clearD v79 []) fun v80 =>
 cB (ST.f_names_in [.d v24]) fun v81 w82 =>
 oB (OV.frz v81) fun v83 =>
 cB (ST.f_holes_in [.d v24]) fun v84 w85 =>
 oB (OV.frz v84) fun v86 =>
 oB (neD (.tuple [v83, v86]) (.tuple [(.list v58), (.list v65)])) fun v87 =>
 oB (bO v87) fun v88 =>
 if v88 = true then
 .ok (.rt (.d (.bool false)) ()) else
 .ok (.nx ())
theorem r1_law {T : Type} [Tg T] (a0 : D) (xs : List D) (k : Fl → DL.Env → T) : rB (forGo (tName 1) b6_law xs [some (.d a0), none, none, none, none, none, none, none, none, none]) k hE = lF (forF (q1_law a0) xs ()) (fun o s => k (.rt o) [some (.d a0), none, none, none, none, none, none, none, none, none]) fun s => k .nx [some (.d a0), none, none, none, none, none, none, none, none, none] :=
 for_rBF (E := fun (s : Unit) => [some (.d a0), none, none, none, none, none, none, none, none, none]) (pb := (q1_law a0)) (fun x s => by unfold stp; simp (maxSteps := 2000000) only [b6_law, q1_law, p3_law, e4_law, g5_law, RB, RBY, RBU, RBW, RBZ, RBV7, RBV8, RBV9, Nat.reduceAdd, Nat.reduceBEq, r2_law, r3_law, r4_law]) k xs ()
theorem eq_law (x0 : D) : f_law [.d x0] =
 oB (range1 (.int 30)) fun v1 =>
 lF (forF (q1_law x0) v1 ()) (fun v90 s89 => .ok v90 [some (.d x0)]) fun s89 =>
 .ok (.d (.bool true)) [some (.d x0)] := by
 refine (fn_eq (n := 10) (np := 1) (fx := []) (os := [.d x0]) (m := m_law) (ρ := [some (.d x0), none, none, none, none, none, none, none, none, none]) rfl rfl).trans ?_
 have oe : ∀ ρ : DL.Env, outsOf [] ρ 0 [.d x0] = [some (.d x0)] := fun _ => rfl
 simp (maxSteps := 2000000) only [m_law, p3_law, e4_law, g5_law, RB, RBY, RBU, RBW, RBZ, RBV7, RBV8, RBV9, Nat.reduceAdd, Nat.reduceBEq, r2_law, r3_law, r4_law, r1_law, oe]
structure Wd (K : Frag) (mg : Str → Option Value) where
 b_abs : mg "abs" = none
 b_all : mg "all" = none
 b_bool : mg "bool" = none
 b_int : mg "int" = none
 b_isinstance : mg "isinstance" = none
 b_len : mg "len" = none
 b_list : mg "list" = none
 b_max : mg "max" = none
 b_range : mg "range" = none
 b_set : mg "set" = none
 b_sorted : mg "sorted" = none
 b_str : mg "str" = none
 b_tuple : mg "tuple" = none
 b_zip : mg "zip" = none
 c_FIGURES : ∃ t, mg "FIGURES" = some (.str "0123456789" t)
 c_GREAT : ∃ t, mg "GREAT" = some (.str "ABCDEFGHIJKLMNOPQRSTUVWXYZ" t)
 c_LONGEST : ∃ t, mg "LONGEST" = some (.int 8 t)
 c_SMALL : ∃ t, mg "SMALL" = some (.str "abcdefghijklmnopqrstuvwxyz" t)
 n_NoTerm : mg "NoTerm" = some (.ref (He.ga K "NoTerm"))
 x_NoTerm : PySem.W.excIn K (He.ga K "NoTerm") [.type "ValueError", .type "Exception", .type "BaseException", .type "object"] "ValueError.__new__" = true ∧ PySem.W.keepIn K (.ref (He.ga K "NoTerm")) = true ∧ PySem.W.subIn K (.ref (He.ga K "NoTerm")) (.type "BaseException") = some true ∧ PySem.W.typeIn K (.ref (He.ga K "NoTerm")) = some (.type "type")
 a_is_called : Addr
 d_is_called : FuncData
 F_is_called : FunD K "is_called" "is_called" (defArgs s_is_called) (defBody s_is_called) (defScope s_is_called) [] [] a_is_called d_is_called
 m_is_called : mg "is_called" = some (.ref a_is_called)
 a_is_name : Addr
 d_is_name : FuncData
 F_is_name : FunD K "is_name" "is_name" (defArgs s_is_name) (defBody s_is_name) (defScope s_is_name) [] [] a_is_name d_is_name
 m_is_name : mg "is_name" = some (.ref a_is_name)
 a_is_turn : Addr
 d_is_turn : FuncData
 F_is_turn : FunD K "is_turn" "is_turn" (defArgs s_is_turn) (defBody s_is_turn) (defScope s_is_turn) [] [] a_is_turn d_is_turn
 m_is_turn : mg "is_turn" = some (.ref a_is_turn)
 a_is_hole : Addr
 d_is_hole : FuncData
 F_is_hole : FunD K "is_hole" "is_hole" (defArgs s_is_hole) (defBody s_is_hole) (defScope s_is_hole) [] [] a_is_hole d_is_hole
 m_is_hole : mg "is_hole" = some (.ref a_is_hole)
 a_is_term : Addr
 d_is_term : FuncData
 F_is_term : FunD K "is_term" "is_term" (defArgs s_is_term) (defBody s_is_term) (defScope s_is_term) [] [] a_is_term d_is_term
 m_is_term : mg "is_term" = some (.ref a_is_term)
 a_sure_terms : Addr
 d_sure_terms : FuncData
 F_sure_terms : FunD K "sure_terms" "sure_terms" (defArgs s_sure_terms) (defBody s_sure_terms) (defScope s_sure_terms) [] [] a_sure_terms d_sure_terms
 m_sure_terms : mg "sure_terms" = some (.ref a_sure_terms)
 a_inner : Addr
 d_inner : FuncData
 F_inner : FunD K "inner" "inner" (defArgs s_inner) (defBody s_inner) (defScope s_inner) [] [] a_inner d_inner
 m_inner : mg "inner" = some (.ref a_inner)
 a_every_part : Addr
 d_every_part : FuncData
 F_every_part : FunD K "every_part" "every_part" (defArgs s_every_part) (defBody s_every_part) (defScope s_every_part) [] [] a_every_part d_every_part
 m_every_part : mg "every_part" = some (.ref a_every_part)
 a_own_names : Addr
 d_own_names : FuncData
 F_own_names : FunD K "own_names" "own_names" (defArgs s_own_names) (defBody s_own_names) (defScope s_own_names) [] [] a_own_names d_own_names
 m_own_names : mg "own_names" = some (.ref a_own_names)
 a_all_names : Addr
 d_all_names : FuncData
 F_all_names : FunD K "all_names" "all_names" (defArgs s_all_names) (defBody s_all_names) (defScope s_all_names) [] [] a_all_names d_all_names
 m_all_names : mg "all_names" = some (.ref a_all_names)
 a_all_holes : Addr
 d_all_holes : FuncData
 F_all_holes : FunD K "all_holes" "all_holes" (defArgs s_all_holes) (defBody s_all_holes) (defScope s_all_holes) [] [] a_all_holes d_all_holes
 m_all_holes : mg "all_holes" = some (.ref a_all_holes)
 a_parts_of : Addr
 d_parts_of : FuncData
 F_parts_of : FunD K "parts_of" "parts_of" (defArgs s_parts_of) (defBody s_parts_of) (defScope s_parts_of) [] [] a_parts_of d_parts_of
 m_parts_of : mg "parts_of" = some (.ref a_parts_of)
 a_level_count : Addr
 d_level_count : FuncData
 F_level_count : FunD K "level_count" "level_count" (defArgs s_level_count) (defBody s_level_count) (defScope s_level_count) [] [] a_level_count d_level_count
 m_level_count : mg "level_count" = some (.ref a_level_count)
 a_levels_of : Addr
 d_levels_of : FuncData
 F_levels_of : FunD K "levels_of" "levels_of" (defArgs s_levels_of) (defBody s_levels_of) (defScope s_levels_of) [] [] a_levels_of d_levels_of
 m_levels_of : mg "levels_of" = some (.ref a_levels_of)
 a_names_in : Addr
 d_names_in : FuncData
 F_names_in : FunD K "names_in" "names_in" (defArgs s_names_in) (defBody s_names_in) (defScope s_names_in) [] [] a_names_in d_names_in
 m_names_in : mg "names_in" = some (.ref a_names_in)
 a_holes_in : Addr
 d_holes_in : FuncData
 F_holes_in : FunD K "holes_in" "holes_in" (defArgs s_holes_in) (defBody s_holes_in) (defScope s_holes_in) [] [] a_holes_in d_holes_in
 m_holes_in : mg "holes_in" = some (.ref a_holes_in)
 a__law_mixed : Addr
 d__law_mixed : FuncData
 F__law_mixed : FunD K "_law_mixed" "_law_mixed" (defArgs s__law_mixed) (defBody s__law_mixed) (defScope s__law_mixed) [] [] a__law_mixed d__law_mixed
 m__law_mixed : mg "_law_mixed" = some (.ref a__law_mixed)
 a__law_pile : Addr
 d__law_pile : FuncData
 F__law_pile : FunD K "_law_pile" "_law_pile" (defArgs s__law_pile) (defBody s__law_pile) (defScope s__law_pile) [] [] a__law_pile d__law_pile
 m__law_pile : mg "_law_pile" = some (.ref a__law_pile)
 a__law_take : Addr
 d__law_take : FuncData
 F__law_take : FunD K "_law_take" "_law_take" (defArgs s__law_take) (defBody s__law_take) (defScope s__law_take) [] [] a__law_take d__law_take
 m__law_take : mg "_law_take" = some (.ref a__law_take)
 a__law_name : Addr
 d__law_name : FuncData
 F__law_name : FunD K "_law_name" "_law_name" (defArgs s__law_name) (defBody s__law_name) (defScope s__law_name) [] [] a__law_name d__law_name
 m__law_name : mg "_law_name" = some (.ref a__law_name)
 a__law_names : Addr
 d__law_names : FuncData
 F__law_names : FunD K "_law_names" "_law_names" (defArgs s__law_names) (defBody s__law_names) (defScope s__law_names) [] [] a__law_names d__law_names
 m__law_names : mg "_law_names" = some (.ref a__law_names)
 a__law_order : Addr
 d__law_order : FuncData
 F__law_order : FunD K "_law_order" "_law_order" (defArgs s__law_order) (defBody s__law_order) (defScope s__law_order) [] [] a__law_order d__law_order
 m__law_order : mg "_law_order" = some (.ref a__law_order)
 a__law_turn : Addr
 d__law_turn : FuncData
 F__law_turn : FunD K "_law_turn" "_law_turn" (defArgs s__law_turn) (defBody s__law_turn) (defScope s__law_turn) [] [] a__law_turn d__law_turn
 m__law_turn : mg "_law_turn" = some (.ref a__law_turn)
 a__law_holes : Addr
 d__law_holes : FuncData
 F__law_holes : FunD K "_law_holes" "_law_holes" (defArgs s__law_holes) (defBody s__law_holes) (defScope s__law_holes) [] [] a__law_holes d__law_holes
 m__law_holes : mg "_law_holes" = some (.ref a__law_holes)
 a__law_sign : Addr
 d__law_sign : FuncData
 F__law_sign : FunD K "_law_sign" "_law_sign" (defArgs s__law_sign) (defBody s__law_sign) (defScope s__law_sign) [] [] a__law_sign d__law_sign
 m__law_sign : mg "_law_sign" = some (.ref a__law_sign)
 a__law_term : Addr
 d__law_term : FuncData
 F__law_term : FunD K "_law_term" "_law_term" (defArgs s__law_term) (defBody s__law_term) (defScope s__law_term) [] [] a__law_term d__law_term
 m__law_term : mg "_law_term" = some (.ref a__law_term)
 a__law_any : Addr
 d__law_any : FuncData
 F__law_any : FunD K "_law_any" "_law_any" (defArgs s__law_any) (defBody s__law_any) (defScope s__law_any) [] [] a__law_any d__law_any
 m__law_any : mg "_law_any" = some (.ref a__law_any)
 a__law_in : Addr
 d__law_in : FuncData
 F__law_in : FunD K "_law_in" "_law_in" (defArgs s__law_in) (defBody s__law_in) (defScope s__law_in) [] [] a__law_in d__law_in
 m__law_in : mg "_law_in" = some (.ref a__law_in)
 a__law_parts : Addr
 d__law_parts : FuncData
 F__law_parts : FunD K "_law_parts" "_law_parts" (defArgs s__law_parts) (defBody s__law_parts) (defScope s__law_parts) [] [] a__law_parts d__law_parts
 m__law_parts : mg "_law_parts" = some (.ref a__law_parts)
 a__law_levels : Addr
 d__law_levels : FuncData
 F__law_levels : FunD K "_law_levels" "_law_levels" (defArgs s__law_levels) (defBody s__law_levels) (defScope s__law_levels) [] [] a__law_levels d__law_levels
 m__law_levels : mg "_law_levels" = some (.ref a__law_levels)
 a__law_own : Addr
 d__law_own : FuncData
 F__law_own : FunD K "_law_own" "_law_own" (defArgs s__law_own) (defBody s__law_own) (defScope s__law_own) [] [] a__law_own d__law_own
 m__law_own : mg "_law_own" = some (.ref a__law_own)
 a__law_is_count : Addr
 d__law_is_count : FuncData
 F__law_is_count : FunD K "_law_is_count" "_law_is_count" (defArgs s__law_is_count) (defBody s__law_is_count) (defScope s__law_is_count) [] [] a__law_is_count d__law_is_count
 m__law_is_count : mg "_law_is_count" = some (.ref a__law_is_count)
 a_law : Addr
 d_law : FuncData
 F_law : FunD K "law" "law" (defArgs s_law) (defBody s_law) (defScope s_law) [] [] a_law d_law
 m_law : mg "law" = some (.ref a_law)
section
variable {w : World} {K : Frag} {mg : Str → Option Value} {base : Heap}
theorem bn_is_called (W : Wd K mg) : Binds K W.d_is_called ["thing", "letters"] [] := W.F_is_called.bindsN fun _ _ _ _ _ _ us hl => match us, hl with | [_, _], _ => rfl
theorem bn_is_name (W : Wd K mg) : Binds K W.d_is_name ["thing"] [] := W.F_is_name.bindsN fun _ _ _ _ _ _ us hl => match us, hl with | [_], _ => rfl
theorem bn_is_turn (W : Wd K mg) : Binds K W.d_is_turn ["thing"] [] := W.F_is_turn.bindsN fun _ _ _ _ _ _ us hl => match us, hl with | [_], _ => rfl
theorem bn_is_hole (W : Wd K mg) : Binds K W.d_is_hole ["thing"] [] := W.F_is_hole.bindsN fun _ _ _ _ _ _ us hl => match us, hl with | [_], _ => rfl
theorem bn_is_term (W : Wd K mg) : Binds K W.d_is_term ["thing"] [] := W.F_is_term.bindsN fun _ _ _ _ _ _ us hl => match us, hl with | [_], _ => rfl
theorem bn_sure_terms (W : Wd K mg) : KBn K W.d_sure_terms ["terms"] 0 ["terms"] (fun us ws => gSnd us ws) (fun vs zs => gSnd vs zs) := kb_of W.F_sure_terms (g := fun us ws => gSnd us ws) (fun _ r => r) fun _ _ _ _ _ _ us ws h1 h2 => match us, h1, ws, h2 with | [], _, [_], _ => rfl
theorem bn_inner (W : Wd K mg) : Binds K W.d_inner ["term"] [] := W.F_inner.bindsN fun _ _ _ _ _ _ us hl => match us, hl with | [_], _ => rfl
theorem bn_every_part (W : Wd K mg) : Binds K W.d_every_part ["term"] [] := W.F_every_part.bindsN fun _ _ _ _ _ _ us hl => match us, hl with | [_], _ => rfl
theorem bn_own_names (W : Wd K mg) : Binds K W.d_own_names ["part"] [] := W.F_own_names.bindsN fun _ _ _ _ _ _ us hl => match us, hl with | [_], _ => rfl
theorem bn_all_names (W : Wd K mg) : Binds K W.d_all_names ["terms"] [] := W.F_all_names.bindsN fun _ _ _ _ _ _ us hl => match us, hl with | [_], _ => rfl
theorem bn_all_holes (W : Wd K mg) : Binds K W.d_all_holes ["terms"] [] := W.F_all_holes.bindsN fun _ _ _ _ _ _ us hl => match us, hl with | [_], _ => rfl
theorem bn_parts_of (W : Wd K mg) : Binds K W.d_parts_of ["term"] [] := W.F_parts_of.bindsN fun _ _ _ _ _ _ us hl => match us, hl with | [_], _ => rfl
theorem bn_level_count (W : Wd K mg) : Binds K W.d_level_count ["term"] [] := W.F_level_count.bindsN fun _ _ _ _ _ _ us hl => match us, hl with | [_], _ => rfl
theorem bn_levels_of (W : Wd K mg) : Binds K W.d_levels_of ["term"] [] := W.F_levels_of.bindsN fun _ _ _ _ _ _ us hl => match us, hl with | [_], _ => rfl
theorem bn_names_in (W : Wd K mg) : Binds K W.d_names_in ["term"] [] := W.F_names_in.bindsN fun _ _ _ _ _ _ us hl => match us, hl with | [_], _ => rfl
theorem bn_holes_in (W : Wd K mg) : Binds K W.d_holes_in ["term"] [] := W.F_holes_in.bindsN fun _ _ _ _ _ _ us hl => match us, hl with | [_], _ => rfl
theorem bn__law_mixed (W : Wd K mg) : Binds K W.d__law_mixed ["_law_cell", "_law_k"] [] := W.F__law_mixed.bindsN fun _ _ _ _ _ _ us hl => match us, hl with | [_, _], _ => rfl
theorem bn__law_pile (W : Wd K mg) : Binds K W.d__law_pile ["_law_script", "_law_k"] [] := W.F__law_pile.bindsN fun _ _ _ _ _ _ us hl => match us, hl with | [_, _], _ => rfl
theorem bn__law_take (W : Wd K mg) : Binds K W.d__law_take ["_law_pile_here", "_law_many"] [] := W.F__law_take.bindsN fun _ _ _ _ _ _ us hl => match us, hl with | [_, _], _ => rfl
theorem bn__law_name (W : Wd K mg) : Binds K W.d__law_name ["_law_pile_here"] [] := W.F__law_name.bindsN fun _ _ _ _ _ _ us hl => match us, hl with | [_], _ => rfl
theorem bn__law_names (W : Wd K mg) : Binds K W.d__law_names ["_law_pile_here", "_law_many"] [] := W.F__law_names.bindsN fun _ _ _ _ _ _ us hl => match us, hl with | [_, _], _ => rfl
theorem bn__law_order (W : Wd K mg) : Binds K W.d__law_order ["_law_pile_here", "_law_some"] [] := W.F__law_order.bindsN fun _ _ _ _ _ _ us hl => match us, hl with | [_, _], _ => rfl
theorem bn__law_turn (W : Wd K mg) : Binds K W.d__law_turn ["_law_pile_here", "_law_names_here"] [] := W.F__law_turn.bindsN fun _ _ _ _ _ _ us hl => match us, hl with | [_, _], _ => rfl
theorem bn__law_holes (W : Wd K mg) : Binds K W.d__law_holes ["_law_pile_here", "_law_many"] [] := W.F__law_holes.bindsN fun _ _ _ _ _ _ us hl => match us, hl with | [_, _], _ => rfl
theorem bn__law_sign (W : Wd K mg) : Binds K W.d__law_sign ["_law_pile_here", "_law_names_here"] [] := W.F__law_sign.bindsN fun _ _ _ _ _ _ us hl => match us, hl with | [_, _], _ => rfl
theorem bn__law_term (W : Wd K mg) : Binds K W.d__law_term ["_law_pile_here", "_law_names_here", "_law_some", "_law_depth"] [] := W.F__law_term.bindsN fun _ _ _ _ _ _ us hl => match us, hl with | [_, _, _, _], _ => rfl
theorem bn__law_any (W : Wd K mg) : Binds K W.d__law_any ["_law_pile_here", "_law_names_here", "_law_some"] [] := W.F__law_any.bindsN fun _ _ _ _ _ _ us hl => match us, hl with | [_, _, _], _ => rfl
theorem bn__law_in (W : Wd K mg) : Binds K W.d__law_in ["_law_term_here"] [] := W.F__law_in.bindsN fun _ _ _ _ _ _ us hl => match us, hl with | [_], _ => rfl
theorem bn__law_parts (W : Wd K mg) : Binds K W.d__law_parts ["_law_term_here"] [] := W.F__law_parts.bindsN fun _ _ _ _ _ _ us hl => match us, hl with | [_], _ => rfl
theorem bn__law_levels (W : Wd K mg) : Binds K W.d__law_levels ["_law_term_here"] [] := W.F__law_levels.bindsN fun _ _ _ _ _ _ us hl => match us, hl with | [_], _ => rfl
theorem bn__law_own (W : Wd K mg) : Binds K W.d__law_own ["_law_part"] [] := W.F__law_own.bindsN fun _ _ _ _ _ _ us hl => match us, hl with | [_], _ => rfl
theorem bn__law_is_count (W : Wd K mg) : Binds K W.d__law_is_count ["_law_thing", "_law_due"] [] := W.F__law_is_count.bindsN fun _ _ _ _ _ _ us hl => match us, hl with | [_, _], _ => rfl
theorem ok_is_called (W : Wd K mg) : FnOk P w K mg base (L2.CX P w) 1 W.a_is_called W.d_is_called ["thing", "letters"] (spF K (He.ga K) SH.f_is_called) := by
  refine fn_rule (N := ["thing", "letters", "sign"]) (k := 0) [] W.F_is_called sc_is_called fun cdv A outer s H E F O σ hr tk => ?_
  have hu := u64 hr
  have hw := u65 hr
  have hv := u66 hr
  have NN := sc_is_called.nd
  exact (ss_cons (sv_if (PW.pt (st_or (st_not (st_val (se_isi .str W.b_isinstance W.b_str (vvA 0)))) (st_or (st_not (st_chain od_le od_le se_int (se_b1 cd_len W.b_len (vvA 0)) (se_gint W.c_LONGEST glA (by kernel_rfl)))) (st_or1 (st_cmp (od_nin hw) (se_ix hu (vvA 0) se_int) (vvA 1)))))) (ss_one (sv_ret (so_d se_bl))) ss_nil)
    (ss_one (sv_ret (so_d (se_b1 (cd_all rfl) W.b_all (se_n (n_lc (own := [("sign", 2)]) (fb := [0, 1]) rfl NN (si_val (vvA 0)) (blkOk_by (by kernel_rfl)) (fun F1 H1 O1 σ1 s1 Hb C cl fp => (tg_name (i := 2) NN rfl loA)) (fun F1 H1 O1 σ1 s1 Hb C cl fp => st_yes) (fun F1 H1 O1 σ1 s1 Hb C cl fp => (se_or (se_cmp (od_in hw) (vvA 2) (vvA 1)) (se_one (se_cmp (od_in hw) (vvA 2) (se_gstr W.c_FIGURES glA (by kernel_rfl)))))))))))))
theorem ok_is_name (W : Wd K mg) : FnOk P w K mg base (L2.CX P w) 2 W.a_is_name W.d_is_name ["thing"] (spF K (He.ga K) SH.f_is_name) := by
  refine fn_rule (N := ["thing"]) (k := 1) [] W.F_is_name sc_is_name fun cdv A outer s H E F O σ hr tk => ?_
  have hu := u64 hr
  have hw := u65 hr
  have hv := u66 hr
  have NN := sc_is_name.nd
  exact (ss_one (sv_ret (so_call (ok_is_called W) (hr.mono (by omega)) W.m_is_called W.F_is_called.kp (bn_is_called W) tk (sg_d (vvA 0) (sg_d (se_gstr W.c_SMALL glA (by kernel_rfl)) sg_nil)) glA (by kernel_rfl))))
theorem ok_is_turn (W : Wd K mg) : FnOk P w K mg base (L2.CX P w) 3 W.a_is_turn W.d_is_turn ["thing"] (spF K (He.ga K) SH.f_is_turn) := by
  refine fn_rule (N := ["thing", "pair", "name", "to", "names"]) (k := 2) [] W.F_is_turn sc_is_turn fun cdv A outer s H E F O σ hr tk => ?_
  have hu := u64 hr
  have hw := u65 hr
  have hv := u66 hr
  have NN := sc_is_turn.nd
  exact (ss_cons (sv_if (PW.pt (st_or (st_not (st_val (se_isi .tup W.b_isinstance W.b_tuple (vvA 0)))) (st_or1 (st_not (st_val (se_b1 (cd_all rfl) W.b_all (se_n (n_lc (own := [("pair", 1)]) (fb := [0, 2, 3, 4]) rfl NN (si_val (vvA 0)) (blkOk_by (by kernel_rfl)) (fun F1 H1 O1 σ1 s1 Hb C cl fp => (tg_name (i := 1) NN rfl loA)) (fun F1 H1 O1 σ1 s1 Hb C cl fp => st_yes) (fun F1 H1 O1 σ1 s1 Hb C cl fp => (se_and (se_isi .tup W.b_isinstance W.b_tuple (vvA 1)) (se_one (se_cmp (od_eq hu) (se_b1 cd_len W.b_len (vvA 1)) se_int)))))))))))) (ss_one (sv_ret (so_d se_bl))) ss_nil)
    (ss_cons (sv_if (st_not (st_val (se_b1 (cd_all rfl) W.b_all (se_n (n_lc (own := [("name", 2), ("to", 3)]) (fb := [0, 1, 4]) rfl NN (si_val (vvA 0)) (blkOk_by (by kernel_rfl)) (fun F1 H1 O1 σ1 s1 Hb C cl fp => (tg_tup (n := 2) rfl (tg_cons (tg_name (i := 2) NN rfl loA) (tg_cons (tg_name (i := 3) NN rfl loA) tg_nil)))) (fun F1 H1 O1 σ1 s1 Hb C cl fp => st_yes) (fun F1 H1 O1 σ1 s1 Hb C cl fp => (se_and (se_frz (so_call (ok_is_name W) (hr.mono (by omega)) W.m_is_name W.F_is_name.kp (bn_is_name W) takes0 (sg_d (vvA 2) sg_nil) glA (by kernel_rfl))) (se_and (se_frz (so_call (ok_is_name W) (hr.mono (by omega)) W.m_is_name W.F_is_name.kp (bn_is_name W) takes0 (sg_d (vvA 3) sg_nil) glA (by kernel_rfl))) (se_one (se_cmp (od_ne hu) (vvA 2) (vvA 3))))))))))) (ss_one (sv_ret (so_d se_bl))) ss_nil)
    (ss_cons (sv_setLc (i := 4) (own := [("name", 2), ("to", 3)]) (fb := [0, 1, 4]) rfl NN (si_val (vvA 0)) (blkOk_by (by kernel_rfl)) (fun F1 H1 O1 σ1 s1 Hb C cl fp => (tg_tup (n := 2) rfl (tg_cons (tg_name (i := 2) NN rfl loA) (tg_cons (tg_name (i := 3) NN rfl loA) tg_nil)))) (fun F1 H1 O1 σ1 s1 Hb C cl fp => st_yes) (fun F1 H1 O1 σ1 s1 Hb C cl fp => (vvA 2)) rfl (by kernel_rfl))
    (ss_one (sv_ret (so_d (se_and (se_cmp (od_eq hu) (vvA 4) (se_n (n_sortK rfl hv W.b_sorted (sk_set rfl W.b_set (vvA 4))))) (se_one (se_cmp (od_eq hu) (se_n (n_b1 (cd_sorted hv) W.b_sorted (se_n (n_lc (own := [("name", 2), ("to", 3)]) (fb := [0, 1, 4]) rfl NN (si_val (vvA 0)) (blkOk_by (by kernel_rfl)) (fun F1 H1 O1 σ1 s1 Hb C cl fp => (tg_tup (n := 2) rfl (tg_cons (tg_name (i := 2) NN rfl loA) (tg_cons (tg_name (i := 3) NN rfl loA) tg_nil)))) (fun F1 H1 O1 σ1 s1 Hb C cl fp => st_yes) (fun F1 H1 O1 σ1 s1 Hb C cl fp => (vvA 3)))))) (vvA 4))))))))))
theorem ok_is_hole (W : Wd K mg) : FnOk P w K mg base (L2.CX P w) 2 W.a_is_hole W.d_is_hole ["thing"] (spF K (He.ga K) ST.f_is_hole) := by
  refine fn_rule (N := ["thing"]) (k := 1) [] W.F_is_hole sc_is_hole fun cdv A outer s H E F O σ hr tk => ?_
  have hu := u64 hr
  have hw := u65 hr
  have hv := u66 hr
  have NN := sc_is_hole.nd
  exact (ss_one (sv_ret (so_call (ok_is_called W) (hr.mono (by omega)) W.m_is_called W.F_is_called.kp (bn_is_called W) tk (sg_d (vvA 0) (sg_d (se_gstr W.c_GREAT glA (by kernel_rfl)) sg_nil)) glA (by kernel_rfl))))
theorem ok_is_term (W : Wd K mg) : ∀ n : Nat, FnOk P w K mg base (L2.CX P w) (3 + n) W.a_is_term W.d_is_term ["thing"] (spF K (He.ga K) (ST.f_is_term n))
 | 0 => ⟨fun vs H Q E z => by obtain ⟨_, _, _, _, _, _, _, z⟩ := z; exact z.elim, fun A outer s H args us vs Q E _ _ _ _ z => by obtain ⟨_, _, _, _, _, _, _, z⟩ := z; exact z.elim⟩
 | n + 1 => by
  have ih := ok_is_term W n
  refine fn_rule (N := ["thing", "kind", "one", "other", "part"]) (k := 3 + n) [] W.F_is_term sc_is_term fun cdv A outer s H E F O σ hr tk => ?_
  have hu := u64 hr
  have hw := u65 hr
  have hv := u66 hr
  have NN := sc_is_term.nd
  exact (ss_cons (sv_if (PW.pt (st_or (st_not (st_val (se_isi .tup W.b_isinstance W.b_tuple (vvA 0)))) (st_or (st_cmp (od_nin hw) (se_b1 cd_len W.b_len (vvA 0)) (se_tup (sa_cons se_int (sa_cons se_int sa_nil)))) (st_or1 (st_not (st_val (se_isi .str W.b_isinstance W.b_str (se_ix hu (vvA 0) se_int)))))))) (ss_one (sv_ret (so_d se_bl))) ss_nil)
    (ss_cons (sv_if (st_cmp (od_eq hu) (se_b1 cd_len W.b_len (vvA 0)) se_int) (ss_one (sv_ret (so_d (se_and (se_cmp (od_eq hu) (se_ix hu (vvA 0) se_int) se_str) (se_one (se_frz (so_call (ok_is_name W) (hr.mono (by omega)) W.m_is_name W.F_is_name.kp (bn_is_name W) tk (sg_d (se_ix hu (vvA 0) se_int) sg_nil) glA (by kernel_rfl)))))))) ss_nil)
    (ss_cons (sv_tgt (vvA 0) (tg_tup (n := 3) rfl (tg_cons (tg_name (i := 1) NN rfl loA) (tg_cons (tg_name (i := 2) NN rfl loA) (tg_cons (tg_name (i := 3) NN rfl loA) tg_nil)))))
    (ss_cons (sv_if (st_cmp (od_eq hu) (vvA 1) se_str) (ss_one (sv_ret (so_d (se_and (se_frz (so_call (ok_is_turn W) (hr.mono (by omega)) W.m_is_turn W.F_is_turn.kp (bn_is_turn W) tk (sg_d (vvA 2) sg_nil) glA (by kernel_rfl))) (se_one (se_frz (so_call (ok_is_hole W) (hr.mono (by omega)) W.m_is_hole W.F_is_hole.kp (bn_is_hole W) tk (sg_d (vvA 3) sg_nil) glA (by kernel_rfl)))))))) ss_nil)
    (ss_cons (sv_if (st_cmp (od_eq hu) (vvA 1) se_str) (ss_one (sv_ret (so_d (se_and (se_frz (so_call (ok_is_name W) (hr.mono (by omega)) W.m_is_name W.F_is_name.kp (bn_is_name W) tk (sg_d (vvA 2) sg_nil) glA (by kernel_rfl))) (se_one (se_frz (so_call ih (hr.mono (Nat.le_refl _)) W.m_is_term W.F_is_term.kp (bn_is_term W) tk (sg_d (vvA 3) sg_nil) glA (by kernel_rfl)))))))) ss_nil)
    (ss_one (sv_ret (so_d (se_and (se_cmp (od_eq hu) (vvA 1) se_str) (se_and (se_frz (so_call (ok_is_name W) (hr.mono (by omega)) W.m_is_name W.F_is_name.kp (bn_is_name W) tk (sg_d (vvA 2) sg_nil) glA (by kernel_rfl))) (se_and (se_isi .tup W.b_isinstance W.b_tuple (vvA 3)) (se_one (se_b1 (cd_all rfl) W.b_all (se_n (n_lc (own := [("part", 4)]) (fb := [0, 1, 2, 3]) rfl NN (si_val (vvA 3)) (blkOk_by (by kernel_rfl)) (fun F1 H1 O1 σ1 s1 Hb C cl fp => (tg_name (i := 4) NN rfl loA)) (fun F1 H1 O1 σ1 s1 Hb C cl fp => st_yes) (fun F1 H1 O1 σ1 s1 Hb C cl fp => (se_frz (so_call ih (hr.mono (Nat.le_refl _)) W.m_is_term W.F_is_term.kp (bn_is_term W) takes0 (sg_d (vvA 4) sg_nil) glA (by kernel_rfl)))))))))))))))))))
theorem ok_sure_terms (W : Wd K mg) : FnOk P w K mg base (L2.CX P w) 45 W.a_sure_terms W.d_sure_terms ["terms"] (spF K (He.ga K) ST.f_sure_terms) := by
  refine fn_rule (N := ["terms", "term"]) (k := 44) [] W.F_sure_terms sc_sure_terms fun cdv A outer s H E F O σ hr tk => ?_
  have hu := u64 hr
  have hw := u65 hr
  have hv := u66 hr
  have NN := sc_sure_terms.nd
  exact (ss_one (sv_for (passes_of rfl) rfl (si_val (vvA 0)) (fun F1 H1 O1 σ1 => (tg_name (i := 1) NN rfl loA)) (fun F1 H1 O1 σ1 => (ss_one (sv_if (st_not (st_val (se_frz (so_call (ok_is_term W 40) (hr.mono (by omega)) W.m_is_term W.F_is_term.kp (bn_is_term W) tk (sg_d (vvA 1) sg_nil) glA (by kernel_rfl))))) (ss_one (sv_raise (y := "NoTerm") rfl tk PySem.F.excBase_ValueError W.x_NoTerm.1 W.n_NoTerm W.x_NoTerm.2.1 (raises_own W.x_NoTerm.2.2.1 W.x_NoTerm.2.2.2) rfl glA (by kernel_rfl))) ss_nil)))))
theorem ok_inner (W : Wd K mg) : FnOk P w K mg base (L2.CX P w) 1 W.a_inner W.d_inner ["term"] (spF K (He.ga K) ST.f_inner) := by
  refine fn_rule (N := ["term"]) (k := 0) [] W.F_inner sc_inner fun cdv A outer s H E F O σ hr tk => ?_
  have hu := u64 hr
  have hw := u65 hr
  have hv := u66 hr
  have NN := sc_inner.nd
  exact (ss_cons (sv_if (st_cmp (od_eq hu) (se_ix hu (vvA 0) se_int) se_str) (ss_one (sv_ret (so_d (se_tup (sa_cons (se_ix hu (vvA 0) se_int) sa_nil))))) ss_nil)
    (ss_cons (sv_if (st_cmp (od_eq hu) (se_ix hu (vvA 0) se_int) se_str) (ss_one (sv_ret (so_d (se_ix hu (vvA 0) se_int)))) ss_nil)
    (ss_one (sv_ret (so_d (se_tup sa_nil))))))
theorem ok_every_part (W : Wd K mg) : ∀ n : Nat, FnOk P w K mg base (L2.CX P w) (1 + n) W.a_every_part W.d_every_part ["term"] (spF K (He.ga K) (ST.f_every_part n))
 | 0 => ⟨fun vs H Q E z => by obtain ⟨_, _, _, _, _, _, _, z⟩ := z; exact z.elim, fun A outer s H args us vs Q E _ _ _ _ z => by obtain ⟨_, _, _, _, _, _, _, z⟩ := z; exact z.elim⟩
 | n + 1 => by
  have ih := ok_every_part W n
  refine fn_rule (N := ["term", "found", "part"]) (k := 1 + n) [] W.F_every_part sc_every_part fun cdv A outer s H E F O σ hr tk => ?_
  have hu := u64 hr
  have hw := u65 hr
  have hv := u66 hr
  have NN := sc_every_part.nd
  exact (ss_cons (sv_setO (i := 1) NN (so_n (n_lst (sa_cons (vvA 0) sa_nil))) rfl loA)
    (ss_cons (sv_for (passes_of rfl) rfl (si_val (se_frz (so_call (ok_inner W) (hr.mono (by omega)) W.m_inner W.F_inner.kp (bn_inner W) tk (sg_d (vvA 0) sg_nil) glA (by kernel_rfl)))) (fun F1 H1 O1 σ1 => (tg_name (i := 2) NN rfl loA)) (fun F1 H1 O1 σ1 => (ss_one (sv_expr (so_d (se_extend 1 (se_frz (so_call ih (hr.mono (Nat.le_refl _)) W.m_every_part W.F_every_part.kp (bn_every_part W) tk (sg_d (vvA 2) sg_nil) glA (by kernel_rfl))) rfl (vis_of (by kernel_rfl)) (by kernel_rfl) (by kernel_rfl)))))))
    (ss_one (sv_ret (so_move 1 rfl (vis_of (by kernel_rfl)) (by kernel_rfl) (by kernel_rfl))))))
theorem ok_own_names (W : Wd K mg) : FnOk P w K mg base (L2.CX P w) 1 W.a_own_names W.d_own_names ["part"] (spF K (He.ga K) ST.f_own_names) := by
  refine fn_rule (N := ["part", "name", "to"]) (k := 0) [] W.F_own_names sc_own_names fun cdv A outer s H E F O σ hr tk => ?_
  have hu := u64 hr
  have hw := u65 hr
  have hv := u66 hr
  have NN := sc_own_names.nd
  exact (ss_cons (sv_if (st_cmp (od_in hw) (se_ix hu (vvA 0) se_int) (se_tup (sa_cons se_str (sa_cons se_str sa_nil)))) (ss_one (sv_ret (so_n (n_lst (sa_cons (se_ix hu (vvA 0) se_int) sa_nil))))) ss_nil)
    (ss_cons (sv_if (st_cmp (od_eq hu) (se_ix hu (vvA 0) se_int) se_str) (ss_one (sv_ret (so_n (n_lc (own := [("name", 1), ("to", 2)]) (fb := [0]) rfl NN (si_val (se_ix hu (vvA 0) se_int)) (blkOk_by (by kernel_rfl)) (fun F1 H1 O1 σ1 s1 Hb C cl fp => (tg_tup (n := 2) rfl (tg_cons (tg_name (i := 1) NN rfl loA) (tg_cons (tg_name (i := 2) NN rfl loA) tg_nil)))) (fun F1 H1 O1 σ1 s1 Hb C cl fp => st_yes) (fun F1 H1 O1 σ1 s1 Hb C cl fp => (vvA 1)))))) ss_nil)
    (ss_one (sv_ret (so_n (n_lst sa_nil))))))
theorem ok_all_names (W : Wd K mg) : FnOk P w K mg base (L2.CX P w) 43 W.a_all_names W.d_all_names ["terms"] (spF K (He.ga K) ST.f_all_names) := by
  refine fn_rule (N := ["terms", "term", "part", "name"]) (k := 42) [] W.F_all_names sc_all_names fun cdv A outer s H E F O σ hr tk => ?_
  have hu := u64 hr
  have hw := u65 hr
  have hv := u66 hr
  have NN := sc_all_names.nd
  exact (ss_one (sv_ret (so_n (n_sortK rfl hv W.b_sorted (psk_st (sk_sc3 (own := [("term", 1), ("part", 2), ("name", 3)]) (fb := [0]) (fb1 := [0, 1]) (vs1 := [2, 3]) (fb2 := [0, 1, 2]) (vs2 := [3]) rfl NN (si_val (vvA 0)) (blkOk_by (by kernel_rfl)) (fun F1 H1 O1 σ1 s1 Hb C cl fp => (tg_name (i := 1) NN rfl loA)) (fun F1 H1 O1 σ1 s1 Hb C cl fp => st_yes) (fun F1 H1 O1 σ1 s1 Hb C cl fp => (si_val (se_frz (so_call (ok_every_part W 40) (hr.mono (by omega)) W.m_every_part W.F_every_part.kp (bn_every_part W) takes0 (sg_d (vvA 1) sg_nil) glA (by kernel_rfl))))) (fun F1 H1 O1 σ1 s1 Hb C cl fp => (tg_name (i := 2) NN rfl loA)) (fun F1 H1 O1 σ1 s1 Hb C cl fp => st_yes) (fun F1 H1 O1 σ1 s1 Hb C cl fp => (si_val (se_frz (so_call (ok_own_names W) (hr.mono (by omega)) W.m_own_names W.F_own_names.kp (bn_own_names W) takes0 (sg_d (vvA 2) sg_nil) glA (by kernel_rfl))))) (fun F1 H1 O1 σ1 s1 Hb C cl fp => (tg_name (i := 3) NN rfl loA)) (fun F1 H1 O1 σ1 s1 Hb C cl fp => st_yes) (fun F1 H1 O1 σ1 s1 Hb C cl fp => (vvA 3))))))))
theorem ok_all_holes (W : Wd K mg) : FnOk P w K mg base (L2.CX P w) 43 W.a_all_holes W.d_all_holes ["terms"] (spF K (He.ga K) ST.f_all_holes) := by
  refine fn_rule (N := ["terms", "term", "part"]) (k := 42) [] W.F_all_holes sc_all_holes fun cdv A outer s H E F O σ hr tk => ?_
  have hu := u64 hr
  have hw := u65 hr
  have hv := u66 hr
  have NN := sc_all_holes.nd
  exact (ss_one (sv_ret (so_n (n_sortK rfl hv W.b_sorted (psk_st (sk_sc2 (own := [("term", 1), ("part", 2)]) (fb := [0]) (fb1 := [0, 1]) (vs1 := [2]) rfl NN (si_val (vvA 0)) (blkOk_by (by kernel_rfl)) (fun F1 H1 O1 σ1 s1 Hb C cl fp => (tg_name (i := 1) NN rfl loA)) (fun F1 H1 O1 σ1 s1 Hb C cl fp => st_yes) (fun F1 H1 O1 σ1 s1 Hb C cl fp => (si_val (se_frz (so_call (ok_every_part W 40) (hr.mono (by omega)) W.m_every_part W.F_every_part.kp (bn_every_part W) takes0 (sg_d (vvA 1) sg_nil) glA (by kernel_rfl))))) (fun F1 H1 O1 σ1 s1 Hb C cl fp => (tg_name (i := 2) NN rfl loA)) (fun F1 H1 O1 σ1 s1 Hb C cl fp => (pts_one (st_cmp (od_eq hu) (se_ix hu (vvA 2) se_int) se_str))) (fun F1 H1 O1 σ1 s1 Hb C cl fp => (se_ix hu (vvA 2) se_int))))))))
theorem ok_parts_of (W : Wd K mg) : FnOk P w K mg base (L2.CX P w) 46 W.a_parts_of W.d_parts_of ["term"] (spF K (He.ga K) ST.f_parts_of) := by
  refine fn_rule (N := ["term"]) (k := 45) [] W.F_parts_of sc_parts_of fun cdv A outer s H E F O σ hr tk => ?_
  have hu := u64 hr
  have hw := u65 hr
  have hv := u66 hr
  have NN := sc_parts_of.nd
  exact (ss_cons (sv_expr (so_callK0 (ok_sure_terms W) (hr.mono (by omega)) W.m_sure_terms W.F_sure_terms.kp (bn_sure_terms W) tk (gD_len gNil_len) (sk_d (se_n (n_lst (sa_cons (vvA 0) sa_nil))) sk_nil) glA (by kernel_rfl)))
    (ss_one (sv_ret (so_d (se_b1 cd_len W.b_len (se_frz (so_call (ok_every_part W 40) (hr.mono (by omega)) W.m_every_part W.F_every_part.kp (bn_every_part W) tk (sg_d (vvA 0) sg_nil) glA (by kernel_rfl))))))))
theorem ok_level_count (W : Wd K mg) : ∀ n : Nat, FnOk P w K mg base (L2.CX P w) (1 + n) W.a_level_count W.d_level_count ["term"] (spF K (He.ga K) (ST.f_level_count n))
 | 0 => ⟨fun vs H Q E z => by obtain ⟨_, _, _, _, _, _, _, z⟩ := z; exact z.elim, fun A outer s H args us vs Q E _ _ _ _ z => by obtain ⟨_, _, _, _, _, _, _, z⟩ := z; exact z.elim⟩
 | n + 1 => by
  have ih := ok_level_count W n
  refine fn_rule (N := ["term", "part"]) (k := 1 + n) [] W.F_level_count sc_level_count fun cdv A outer s H E F O σ hr tk => ?_
  have hu := u64 hr
  have hw := u65 hr
  have hv := u66 hr
  have NN := sc_level_count.nd
  exact (ss_one (sv_ret (so_d (se_bin od_add se_int (se_maxDef rfl hv W.b_max (se_n (n_lc (own := [("part", 1)]) (fb := [0]) rfl NN (si_val (se_frz (so_call (ok_inner W) (hr.mono (by omega)) W.m_inner W.F_inner.kp (bn_inner W) tk (sg_d (vvA 0) sg_nil) glA (by kernel_rfl)))) (blkOk_by (by kernel_rfl)) (fun F1 H1 O1 σ1 s1 Hb C cl fp => (tg_name (i := 1) NN rfl loA)) (fun F1 H1 O1 σ1 s1 Hb C cl fp => st_yes) (fun F1 H1 O1 σ1 s1 Hb C cl fp => (se_frz (so_call ih (hr.mono (Nat.le_refl _)) W.m_level_count W.F_level_count.kp (bn_level_count W) takes0 (sg_d (vvA 1) sg_nil) glA (by kernel_rfl)))))) se_int)))))
theorem ok_levels_of (W : Wd K mg) : FnOk P w K mg base (L2.CX P w) 46 W.a_levels_of W.d_levels_of ["term"] (spF K (He.ga K) ST.f_levels_of) := by
  refine fn_rule (N := ["term"]) (k := 45) [] W.F_levels_of sc_levels_of fun cdv A outer s H E F O σ hr tk => ?_
  have hu := u64 hr
  have hw := u65 hr
  have hv := u66 hr
  have NN := sc_levels_of.nd
  exact (ss_cons (sv_expr (so_callK0 (ok_sure_terms W) (hr.mono (by omega)) W.m_sure_terms W.F_sure_terms.kp (bn_sure_terms W) tk (gD_len gNil_len) (sk_d (se_n (n_lst (sa_cons (vvA 0) sa_nil))) sk_nil) glA (by kernel_rfl)))
    (ss_one (sv_ret (so_call (ok_level_count W 40) (hr.mono (by omega)) W.m_level_count W.F_level_count.kp (bn_level_count W) tk (sg_d (vvA 0) sg_nil) glA (by kernel_rfl)))))
theorem ok_names_in (W : Wd K mg) : FnOk P w K mg base (L2.CX P w) 46 W.a_names_in W.d_names_in ["term"] (spF K (He.ga K) ST.f_names_in) := by
  refine fn_rule (N := ["term"]) (k := 45) [] W.F_names_in sc_names_in fun cdv A outer s H E F O σ hr tk => ?_
  have hu := u64 hr
  have hw := u65 hr
  have hv := u66 hr
  have NN := sc_names_in.nd
  exact (ss_cons (sv_expr (so_callK0 (ok_sure_terms W) (hr.mono (by omega)) W.m_sure_terms W.F_sure_terms.kp (bn_sure_terms W) tk (gD_len gNil_len) (sk_d (se_n (n_lst (sa_cons (vvA 0) sa_nil))) sk_nil) glA (by kernel_rfl)))
    (ss_one (sv_ret (so_call (ok_all_names W) (hr.mono (by omega)) W.m_all_names W.F_all_names.kp (bn_all_names W) tk (sg_d (se_n (n_lst (sa_cons (vvA 0) sa_nil))) sg_nil) glA (by kernel_rfl)))))
theorem ok_holes_in (W : Wd K mg) : FnOk P w K mg base (L2.CX P w) 46 W.a_holes_in W.d_holes_in ["term"] (spF K (He.ga K) ST.f_holes_in) := by
  refine fn_rule (N := ["term"]) (k := 45) [] W.F_holes_in sc_holes_in fun cdv A outer s H E F O σ hr tk => ?_
  have hu := u64 hr
  have hw := u65 hr
  have hv := u66 hr
  have NN := sc_holes_in.nd
  exact (ss_cons (sv_expr (so_callK0 (ok_sure_terms W) (hr.mono (by omega)) W.m_sure_terms W.F_sure_terms.kp (bn_sure_terms W) tk (gD_len gNil_len) (sk_d (se_n (n_lst (sa_cons (vvA 0) sa_nil))) sk_nil) glA (by kernel_rfl)))
    (ss_one (sv_ret (so_call (ok_all_holes W) (hr.mono (by omega)) W.m_all_holes W.F_all_holes.kp (bn_all_holes W) tk (sg_d (se_n (n_lst (sa_cons (vvA 0) sa_nil))) sg_nil) glA (by kernel_rfl)))))
theorem ok__law_mixed (W : Wd K mg) : FnOk P w K mg base (L2.CX P w) 1 W.a__law_mixed W.d__law_mixed ["_law_cell", "_law_k"] (spF K (He.ga K) SH.f__law_mixed) := by
  refine fn_rule (N := ["_law_cell", "_law_k", "_law_number"]) (k := 0) [] W.F__law_mixed sc__law_mixed fun cdv A outer s H E F O σ hr tk => ?_
  have hu := u64 hr
  have hw := u65 hr
  have hv := u66 hr
  have NN := sc__law_mixed.nd
  exact (ss_cons (sv_set (i := 2) NN (se_bin od_mod (se_bin od_add (se_bin od_add (se_bin od_mul (vvA 0) se_int) (se_bin od_mul (vvA 1) se_int)) se_int) se_int) rfl loA)
    (ss_cons (sv_set (i := 2) NN (se_bin od_mod (se_bin od_mul (vvA 2) (vvA 2)) se_int) rfl loA)
    (ss_one (sv_ret (so_d (se_bin od_div (se_bin od_mod (se_bin od_mul (vvA 2) (vvA 2)) se_int) se_int))))))
theorem ok__law_pile (W : Wd K mg) : FnOk P w K mg base (L2.CX P w) 1 W.a__law_pile W.d__law_pile ["_law_script", "_law_k"] (spF K (He.ga K) SH.f__law_pile) := by
  refine fn_rule (N := ["_law_script", "_law_k", "_law_cell", "_law_digits"]) (k := 0) [] W.F__law_pile sc__law_pile fun cdv A outer s H E F O σ hr tk => ?_
  have hu := u64 hr
  have hw := u65 hr
  have hv := u66 hr
  have NN := sc__law_pile.nd
  exact (ss_cons (sv_set (i := 2) NN se_int rfl loA)
    (ss_cons (sv_if (st_cmp od_lt (vvA 1) (se_b1 cd_len W.b_len (vvA 0))) (ss_one (sv_set (i := 2) NN (se_ix hu (vvA 0) (vvA 1)) rfl loA)) ss_nil)
    (ss_cons (sv_set (i := 3) NN (se_bin od_mod (vvA 2) (se_bin od_mul (se_bin od_mul (se_bin od_pow se_int se_int) (se_bin od_pow se_int se_int)) (se_bin od_pow se_int se_int))) rfl loA)
    (ss_one (sv_ret (so_n (n_lst (sa_cons (se_bin od_mul (vvA 3) (se_t1 cd_int W.b_int (se_cmp od_ge (se_b1 cd_abs W.b_abs (vvA 2)) (se_bin od_pow se_int se_int)))) (sa_cons (se_bin od_mod (vvA 2) se_int) (sa_cons (se_bin od_mul se_int (vvA 1)) sa_nil))))))))))
theorem ok__law_take (W : Wd K mg) : FnOk P w K mg base (L2.CX P w) 2 W.a__law_take W.d__law_take ["_law_pile_here", "_law_many"] (spF K (He.ga K) SH.f__law_take) := by
  refine fn_rule (N := ["_law_pile_here", "_law_many", "_law_digit"]) (k := 1) [0] W.F__law_take sc__law_take fun cdv A outer s H E F O σ hr tk => ?_
  have hu := u64 hr
  have hw := u65 hr
  have hv := u66 hr
  have NN := sc__law_take.nd
  exact (ss_cons (sv_if (st_cmp (od_eq hu) (se_ix hu (vkA 0) se_int) se_int) (ss_cons (sv_put 0 rfl se_int (se_bin od_add (se_ix hu (vkA 0) se_int) se_int) (vis_of (by kernel_rfl)) (by kernel_rfl) (by kernel_rfl))
    (ss_one (sv_ret (so_d (se_bin od_mod (se_frz (so_call (ok__law_mixed W) (hr.mono (by omega)) W.m__law_mixed W.F__law_mixed.kp (bn__law_mixed W) tk (sg_d (se_ix hu (vkA 0) se_int) (sg_d (se_ix hu (vkA 0) se_int) sg_nil)) glA (by kernel_rfl))) (vvA 1)))))) ss_nil)
    (ss_cons (sv_set (i := 2) NN (se_bin od_mod (se_ix hu (vkA 0) se_int) (vvA 1)) rfl loA)
    (ss_cons (sv_put 0 rfl se_int (se_bin od_div (se_ix hu (vkA 0) se_int) (vvA 1)) (vis_of (by kernel_rfl)) (by kernel_rfl) (by kernel_rfl))
    (ss_one (sv_ret (so_d (vvA 2)))))))
theorem ok__law_name (W : Wd K mg) : FnOk P w K mg base (L2.CX P w) 3 W.a__law_name W.d__law_name ["_law_pile_here"] (spF K (He.ga K) SH.f__law_name) := by
  refine fn_rule (N := ["_law_pile_here", "_law_kind", "_law_letters", "_law_name_here", "_law_k"]) (k := 2) [0] W.F__law_name sc__law_name fun cdv A outer s H E F O σ hr tk => ?_
  have hu := u64 hr
  have hw := u65 hr
  have hv := u66 hr
  have NN := sc__law_name.nd
  exact (ss_cons (sv_set (i := 1) NN (se_frz (so_call (ok__law_take W) (hr.mono (by omega)) W.m__law_take W.F__law_take.kp (bn__law_take W) tk (sg_o 0 (sg_d se_int sg_nil) rfl (vis_of (by kernel_rfl)) (by kernel_rfl) (by kernel_rfl)) glA (by kernel_rfl))) rfl loA)
    (ss_cons (sv_set (i := 2) NN se_str rfl loA)
    (ss_cons (sv_set (i := 3) NN (se_ix hu (vvA 2) (se_frz (so_call (ok__law_take W) (hr.mono (by omega)) W.m__law_take W.F__law_take.kp (bn__law_take W) tk (sg_o 0 (sg_d (se_ix hu (se_n (n_lst (sa_cons se_int (sa_cons se_int sa_nil)))) (se_t1 cd_int W.b_int (se_cmp od_gt (vvA 1) se_int))) sg_nil) rfl (vis_of (by kernel_rfl)) (by kernel_rfl) (by kernel_rfl)) glA (by kernel_rfl)))) rfl loA)
    (ss_cons (sv_if (st_cmp (od_eq hu) (vvA 1) se_int) (ss_one (sv_set (i := 3) NN (se_bin od_add (vvA 3) (se_t1 cd_str W.b_str (se_frz (so_call (ok__law_take W) (hr.mono (by omega)) W.m__law_take W.F__law_take.kp (bn__law_take W) tk (sg_o 0 (sg_d se_int sg_nil) rfl (vis_of (by kernel_rfl)) (by kernel_rfl) (by kernel_rfl)) glA (by kernel_rfl))))) rfl loA)) ss_nil)
    (ss_cons (sv_if (st_cmp (od_eq hu) (vvA 1) se_int) (ss_one (sv_for (passes_of rfl) rfl (si_range1 W.b_range (se_bin od_add se_int (se_frz (so_call (ok__law_take W) (hr.mono (by omega)) W.m__law_take W.F__law_take.kp (bn__law_take W) tk (sg_o 0 (sg_d se_int sg_nil) rfl (vis_of (by kernel_rfl)) (by kernel_rfl) (by kernel_rfl)) glA (by kernel_rfl))))) (fun F1 H1 O1 σ1 => (tg_name (i := 4) NN rfl loA)) (fun F1 H1 O1 σ1 => (ss_one (sv_set (i := 3) NN (se_bin od_add (vvA 3) (se_ix hu (se_bin od_add (vvA 2) se_str) (se_frz (so_call (ok__law_take W) (hr.mono (by omega)) W.m__law_take W.F__law_take.kp (bn__law_take W) tk (sg_o 0 (sg_d se_int sg_nil) rfl (vis_of (by kernel_rfl)) (by kernel_rfl) (by kernel_rfl)) glA (by kernel_rfl))))) rfl loA))))) ss_nil)
    (ss_one (sv_ret (so_d (vvA 3)))))))))
theorem ok__law_names (W : Wd K mg) : FnOk P w K mg base (L2.CX P w) 4 W.a__law_names W.d__law_names ["_law_pile_here", "_law_many"] (spF K (He.ga K) SH.f__law_names) := by
  refine fn_rule (N := ["_law_pile_here", "_law_many", "_law_found", "_law_k", "_law_name_here", "_law_one"]) (k := 3) [0] W.F__law_names sc__law_names fun cdv A outer s H E F O σ hr tk => ?_
  have hu := u64 hr
  have hw := u65 hr
  have hv := u66 hr
  have NN := sc__law_names.nd
  exact (ss_cons (sv_setO (i := 2) NN (so_n (n_lst sa_nil)) rfl loA)
    (ss_cons (sv_for (passes_of rfl) rfl (si_range1 W.b_range (vvA 1)) (fun F1 H1 O1 σ1 => (tg_name (i := 3) NN rfl loA)) (fun F1 H1 O1 σ1 => (ss_cons (sv_set (i := 4) NN (se_frz (so_call (ok__law_name W) (hr.mono (by omega)) W.m__law_name W.F__law_name.kp (bn__law_name W) tk (sg_o 0 sg_nil rfl (vis_of (by kernel_rfl)) (by kernel_rfl) (by kernel_rfl)) glA (by kernel_rfl))) rfl loA)
    (ss_cons (sv_if (st_cmp (od_in hw) (vvA 4) (vkA 2)) (ss_one (sv_set (i := 4) NN (se_ix hu (se_n (n_lc (own := [("_law_one", 5)]) (fb := [0, 1, 2, 3, 4]) rfl NN (si_val (se_n (n_lst (sa_cons se_str (sa_cons se_str (sa_cons se_str (sa_cons se_str (sa_cons se_str (sa_cons se_str (sa_cons se_str (sa_cons se_str sa_nil))))))))))) (blkOk_by (by kernel_rfl)) (fun F1 H1 O1 σ1 s1 Hb C cl fp => (tg_name (i := 5) NN rfl loA)) (fun F1 H1 O1 σ1 s1 Hb C cl fp => (pts_one (st_cmp (od_nin hw) (vvA 5) (vkA 2)))) (fun F1 H1 O1 σ1 s1 Hb C cl fp => (vvA 5)))) se_int) rfl loA)) ss_nil)
    (ss_one (sv_expr (so_d (se_lm 2 PySem.F.slot_list_append PySem.F.type_list_append md_append (sa_cons (vvA 4) sa_nil) rfl (vis_of (by kernel_rfl)) (by kernel_rfl) (by kernel_rfl)))))))))
    (ss_one (sv_ret (so_move 2 rfl (vis_of (by kernel_rfl)) (by kernel_rfl) (by kernel_rfl))))))
theorem ok__law_order (W : Wd K mg) : FnOk P w K mg base (L2.CX P w) 3 W.a__law_order W.d__law_order ["_law_pile_here", "_law_some"] (spF K (He.ga K) SH.f__law_order) := by
  refine fn_rule (N := ["_law_pile_here", "_law_some", "_law_left", "_law_found"]) (k := 2) [0] W.F__law_order sc__law_order fun cdv A outer s H E F O σ hr tk => ?_
  have hu := u64 hr
  have hw := u65 hr
  have hv := u66 hr
  have NN := sc__law_order.nd
  exact (ss_cons (sv_setO (i := 2) NN (so_n (n_t1 cd_list W.b_list (vvA 1))) rfl loA)
    (ss_cons (sv_setO (i := 3) NN (so_n (n_lst sa_nil)) rfl loA)
    (ss_cons (sv_while (passes_of rfl) (st_cmp (od_ne hu) (vkA 2) (se_n (n_lst sa_nil))) (ss_one (sv_expr (so_d (se_lm 3 PySem.F.slot_list_append PySem.F.type_list_append md_append (sa_cons (se_lm 2 PySem.F.slot_list_pop PySem.F.type_list_pop md_pop (sa_cons (se_frz (so_call (ok__law_take W) (hr.mono (by omega)) W.m__law_take W.F__law_take.kp (bn__law_take W) tk (sg_o 0 (sg_d (se_b1 cd_len W.b_len (vkA 2)) sg_nil) rfl (vis_of (by kernel_rfl)) (by kernel_rfl) (by kernel_rfl)) glA (by kernel_rfl))) sa_nil) rfl (vis_of (by kernel_rfl)) (by kernel_rfl) (by kernel_rfl)) sa_nil) rfl (vis_of (by kernel_rfl)) (by kernel_rfl) (by kernel_rfl))))))
    (ss_one (sv_ret (so_move 3 rfl (vis_of (by kernel_rfl)) (by kernel_rfl) (by kernel_rfl)))))))
theorem ok__law_turn (W : Wd K mg) : FnOk P w K mg base (L2.CX P w) 4 W.a__law_turn W.d__law_turn ["_law_pile_here", "_law_names_here"] (spF K (He.ga K) SH.f__law_turn) := by
  refine fn_rule (N := ["_law_pile_here", "_law_names_here", "_law_kind", "_law_others", "_law_one", "_law_two", "_law_last_one", "_law_name_here", "_law_to"]) (k := 3) [0] W.F__law_turn sc__law_turn fun cdv A outer s H E F O σ hr tk => ?_
  have hu := u64 hr
  have hw := u65 hr
  have hv := u66 hr
  have NN := sc__law_turn.nd
  exact (ss_cons (sv_set (i := 2) NN (se_frz (so_call (ok__law_take W) (hr.mono (by omega)) W.m__law_take W.F__law_take.kp (bn__law_take W) tk (sg_o 0 (sg_d se_int sg_nil) rfl (vis_of (by kernel_rfl)) (by kernel_rfl) (by kernel_rfl)) glA (by kernel_rfl))) rfl loA)
    (ss_cons (sv_setO (i := 3) NN (so_n (n_t1 cd_list W.b_list (vvA 1))) rfl loA)
    (ss_cons (sv_if (st_cmp (od_eq hu) (vvA 2) se_int) (ss_cons (sv_par (i := 4) (j := 5) rfl NN (sa_cons (se_frz (so_call (ok__law_take W) (hr.mono (by omega)) W.m__law_take W.F__law_take.kp (bn__law_take W) tk (sg_o 0 (sg_d (se_b1 cd_len W.b_len (vvA 1)) sg_nil) rfl (vis_of (by kernel_rfl)) (by kernel_rfl) (by kernel_rfl)) glA (by kernel_rfl))) (sa_cons (se_frz (so_call (ok__law_take W) (hr.mono (by omega)) W.m__law_take W.F__law_take.kp (bn__law_take W) tk (sg_o 0 (sg_d (se_b1 cd_len W.b_len (vvA 1)) sg_nil) rfl (vis_of (by kernel_rfl)) (by kernel_rfl) (by kernel_rfl)) glA (by kernel_rfl))) sa_nil)) rfl rfl (by decide) (by kernel_rfl) (by kernel_rfl))
    (ss_cons (sv_set (i := 6) NN (se_ix hu (vkA 3) (vvA 4)) rfl loA)
    (ss_cons (sv_put 3 rfl (vvA 4) (se_ix hu (vkA 3) (vvA 5)) (vis_of (by kernel_rfl)) (by kernel_rfl) (by kernel_rfl))
    (ss_one (sv_put 3 rfl (vvA 5) (vvA 6) (vis_of (by kernel_rfl)) (by kernel_rfl) (by kernel_rfl)))))) ss_nil)
    (ss_cons (sv_if (st_cmp (od_eq hu) (vvA 2) se_int) (ss_one (sv_setO (i := 3) NN (so_call (ok__law_order W) (hr.mono (by omega)) W.m__law_order W.F__law_order.kp (bn__law_order W) tk (sg_o 0 (sg_d (vvA 1) sg_nil) rfl (vis_of (by kernel_rfl)) (by kernel_rfl) (by kernel_rfl)) glA (by kernel_rfl)) rfl loA)) ss_nil)
    (ss_one (sv_ret (so_d (se_t1 cd_tup W.b_tuple (se_n (n_b1 (cd_sorted hv) W.b_sorted (se_n (n_lc (own := [("_law_name_here", 7), ("_law_to", 8)]) (fb := [0, 1, 2, 3, 4, 5, 6]) rfl NN (si_zip W.b_zip (vvA 1) (se_frzv 3 rfl (vis_of (by kernel_rfl)) (by kernel_rfl) (by kernel_rfl))) (blkOk_by (by kernel_rfl)) (fun F1 H1 O1 σ1 s1 Hb C cl fp => (tg_tup (n := 2) rfl (tg_cons (tg_name (i := 7) NN rfl loA) (tg_cons (tg_name (i := 8) NN rfl loA) tg_nil)))) (fun F1 H1 O1 σ1 s1 Hb C cl fp => (pts_one (st_cmp (od_ne hu) (vvA 7) (vvA 8)))) (fun F1 H1 O1 σ1 s1 Hb C cl fp => (se_tup (sa_cons (vvA 7) (sa_cons (vvA 8) sa_nil))))))))))))))))
theorem ok__law_holes (W : Wd K mg) : FnOk P w K mg base (L2.CX P w) 3 W.a__law_holes W.d__law_holes ["_law_pile_here", "_law_many"] (spF K (He.ga K) ST.f__law_holes) := by
  refine fn_rule (N := ["_law_pile_here", "_law_many", "_law_letters", "_law_found", "_law_k", "_law_hole", "_law_j", "_law_one"]) (k := 2) [0] W.F__law_holes sc__law_holes fun cdv A outer s H E F O σ hr tk => ?_
  have hu := u64 hr
  have hw := u65 hr
  have hv := u66 hr
  have NN := sc__law_holes.nd
  exact (ss_cons (sv_set (i := 2) NN se_str rfl loA)
    (ss_cons (sv_setO (i := 3) NN (so_n (n_lst sa_nil)) rfl loA)
    (ss_cons (sv_for (passes_of rfl) rfl (si_range1 W.b_range (vvA 1)) (fun F1 H1 O1 σ1 => (tg_name (i := 4) NN rfl loA)) (fun F1 H1 O1 σ1 => (ss_cons (sv_set (i := 5) NN (se_ix hu (vvA 2) (se_frz (so_call (ok__law_take W) (hr.mono (by omega)) W.m__law_take W.F__law_take.kp (bn__law_take W) tk (sg_o 0 (sg_d se_int sg_nil) rfl (vis_of (by kernel_rfl)) (by kernel_rfl) (by kernel_rfl)) glA (by kernel_rfl)))) rfl loA)
    (ss_cons (sv_if (st_cmp (od_eq hu) (se_frz (so_call (ok__law_take W) (hr.mono (by omega)) W.m__law_take W.F__law_take.kp (bn__law_take W) tk (sg_o 0 (sg_d se_int sg_nil) rfl (vis_of (by kernel_rfl)) (by kernel_rfl) (by kernel_rfl)) glA (by kernel_rfl))) se_int) (ss_one (sv_for (passes_of rfl) rfl (si_range1 W.b_range (se_frz (so_call (ok__law_take W) (hr.mono (by omega)) W.m__law_take W.F__law_take.kp (bn__law_take W) tk (sg_o 0 (sg_d se_int sg_nil) rfl (vis_of (by kernel_rfl)) (by kernel_rfl) (by kernel_rfl)) glA (by kernel_rfl)))) (fun F1 H1 O1 σ1 => (tg_name (i := 6) NN rfl loA)) (fun F1 H1 O1 σ1 => (ss_one (sv_set (i := 5) NN (se_bin od_add (vvA 5) (se_ix hu (se_bin od_add (vvA 2) se_str) (se_frz (so_call (ok__law_take W) (hr.mono (by omega)) W.m__law_take W.F__law_take.kp (bn__law_take W) tk (sg_o 0 (sg_d se_int sg_nil) rfl (vis_of (by kernel_rfl)) (by kernel_rfl) (by kernel_rfl)) glA (by kernel_rfl))))) rfl loA))))) ss_nil)
    (ss_cons (sv_if (st_cmp (od_in hw) (vvA 5) (vkA 3)) (ss_one (sv_set (i := 5) NN (se_ix hu (se_n (n_lc (own := [("_law_one", 7)]) (fb := [0, 1, 2, 3, 4, 5, 6]) rfl NN (si_val (se_n (n_lst (sa_cons se_str (sa_cons se_str (sa_cons se_str (sa_cons se_str (sa_cons se_str (sa_cons se_str sa_nil))))))))) (blkOk_by (by kernel_rfl)) (fun F1 H1 O1 σ1 s1 Hb C cl fp => (tg_name (i := 7) NN rfl loA)) (fun F1 H1 O1 σ1 s1 Hb C cl fp => (pts_one (st_cmp (od_nin hw) (vvA 7) (vkA 3)))) (fun F1 H1 O1 σ1 s1 Hb C cl fp => (vvA 7)))) se_int) rfl loA)) ss_nil)
    (ss_one (sv_expr (so_d (se_lm 3 PySem.F.slot_list_append PySem.F.type_list_append md_append (sa_cons (vvA 5) sa_nil) rfl (vis_of (by kernel_rfl)) (by kernel_rfl) (by kernel_rfl))))))))))
    (ss_one (sv_ret (so_move 3 rfl (vis_of (by kernel_rfl)) (by kernel_rfl) (by kernel_rfl)))))))
theorem ok__law_sign (W : Wd K mg) : FnOk P w K mg base (L2.CX P w) 3 W.a__law_sign W.d__law_sign ["_law_pile_here", "_law_names_here"] (spF K (He.ga K) ST.f__law_sign) := by
  refine fn_rule (N := ["_law_pile_here", "_law_names_here"]) (k := 2) [0] W.F__law_sign sc__law_sign fun cdv A outer s H E F O σ hr tk => ?_
  have hu := u64 hr
  have hw := u65 hr
  have hv := u66 hr
  have NN := sc__law_sign.nd
  exact (ss_one (sv_ret (so_d (se_ix hu (se_n (n_lst (sa_cons se_str (sa_cons se_str (sa_cons se_str (sa_cons (se_ix hu (vvA 1) se_int) sa_nil)))))) (se_frz (so_call (ok__law_take W) (hr.mono (by omega)) W.m__law_take W.F__law_take.kp (bn__law_take W) tk (sg_o 0 (sg_d se_int sg_nil) rfl (vis_of (by kernel_rfl)) (by kernel_rfl) (by kernel_rfl)) glA (by kernel_rfl)))))))
theorem ok__law_term (W : Wd K mg) : ∀ n : Nat, FnOk P w K mg base (L2.CX P w) (4 + n) W.a__law_term W.d__law_term ["_law_pile_here", "_law_names_here", "_law_some", "_law_depth"] (spF K (He.ga K) (SU.f__law_term n))
 | 0 => ⟨fun vs H Q E z => by obtain ⟨_, _, _, _, _, _, _, z⟩ := z; exact z.elim, fun A outer s H args us vs Q E _ _ _ _ z => by obtain ⟨_, _, _, _, _, _, _, z⟩ := z; exact z.elim⟩
 | n + 1 => by
  have ih := ok__law_term W n
  refine fn_rule (N := ["_law_pile_here", "_law_names_here", "_law_some", "_law_depth", "_law_kind", "_law_leaf", "_law_many", "_law_parts_here", "_law_k"]) (k := 4 + n) [0, 2] W.F__law_term sc__law_term fun cdv A outer s H E F O σ hr tk => ?_
  have hu := u64 hr
  have hw := u65 hr
  have hv := u66 hr
  have NN := sc__law_term.nd
  exact (ss_cons (sv_set (i := 4) NN (se_frz (so_call (ok__law_take W) (hr.mono (by omega)) W.m__law_take W.F__law_take.kp (bn__law_take W) tk (sg_o 0 (sg_d se_int sg_nil) rfl (vis_of (by kernel_rfl)) (by kernel_rfl) (by kernel_rfl)) glA (by kernel_rfl))) rfl loA)
    (ss_cons (sv_set (i := 5) NN (se_or (se_cmp (od_eq hu) (vvA 3) se_int) (se_one (se_cmp (od_eq hu) (vvA 4) se_int))) rfl loA)
    (ss_cons (sv_if (PW.pt (st_and (st_val (vvA 5)) (st_and (st_cmp (od_ne hu) (vkA 2) (se_n (n_lst sa_nil))) (st_and1 (st_cmp od_gt (se_frz (so_call (ok__law_take W) (hr.mono (by omega)) W.m__law_take W.F__law_take.kp (bn__law_take W) tk (sg_o 0 (sg_d se_int sg_nil) rfl (vis_of (by kernel_rfl)) (by kernel_rfl) (by kernel_rfl)) glA (by kernel_rfl))) se_int))))) (ss_one (sv_ret (so_d (se_tup (sa_cons se_str (sa_cons (se_frz (so_call (ok__law_turn W) (hr.mono (by omega)) W.m__law_turn W.F__law_turn.kp (bn__law_turn W) tk (sg_o 0 (sg_d (vvA 1) sg_nil) rfl (vis_of (by kernel_rfl)) (by kernel_rfl) (by kernel_rfl)) glA (by kernel_rfl))) (sa_cons (se_lm 2 PySem.F.slot_list_pop PySem.F.type_list_pop md_pop (sa_cons (se_frz (so_call (ok__law_take W) (hr.mono (by omega)) W.m__law_take W.F__law_take.kp (bn__law_take W) tk (sg_o 0 (sg_d (se_b1 cd_len W.b_len (vkA 2)) sg_nil) rfl (vis_of (by kernel_rfl)) (by kernel_rfl) (by kernel_rfl)) glA (by kernel_rfl))) sa_nil) rfl (vis_of (by kernel_rfl)) (by kernel_rfl) (by kernel_rfl)) sa_nil))))))) ss_nil)
    (ss_cons (sv_if (st_val (vvA 5)) (ss_one (sv_ret (so_d (se_tup (sa_cons se_str (sa_cons (se_ix hu (vvA 1) (se_frz (so_call (ok__law_take W) (hr.mono (by omega)) W.m__law_take W.F__law_take.kp (bn__law_take W) tk (sg_o 0 (sg_d (se_b1 cd_len W.b_len (vvA 1)) sg_nil) rfl (vis_of (by kernel_rfl)) (by kernel_rfl) (by kernel_rfl)) glA (by kernel_rfl)))) sa_nil)))))) ss_nil)
    (ss_cons (sv_if (st_cmp od_lt (vvA 4) se_int) (ss_one (sv_ret (so_d (se_tup (sa_cons se_str (sa_cons (se_ix hu (vvA 1) (se_frz (so_call (ok__law_take W) (hr.mono (by omega)) W.m__law_take W.F__law_take.kp (bn__law_take W) tk (sg_o 0 (sg_d (se_b1 cd_len W.b_len (vvA 1)) sg_nil) rfl (vis_of (by kernel_rfl)) (by kernel_rfl) (by kernel_rfl)) glA (by kernel_rfl)))) (sa_cons (se_frz (so_call ih (hr.mono (Nat.le_refl _)) W.m__law_term W.F__law_term.kp (bn__law_term W) tk (sg_o 0 (sg_d (vvA 1) (sg_o 2 (sg_d (se_bin od_sub (vvA 3) se_int) sg_nil) rfl (vis_of (by kernel_rfl)) (by kernel_rfl) (by kernel_rfl))) rfl (vis_of (by kernel_rfl)) (by kernel_rfl) (by kernel_rfl)) glA (by kernel_rfl))) sa_nil))))))) ss_nil)
    (ss_cons (sv_set (i := 6) NN (se_ix hu (se_n (n_lst (sa_cons se_int (sa_cons se_int (sa_cons se_int (sa_cons se_int (sa_cons se_int (sa_cons se_int sa_nil)))))))) (se_frz (so_call (ok__law_take W) (hr.mono (by omega)) W.m__law_take W.F__law_take.kp (bn__law_take W) tk (sg_o 0 (sg_d se_int sg_nil) rfl (vis_of (by kernel_rfl)) (by kernel_rfl) (by kernel_rfl)) glA (by kernel_rfl)))) rfl loA)
    (ss_cons (sv_setLc (i := 7) (own := [("_law_k", 8)]) (fb := [0, 1, 2, 3, 4, 5, 6, 7]) rfl NN (si_range1 W.b_range (vvA 6)) (blkOk_by (by kernel_rfl)) (fun F1 H1 O1 σ1 s1 Hb C cl fp => (tg_name (i := 8) NN rfl loA)) (fun F1 H1 O1 σ1 s1 Hb C cl fp => st_yes) (fun F1 H1 O1 σ1 s1 Hb C cl fp => (se_frz (so_call ih (hr.mono (Nat.le_refl _)) W.m__law_term W.F__law_term.kp (bn__law_term W) takes0 (sg_o 0 (sg_d (vvA 1) (sg_o 2 (sg_d (se_bin od_sub (vvA 3) se_int) sg_nil) rfl (vis_of (by kernel_rfl)) (by kernel_rfl) (by kernel_rfl))) rfl (vis_of (by kernel_rfl)) (by kernel_rfl) (by kernel_rfl)) glA (by kernel_rfl)))) rfl (by kernel_rfl))
    (ss_one (sv_ret (so_d (se_tup (sa_cons se_str (sa_cons (se_frz (so_call (ok__law_sign W) (hr.mono (by omega)) W.m__law_sign W.F__law_sign.kp (bn__law_sign W) tk (sg_o 0 (sg_d (vvA 1) sg_nil) rfl (vis_of (by kernel_rfl)) (by kernel_rfl) (by kernel_rfl)) glA (by kernel_rfl))) (sa_cons (se_t1 cd_tup W.b_tuple (vvA 7)) sa_nil))))))))))))))
theorem ok__law_any (W : Wd K mg) : FnOk P w K mg base (L2.CX P w) 46 W.a__law_any W.d__law_any ["_law_pile_here", "_law_names_here", "_law_some"] (spF K (He.ga K) SU.f__law_any) := by
  refine fn_rule (N := ["_law_pile_here", "_law_names_here", "_law_some", "_law_kind", "_law_term_here", "_law_k", "_law_parts_here"]) (k := 45) [0, 2] W.F__law_any sc__law_any fun cdv A outer s H E F O σ hr tk => ?_
  have hu := u64 hr
  have hw := u65 hr
  have hv := u66 hr
  have NN := sc__law_any.nd
  exact (ss_cons (sv_set (i := 3) NN (se_frz (so_call (ok__law_take W) (hr.mono (by omega)) W.m__law_take W.F__law_take.kp (bn__law_take W) tk (sg_o 0 (sg_d se_int sg_nil) rfl (vis_of (by kernel_rfl)) (by kernel_rfl) (by kernel_rfl)) glA (by kernel_rfl))) rfl loA)
    (ss_cons (sv_if (st_cmp (od_eq hu) (vvA 3) se_int) (ss_cons (sv_set (i := 4) NN (se_frz (so_call (ok__law_term W 40) (hr.mono (by omega)) W.m__law_term W.F__law_term.kp (bn__law_term W) tk (sg_o 0 (sg_d (vvA 1) (sg_o 2 (sg_d se_int sg_nil) rfl (vis_of (by kernel_rfl)) (by kernel_rfl) (by kernel_rfl))) rfl (vis_of (by kernel_rfl)) (by kernel_rfl) (by kernel_rfl)) glA (by kernel_rfl))) rfl loA)
    (ss_cons (sv_killB [5] (sv_for (passes_of rfl) rfl (si_range1 W.b_range (se_bin od_add se_int (se_frz (so_call (ok__law_take W) (hr.mono (by omega)) W.m__law_take W.F__law_take.kp (bn__law_take W) tk (sg_o 0 (sg_d se_int sg_nil) rfl (vis_of (by kernel_rfl)) (by kernel_rfl) (by kernel_rfl)) glA (by kernel_rfl))))) (fun F1 H1 O1 σ1 => (tg_name (i := 5) NN rfl loA)) (fun F1 H1 O1 σ1 => (ss_kill [5] (ss_one (sv_kill [] (sv_if (st_cmp (od_eq hu) (se_frz (so_call (ok__law_take W) (hr.mono (by omega)) W.m__law_take W.F__law_take.kp (bn__law_take W) tk (sg_o 0 (sg_d se_int sg_nil) rfl (vis_of (by kernel_rfl)) (by kernel_rfl) (by kernel_rfl)) glA (by kernel_rfl))) se_int) (ss_one (sv_set (i := 4) NN (se_tup (sa_cons se_str (sa_cons (se_frz (so_call (ok__law_sign W) (hr.mono (by omega)) W.m__law_sign W.F__law_sign.kp (bn__law_sign W) tk (sg_o 0 (sg_d (vvA 1) sg_nil) rfl (vis_of (by kernel_rfl)) (by kernel_rfl) (by kernel_rfl)) glA (by kernel_rfl))) (sa_cons (se_tup (sa_cons (vvA 4) sa_nil)) sa_nil)))) rfl loA)) (ss_one (sv_set (i := 4) NN (se_tup (sa_cons se_str (sa_cons (se_ix hu (vvA 1) (se_frz (so_call (ok__law_take W) (hr.mono (by omega)) W.m__law_take W.F__law_take.kp (bn__law_take W) tk (sg_o 0 (sg_d (se_b1 cd_len W.b_len (vvA 1)) sg_nil) rfl (vis_of (by kernel_rfl)) (by kernel_rfl) (by kernel_rfl)) glA (by kernel_rfl)))) (sa_cons (vvA 4) sa_nil)))) rfl loA)))))))))
    (ss_one (sv_ret (so_d (vvA 4)))))) ss_nil)
    (ss_cons (sv_if (st_cmp (od_eq hu) (vvA 3) se_int) (ss_cons (sv_setLc (i := 6) (own := [("_law_k", 5)]) (fb := [0, 1, 2, 3, 4, 6]) rfl NN (si_range1 W.b_range (se_frz (so_call (ok__law_take W) (hr.mono (by omega)) W.m__law_take W.F__law_take.kp (bn__law_take W) tk (sg_o 0 (sg_d se_int sg_nil) rfl (vis_of (by kernel_rfl)) (by kernel_rfl) (by kernel_rfl)) glA (by kernel_rfl)))) (blkOk_by (by kernel_rfl)) (fun F1 H1 O1 σ1 s1 Hb C cl fp => (tg_name (i := 5) NN rfl loA)) (fun F1 H1 O1 σ1 s1 Hb C cl fp => st_yes) (fun F1 H1 O1 σ1 s1 Hb C cl fp => (se_frz (so_call (ok__law_term W 40) (hr.mono (by omega)) W.m__law_term W.F__law_term.kp (bn__law_term W) takes0 (sg_o 0 (sg_d (vvA 1) (sg_o 2 (sg_d se_int sg_nil) rfl (vis_of (by kernel_rfl)) (by kernel_rfl) (by kernel_rfl))) rfl (vis_of (by kernel_rfl)) (by kernel_rfl) (by kernel_rfl)) glA (by kernel_rfl)))) rfl (by kernel_rfl))
    (ss_one (sv_ret (so_d (se_tup (sa_cons se_str (sa_cons (se_frz (so_call (ok__law_sign W) (hr.mono (by omega)) W.m__law_sign W.F__law_sign.kp (bn__law_sign W) tk (sg_o 0 (sg_d (vvA 1) sg_nil) rfl (vis_of (by kernel_rfl)) (by kernel_rfl) (by kernel_rfl)) glA (by kernel_rfl))) (sa_cons (se_t1 cd_tup W.b_tuple (vvA 6)) sa_nil)))))))) ss_nil)
    (ss_one (sv_ret (so_call (ok__law_term W 40) (hr.mono (by omega)) W.m__law_term W.F__law_term.kp (bn__law_term W) tk (sg_o 0 (sg_d (vvA 1) (sg_o 2 (sg_d se_int sg_nil) rfl (vis_of (by kernel_rfl)) (by kernel_rfl) (by kernel_rfl))) rfl (vis_of (by kernel_rfl)) (by kernel_rfl) (by kernel_rfl)) glA (by kernel_rfl)))))))
theorem ok__law_in (W : Wd K mg) : FnOk P w K mg base (L2.CX P w) 1 W.a__law_in W.d__law_in ["_law_term_here"] (spF K (He.ga K) SU.f__law_in) := by
  refine fn_rule (N := ["_law_term_here"]) (k := 0) [] W.F__law_in sc__law_in fun cdv A outer s H E F O σ hr tk => ?_
  have hu := u64 hr
  have hw := u65 hr
  have hv := u66 hr
  have NN := sc__law_in.nd
  exact (ss_cons (sv_if (st_cmp (od_eq hu) (se_ix hu (vvA 0) se_int) se_str) (ss_one (sv_ret (so_n (n_lst (sa_cons (se_ix hu (vvA 0) se_int) sa_nil))))) ss_nil)
    (ss_cons (sv_if (st_cmp (od_eq hu) (se_ix hu (vvA 0) se_int) se_str) (ss_one (sv_ret (so_n (n_t1 cd_list W.b_list (se_ix hu (vvA 0) se_int))))) ss_nil)
    (ss_one (sv_ret (so_n (n_lst sa_nil))))))
theorem ok__law_parts (W : Wd K mg) : ∀ n : Nat, FnOk P w K mg base (L2.CX P w) (1 + n) W.a__law_parts W.d__law_parts ["_law_term_here"] (spF K (He.ga K) (SU.f__law_parts n))
 | 0 => ⟨fun vs H Q E z => by obtain ⟨_, _, _, _, _, _, _, z⟩ := z; exact z.elim, fun A outer s H args us vs Q E _ _ _ _ z => by obtain ⟨_, _, _, _, _, _, _, z⟩ := z; exact z.elim⟩
 | n + 1 => by
  have ih := ok__law_parts W n
  refine fn_rule (N := ["_law_term_here", "_law_found", "_law_part"]) (k := 1 + n) [] W.F__law_parts sc__law_parts fun cdv A outer s H E F O σ hr tk => ?_
  have hu := u64 hr
  have hw := u65 hr
  have hv := u66 hr
  have NN := sc__law_parts.nd
  exact (ss_cons (sv_set (i := 1) NN (se_n (n_lst (sa_cons (vvA 0) sa_nil))) rfl loA)
    (ss_cons (sv_killB [2] (sv_for (passes_of rfl) rfl (si_val (se_frz (so_call (ok__law_in W) (hr.mono (by omega)) W.m__law_in W.F__law_in.kp (bn__law_in W) tk (sg_d (vvA 0) sg_nil) glA (by kernel_rfl)))) (fun F1 H1 O1 σ1 => (tg_name (i := 2) NN rfl loA)) (fun F1 H1 O1 σ1 => (ss_kill [2] (ss_one (sv_set (i := 1) NN (se_bin od_add (vvA 1) (se_frz (so_call ih (hr.mono (Nat.le_refl _)) W.m__law_parts W.F__law_parts.kp (bn__law_parts W) tk (sg_d (vvA 2) sg_nil) glA (by kernel_rfl)))) rfl loA))))))
    (ss_one (sv_ret (so_d (vvA 1))))))
theorem ok__law_levels (W : Wd K mg) : ∀ n : Nat, FnOk P w K mg base (L2.CX P w) (1 + n) W.a__law_levels W.d__law_levels ["_law_term_here"] (spF K (He.ga K) (f__law_levels n))
 | 0 => ⟨fun vs H Q E z => by obtain ⟨_, _, _, _, _, _, _, z⟩ := z; exact z.elim, fun A outer s H args us vs Q E _ _ _ _ z => by obtain ⟨_, _, _, _, _, _, _, z⟩ := z; exact z.elim⟩
 | n + 1 => by
  have ih := ok__law_levels W n
  refine fn_rule (N := ["_law_term_here", "_law_part"]) (k := 1 + n) [] W.F__law_levels sc__law_levels fun cdv A outer s H E F O σ hr tk => ?_
  have hu := u64 hr
  have hw := u65 hr
  have hv := u66 hr
  have NN := sc__law_levels.nd
  exact (ss_one (sv_ret (so_d (se_bin od_add se_int (se_b1 (cd_max rfl hv) W.b_max (se_bin od_add (se_n (n_lst (sa_cons se_int sa_nil))) (se_n (n_lc (own := [("_law_part", 1)]) (fb := [0]) rfl NN (si_val (se_frz (so_call (ok__law_in W) (hr.mono (by omega)) W.m__law_in W.F__law_in.kp (bn__law_in W) tk (sg_d (vvA 0) sg_nil) glA (by kernel_rfl)))) (blkOk_by (by kernel_rfl)) (fun F1 H1 O1 σ1 s1 Hb C cl fp => (tg_name (i := 1) NN rfl loA)) (fun F1 H1 O1 σ1 s1 Hb C cl fp => st_yes) (fun F1 H1 O1 σ1 s1 Hb C cl fp => (se_frz (so_call ih (hr.mono (Nat.le_refl _)) W.m__law_levels W.F__law_levels.kp (bn__law_levels W) takes0 (sg_d (vvA 1) sg_nil) glA (by kernel_rfl))))))))))))
theorem ok__law_own (W : Wd K mg) : FnOk P w K mg base (L2.CX P w) 1 W.a__law_own W.d__law_own ["_law_part"] (spF K (He.ga K) f__law_own) := by
  refine fn_rule (N := ["_law_part", "_law_one", "_law_to"]) (k := 0) [] W.F__law_own sc__law_own fun cdv A outer s H E F O σ hr tk => ?_
  have hu := u64 hr
  have hw := u65 hr
  have hv := u66 hr
  have NN := sc__law_own.nd
  exact (ss_cons (sv_if (st_cmp (od_in hw) (se_ix hu (vvA 0) se_int) (se_n (n_lst (sa_cons se_str (sa_cons se_str sa_nil))))) (ss_one (sv_ret (so_n (n_lst (sa_cons (se_ix hu (vvA 0) se_int) sa_nil))))) ss_nil)
    (ss_cons (sv_if (st_cmp (od_eq hu) (se_ix hu (vvA 0) se_int) se_str) (ss_one (sv_ret (so_n (n_lc (own := [("_law_one", 1), ("_law_to", 2)]) (fb := [0]) rfl NN (si_val (se_ix hu (vvA 0) se_int)) (blkOk_by (by kernel_rfl)) (fun F1 H1 O1 σ1 s1 Hb C cl fp => (tg_tup (n := 2) rfl (tg_cons (tg_name (i := 1) NN rfl loA) (tg_cons (tg_name (i := 2) NN rfl loA) tg_nil)))) (fun F1 H1 O1 σ1 s1 Hb C cl fp => st_yes) (fun F1 H1 O1 σ1 s1 Hb C cl fp => (vvA 1)))))) ss_nil)
    (ss_one (sv_ret (so_n (n_lst sa_nil))))))
theorem ok__law_is_count (W : Wd K mg) : FnOk P w K mg base (L2.CX P w) 1 W.a__law_is_count W.d__law_is_count ["_law_thing", "_law_due"] (spF K (He.ga K) f__law_is_count) := by
  refine fn_rule (N := ["_law_thing", "_law_due"]) (k := 0) [] W.F__law_is_count sc__law_is_count fun cdv A outer s H E F O σ hr tk => ?_
  have hu := u64 hr
  have hw := u65 hr
  have hv := u66 hr
  have NN := sc__law_is_count.nd
  exact (ss_one (sv_ret (so_d (se_and (se_isi .int W.b_isinstance W.b_int (vvA 0)) (se_and (se_not (se_isi .bool W.b_isinstance W.b_bool (vvA 0))) (se_one (se_cmp (od_eq hu) (vvA 0) (vvA 1))))))))
theorem ok_law (W : Wd K mg) : FnOk P w K mg base (L2.CX P w) 47 W.a_law W.d_law ["_law_script"] (spF K (He.ga K) f_law) := by
  refine fn_rule (N := ["_law_script", "_law_k", "_law_pile_here", "_law_names_here", "_law_term_here", "_law_parts_here", "_law_due", "_law_part", "_law_told", "_law_mine"]) (k := 46) [] W.F_law sc_law fun cdv A outer s H E F O σ hr tk => ?_
  have hu := u64 hr
  have hw := u65 hr
  have hv := u66 hr
  have NN := sc_law.nd
  exact (ss_cons (sv_killB [1, 2, 3, 4, 5, 6, 7, 8, 9] (sv_for (passes_of rfl) rfl (si_range1 W.b_range se_int) (fun F1 H1 O1 σ1 => (tg_name (i := 1) NN rfl loA)) (fun F1 H1 O1 σ1 => (ss_kill [1, 2, 3, 4, 5, 6, 7, 8, 9] (ss_cons (sv_setO (i := 2) NN (so_call (ok__law_pile W) (hr.mono (by omega)) W.m__law_pile W.F__law_pile.kp (bn__law_pile W) tk (sg_d (vvA 0) (sg_d (vvA 1) sg_nil)) glA (by kernel_rfl)) rfl loA)
    (ss_cons (sv_set (i := 3) NN (se_frz (so_call (ok__law_names W) (hr.mono (by omega)) W.m__law_names W.F__law_names.kp (bn__law_names W) tk (sg_o 2 (sg_d (se_bin od_add se_int (se_frz (so_call (ok__law_take W) (hr.mono (by omega)) W.m__law_take W.F__law_take.kp (bn__law_take W) tk (sg_o 2 (sg_d se_int sg_nil) rfl (vis_of (by kernel_rfl)) (by kernel_rfl) (by kernel_rfl)) glA (by kernel_rfl)))) sg_nil) rfl (vis_of (by kernel_rfl)) (by kernel_rfl) (by kernel_rfl)) glA (by kernel_rfl))) rfl loA)
    (ss_cons (sv_set (i := 4) NN (se_frz (so_callT (ok__law_any W) (hr.mono (by omega)) W.m__law_any W.F__law_any.kp (bn__law_any W) tk (sgt_o 2 (sgt_d (vvA 3) (sgt_t (so_n (n_mul (se_frz (so_call (ok__law_holes W) (hr.mono (by omega)) W.m__law_holes W.F__law_holes.kp (bn__law_holes W) tk (sg_o 2 (sg_d (se_frz (so_call (ok__law_take W) (hr.mono (by omega)) W.m__law_take W.F__law_take.kp (bn__law_take W) tk (sg_o 2 (sg_d se_int sg_nil) rfl (vis_of (by kernel_rfl)) (by kernel_rfl) (by kernel_rfl)) glA (by kernel_rfl))) sg_nil) rfl (vis_of (by kernel_rfl)) (by kernel_rfl) (by kernel_rfl)) glA (by kernel_rfl))) se_int)))) rfl (vis_of (by kernel_rfl)) (by kernel_rfl) (by kernel_rfl)) glA (by kernel_rfl))) rfl loA)
    (ss_cons (sv_set (i := 5) NN (se_frz (so_call (ok__law_parts W 40) (hr.mono (by omega)) W.m__law_parts W.F__law_parts.kp (bn__law_parts W) tk (sg_d (vvA 4) sg_nil) glA (by kernel_rfl))) rfl loA)
    (ss_cons (sv_if (PW.pt (st_or (st_not (st_val (se_frz (so_call (ok__law_is_count W) (hr.mono (by omega)) W.m__law_is_count W.F__law_is_count.kp (bn__law_is_count W) tk (sg_d (se_frz (so_call (ok_parts_of W) (hr.mono (by omega)) W.m_parts_of W.F_parts_of.kp (bn_parts_of W) tk (sg_d (vvA 4) sg_nil) glA (by kernel_rfl))) (sg_d (se_b1 cd_len W.b_len (vvA 5)) sg_nil)) glA (by kernel_rfl))))) (st_or1 (st_not (st_val (se_frz (so_call (ok__law_is_count W) (hr.mono (by omega)) W.m__law_is_count W.F__law_is_count.kp (bn__law_is_count W) tk (sg_d (se_frz (so_call (ok_levels_of W) (hr.mono (by omega)) W.m_levels_of W.F_levels_of.kp (bn_levels_of W) tk (sg_d (vvA 4) sg_nil) glA (by kernel_rfl))) (sg_d (se_frz (so_call (ok__law_levels W 40) (hr.mono (by omega)) W.m__law_levels W.F__law_levels.kp (bn__law_levels W) tk (sg_d (vvA 4) sg_nil) glA (by kernel_rfl))) sg_nil)) glA (by kernel_rfl)))))))) (ss_one (sv_ret (so_d se_bl))) ss_nil)
    (ss_cons (sv_set (i := 6) NN (se_n (n_lst sa_nil)) rfl loA)
    (ss_cons (sv_killB [7] (sv_for (passes_of rfl) rfl (si_val (vvA 5)) (fun F1 H1 O1 σ1 => (tg_name (i := 7) NN rfl loA)) (fun F1 H1 O1 σ1 => (ss_kill [7] (ss_one (sv_set (i := 6) NN (se_bin od_add (vvA 6) (se_frz (so_call (ok__law_own W) (hr.mono (by omega)) W.m__law_own W.F__law_own.kp (bn__law_own W) tk (sg_d (vvA 7) sg_nil) glA (by kernel_rfl)))) rfl loA))))))
    (ss_cons (sv_setO (i := 8) NN (so_tupO (so_consO (so_call (ok_names_in W) (hr.mono (by omega)) W.m_names_in W.F_names_in.kp (bn_names_in W) tk (sg_d (vvA 4) sg_nil) glA (by kernel_rfl)) (fun F1 H1 O1 σ1 => (so_consO (so_call (ok_holes_in W) (hr.mono (by omega)) W.m_holes_in W.F_holes_in.kp (bn_holes_in W) tk (sg_d (vvA 4) sg_nil) glA (by kernel_rfl)) (fun F1 H1 O1 σ1 => so_nilO))))) rfl loA)
    (ss_cons (sv_set (i := 9) NN (se_tup (sa_cons (se_n (n_sortS rfl hv W.b_sorted W.b_set (vvA 6))) (sa_cons (se_n (n_sortS rfl hv W.b_sorted W.b_set (se_n (n_lc (own := [("_law_part", 7)]) (fb := [0, 1, 2, 3, 4, 5, 6, 8, 9]) rfl NN (si_val (vvA 5)) (blkOk_by (by kernel_rfl)) (fun F1 H1 O1 σ1 s1 Hb C cl fp => (tg_name (i := 7) NN rfl loA)) (fun F1 H1 O1 σ1 s1 Hb C cl fp => (pts_one (st_cmp (od_eq hu) (se_ix hu (vvA 7) se_int) se_str))) (fun F1 H1 O1 σ1 s1 Hb C cl fp => (se_ix hu (vvA 7) se_int)))))) sa_nil))) rfl loA)
    (ss_cons (sv_if (st_lendT 8 [0, 1, 2, 3, 4, 5, 6, 7, 8, 9] (PW.pt (st_or (st_cmp (od_ne hu) (vvA 8) (vvA 9)) (st_or (st_not (st_val (se_isi .lst W.b_isinstance W.b_list (se_ix hu (vvA 8) se_int)))) (st_or1 (st_not (st_val (se_isi .lst W.b_isinstance W.b_list (se_ix hu (vvA 8) se_int))))))))) (ss_one (sv_ret (so_d se_bl))) ss_nil)
    (ss_cons (sv_expr (so_d (se_tupM 8 0 PySem.F.slot_list_append PySem.F.type_list_append md_append (fun F1 H1 O1 σ1 => (sa_cons se_str sa_nil)) rfl (vis_of (by kernel_rfl)) (by kernel_rfl) (by kernel_rfl))))
    (ss_cons (sv_expr (so_d (se_tupM0 8 1 PySem.F.slot_list_clear PySem.F.type_list_clear md_clear rfl (vis_of (by kernel_rfl)) (by kernel_rfl) (by kernel_rfl))))
    (ss_one (sv_if (st_cmp (od_ne hu) (se_tup (sa_cons (se_frz (so_call (ok_names_in W) (hr.mono (by omega)) W.m_names_in W.F_names_in.kp (bn_names_in W) tk (sg_d (vvA 4) sg_nil) glA (by kernel_rfl))) (sa_cons (se_frz (so_call (ok_holes_in W) (hr.mono (by omega)) W.m_holes_in W.F_holes_in.kp (bn_holes_in W) tk (sg_d (vvA 4) sg_nil) glA (by kernel_rfl))) sa_nil))) (vvA 9)) (ss_one (sv_ret (so_d se_bl))) ss_nil))))))))))))))))))
    (ss_one (sv_ret (so_d se_bl))))
end
end K11
end
section
namespace K11
open PySem PySem.Spec PyProof.Rows L2 DL SH SU SV SW SX SY SZ ST
theorem fold_ge (L : List Int) : ∀ a : Int, a ≤ L.foldl (fun a b => if decide (a < b) = true then b else a) a := by
 induction L with
 | nil => intro a; exact Int.le_refl _
 | cons b L ih =>
  intro a
  rw [List.foldl_cons]
  by_cases h : a < b
  ·rw [if_pos (decide_eq_true h)]
   have := ih b
   omega
  ·rw [if_neg (by rw [decide_eq_false h]; exact Bool.false_ne_true)]
   exact ih a
theorem max_zero {L : List Int} (h : ∀ a ∈ L, 1 ≤ a) : maxL (0 :: L) = maxL L := by
 cases L with
 | nil => rfl
 | cons y ys =>
  have hy := h y List.mem_cons_self
  show (y :: ys).foldl _ 0 = ys.foldl _ y
  rw [List.foldl_cons, if_pos (decide_eq_true (show (0 : Int) < y by omega))]
theorem max_ge {L : List Int} (h : ∀ a ∈ L, 1 ≤ a) : 0 ≤ maxL L := by
 cases L with
 | nil => exact Int.le_refl _
 | cons y ys =>
  have hy := h y List.mem_cons_self
  have : y ≤ maxL (y :: ys) := fold_ge ys y
  omega
section
variable {l hs : List Str}
theorem inner_in {n : Nat} {t : ST.Tm} (h : OfT l hs (n + 1) t) : ∀ b ∈ innerT t, OfT l hs n b := by
 cases t with
 | nm s => intro b hb; cases hb
 | hole v x => intro b hb; cases hb
 | shut a b => intro c hc; rw [List.mem_singleton.mp hc]; exact h.2
 | sign f ts => exact h.2.2
theorem lev_pos : ∀ {n : Nat} {t : ST.Tm}, OfT l hs n t → 1 ≤ levelsI n t
 | 0, _, h => h.elim
 | n + 1, t, h => by
  have := max_ge (L := (innerT t).map (levelsI n)) fun a ha => by
   obtain ⟨b, hb, rfl⟩ := List.mem_map.mp ha
   exact lev_pos (inner_in h b hb)
  show 1 ≤ 1 + maxL _
  omega
theorem law_levels_ok : ∀ (n : Nat) {t : ST.Tm}, OfT l hs n t → f__law_levels n [.d (tmD t)] = .ok (.d (.int (levelsI n t))) [some (.d (tmD t))]
 | 0, _, h => h.elim
 | n + 1, t, h => by
  have e1 := law_in_ok t
  have fr : (OV.lst ((innerT t).map tmD)).frz = some (.list ((innerT t).map tmD)) := rfl
  have it : itemsD (.list ((innerT t).map tmD)) = some ((innerT t).map tmD) := rfl
  have lc := lcP_map (pe := c1__law_levels (f__law_levels n)) (f := tmD) (g := fun b => PyData.int (levelsI n b)) (l := innerT t) fun b hb => by
   have ih := law_levels_ok n (inner_in h b hb)
   generalize tmD b = z1 at *
   simp [c1__law_levels, ih]
  have em : (innerT t).map (fun b => PyData.int (levelsI n b)) = ((innerT t).map (levelsI n)).map .int := by rw [List.map_map]; rfl
  rw [em] at lc
  have ln : (innerT t).length ≤ 6 := by
   cases t with
   | nm s => show 0 ≤ 6; omega
   | hole v x => show 0 ≤ 6; omega
   | shut a b => show 1 ≤ 6; omega
   | sign f ts => exact h.2.1
  have ad := add_ll (a := [PyData.int 0]) (b := ((innerT t).map (levelsI n)).map PyData.int) (by rw [List.length_map, List.length_map, List.length_singleton]; omega)
  have mx : mxD (.list ((0 :: (innerT t).map (levelsI n)).map .int)) = some (.int (maxL (0 :: (innerT t).map (levelsI n)))) := mx_ints (0 :: (innerT t).map (levelsI n))
  rw [max_zero fun a ha => by
   obtain ⟨b, hb, rfl⟩ := List.mem_map.mp ha
   exact lev_pos (inner_in h b hb)] at mx
  have mx : mxD (.list ([PyData.int 0] ++ ((innerT t).map (levelsI n)).map .int)) = some (.int (maxL ((innerT t).map (levelsI n)))) := mx
  have ad2 : addD (.int 1) (.int (maxL ((innerT t).map (levelsI n)))) = some (.int (levelsI (n + 1) t)) := rfl
  rw [eq__law_levels]
  generalize levelsI (n + 1) t = y1 at *
  generalize maxL ((innerT t).map (levelsI n)) = y2 at *
  generalize [PyData.int 0] ++ ((innerT t).map (levelsI n)).map .int = y5 at *
  generalize ((innerT t).map (levelsI n)).map PyData.int = y3 at *
  generalize (innerT t).map tmD = y4 at *
  generalize tmD t = y6 at *
  simp (implicitDefEqProofs := false) [e1, fr, it, lc, ad, mx, ad2]
theorem law_own_ok (t : ST.Tm) : f__law_own [.d (tmD t)] = .ok (.lst ((ownN t).map .str)) [some (.d (tmD t))] := by
 have k := kind_is t
 have iw : ∀ w : Str, inD (.str w) (.list [.str "name", .str "shut"]) = some (.bool (decide (w ∈ (["name", "shut"] : List Str)))) := fun w => rfl
 rw [eq__law_own]
 cases t with
 | nm s =>
  have i1 : ixD (tmD (.nm s)) (.int 1) = some (.str s) := by rw [tmD]; rfl
  have e := iw "name"
  have d : decide (("name" : Str) ∈ (["name", "shut"] : List Str)) = true := by decide
  rw [d] at e
  show _ = Rf.ok (.lst ([s].map .str)) _
  generalize tmD (.nm s) = y at *
  simp [k, wordT, e, i1]
 | shut a b =>
  have i1 : ixD (tmD (.shut a b)) (.int 1) = some (.str a) := by rw [tmD]; rfl
  have e := iw "shut"
  have d : decide (("shut" : Str) ∈ (["name", "shut"] : List Str)) = true := by decide
  rw [d] at e
  show _ = Rf.ok (.lst ([a].map .str)) _
  generalize tmD (.shut a b) = y at *
  simp [k, wordT, e, i1]
 | hole v x =>
  have i1 : ixD (tmD (.hole v x)) (.int 1) = some (tD v) := by rw [tmD]; rfl
  have e := iw "hole"
  have d : decide (("hole" : Str) ∈ (["name", "shut"] : List Str)) = false := by decide
  rw [d] at e
  have it : itemsD (tD v) = some (v.map pd) := rfl
  have lc := lcP_map (pe := c1__law_own) (f := pd) (g := fun p => PyData.str p.1) (l := v) fun p _ => by
   have t2 : tupO 2 (pd p) = some [.str p.1, .str p.2] := rfl
   generalize pd p = z at *
   simp [c1__law_own, t2, conO, nilO]
  have em : (v.map fun p => PyData.str p.1) = (keys v).map .str := by unfold keys; rw [List.map_map]; rfl
  rw [em] at lc
  show _ = Rf.ok (.lst ((keys v).map .str)) _
  have es : eqD (.str ("hole" : Str)) (.str "hole") = some (.bool true) := rfl
  generalize (keys v).map PyData.str = z1 at *
  generalize v.map pd = z2 at *
  generalize tmD (.hole v x) = y at *
  generalize tD v = z3 at *
  simp [k, wordT, e, i1, es, it, lc]
 | sign f ts =>
  have e := iw "sign"
  have d : decide (("sign" : Str) ∈ (["name", "shut"] : List Str)) = false := by decide
  rw [d] at e
  have es : eqD (.str ("sign" : Str)) (.str "hole") = some (.bool false) := rfl
  show _ = Rf.ok (.lst []) _
  generalize tmD (.sign f ts) = y at *
  simp [k, wordT, e, es]
theorem count_ok (i : Int) : f__law_is_count [.d (.int i), .d (.int i)] = .ok (.d (.bool true)) [some (.d (.int i)), some (.d (.int i))] := by
 have e1 : isiD .int (.int i) = some (.bool true) := rfl
 have e2 : isiD .bool (.int i) = some (.bool false) := rfl
 have e3 := eq_i i i
 rw [decide_eq_true rfl] at e3
 rw [eq__law_is_count]
 simp [e1, e2, e3]
theorem q3_ok {p1 : List ST.Tm} : ∀ {acc : List Str}, acc.length + (p1.flatMap ownN).length ≤ 900 → forS q3_law (p1.map tmD) (.list (acc.map .str)) = .ok (.list ((acc ++ p1.flatMap ownN).map .str)) := by
 induction p1 with
 | nil => intro acc _; rw [List.flatMap_nil, List.append_nil]; rfl
 | cons t p1 ih =>
  intro acc h
  rw [List.flatMap_cons, List.length_append] at h
  have e := law_own_ok t
  have fr : (OV.lst ((ownN t).map .str)).frz = some (.list ((ownN t).map .str)) := rfl
  have ad := add_ll (a := acc.map PyData.str) (b := (ownN t).map PyData.str) (by rw [List.length_map, List.length_map]; omega)
  rw [← List.map_append] at ad
  have q : q3_law (tmD t) (.list (acc.map .str)) = .ok (.list ((acc ++ ownN t).map .str)) := by
   generalize (acc ++ ownN t).map PyData.str = y1 at *
   generalize acc.map PyData.str = y2 at *
   generalize (ownN t).map PyData.str = y3 at *
   generalize tmD t = y4 at *
   simp [q3_law, e, fr, ad]
  rw [List.map_cons, forS, q]
  show forS _ _ _ = _
  rw [ih (by rw [List.length_append]; omega), List.flatMap_cons, List.append_assoc]
theorem pile_flat {B : Nat} {p : List D} (h : Pile B p) : DL.flatL p = true := by
 obtain ⟨d, m, j, e, _⟩ := h.ex
 rw [e]; rfl
theorem str_ly {s : Str} (h : PyData.strOk s = true) : Ly 1 (.str s) := ⟨by rw [PyData.canLay0]; exact h, by rw [PyData.depth]; omega⟩
theorem strs_ly {L : List Str} (h : ∀ s ∈ L, PyData.strOk s = true) : Ly 2 (.list (L.map .str)) := Ly.lst (n := 1) fun x hx => by
 obtain ⟨s, hs, rfl⟩ := List.mem_map.mp hx
 exact str_ly (h s hs)
theorem sort_strs {L : List Str} (h : L.length ≤ 1000) : sortSO (.list (L.map .str)) = some ((sortS (onceS L)).map .str) := by
 have e := texts_strs h
 unfold sortSO
 rw [e]
theorem c4_ok (n : Nat) (t : ST.Tm) : lcP c4_law ((everyP n t).map tmD) = .ok ((((everyP n t).filter holeT).map holeN).map .str) := by
 have lc := lcP_filt (pe := c4_law) (f := tmD) (g := fun v => PyData.str (holeN v)) (p := holeT) (l := everyP n t) fun v _ => by
  have k := kind_is v
  cases v with
  | hole u x =>
   have i2 : ixD (tmD (.hole u x)) (.int 2) = some (.str x) := by rw [tmD]; rfl
   generalize tmD (.hole u x) = y at *
   simp [c4_law, k, wordT, eq_s, i2, holeT, holeN]
  | nm s => generalize tmD (.nm s) = y at *; simp [c4_law, k, wordT, eq_s, holeT, show ¬ (("name" : Str) = "hole") by decide]
  | shut a b => generalize tmD (.shut a b) = y at *; simp [c4_law, k, wordT, eq_s, holeT, show ¬ (("shut" : Str) = "hole") by decide]
  | sign f ts => generalize tmD (.sign f ts) = y at *; simp [c4_law, k, wordT, eq_s, holeT, show ¬ (("sign" : Str) = "hole") by decide]
 rw [lc, List.map_map]
 rfl
theorem h2_ok {t : ST.Tm} (h : Sm t) (o : OfT l hs 40 t) : h2_law (tmD t) (.list ((everyP 40 t).map tmD)) = .ok false := by
 have e1 := h.t28.parts
 have e2 := len_m tmD (everyP 40 t)
 have e3 := count_ok ((everyP 40 t).length : Nat)
 have e4 := h.t28.levels
 have e5 := law_levels_ok 40 o
 have e6 := count_ok (levelsI 40 t)
 generalize (((everyP 40 t).length : Nat) : Int) = y1 at *
 generalize levelsI 40 t = y2 at *
 generalize (everyP 40 t).map tmD = y3 at *
 generalize tmD t = y4 at *
 simp [h2_law, e1, e2, e3, e4, e5, e6]
end
theorem body_ok (ns : List Int) (i : Nat) (hi : i < 30) : q1_law (.dict [(.none, .list (ns.map .int))]) (.int (i : Nat)) () = .ok (.nx ()) := by
 have big := size_big
 obtain ⟨p0, hp0, e0⟩ := pile_ok ns i (by omega)
 obtain ⟨m, p1, m0, m1, hp1, e1⟩ := take_ok (by omega) hp0 6 (by omega) (by omega)
 obtain ⟨l, p2, l1, l2, l3, hp2, e2⟩ := names_ok (by omega) hp1 (m.toNat + 1) (by omega)
 have hcast : (1 + m : Int) = ((m.toNat + 1 : Nat) : Int) := by omega
 rw [← hcast] at e2
 have ad1 : addD (.int 1) (.int m) = some (.int (1 + m)) := rfl
 obtain ⟨j, p3, j0, j1, hp3, e3⟩ := take_ok (by omega) hp2 7 (by omega) (by omega)
 obtain ⟨hs, p4, g1, g2, g3, hp4, e4⟩ := holes_ok (by omega) hp3 j.toNat (by omega)
 have hcast2 : (j : Int) = ((j.toNat : Nat) : Int) := by omega
 rw [← hcast2] at e4
 have nl : Names 6 l := ⟨by omega, l2, l3⟩
 have mu := mul_3 (l := hs) (by omega)
 obtain ⟨t, p5, hs', Dw, e5⟩ := any_ok (by omega) hp4 nl (by omega) (hs := hs ++ hs ++ hs) (by simp; omega) (fun s h => g3 s (by simp at h; exact h))
 have hh3 : ∀ s ∈ hs ++ hs ++ hs, HlS s := fun s h => g3 s (by simp at h; exact h)
 have ok := OfT.ok nl.nm hh3 Dw.of
 have S : Sm t := ⟨ok.up, Dw.few.up (by omega)⟩
 have o40 := Dw.of.to (show 12 ≤ 40 by omega)
 have f40 := Dw.few 40
 have e6 := lawparts_ok 40 o40 (by omega)
 have e7 := h2_ok S o40
 have an : allN [t] = (everyP 40 t).flatMap ownN := one_flat _ t
 have ah : allH [t] = ((everyP 40 t).filter holeT).map holeN := one_flat _ t
 have nf := names_few S.ok
 have hf := holes_few t
 have e8 := q3_ok (p1 := everyP 40 t) (acc := []) (by rw [← an]; show 0 + _ ≤ 900; omega)
 rw [List.nil_append, ← an, List.map_nil] at e8
 have e9 := S.names
 have e10 := S.holes
 have s1 := sort_strs (L := allN [t]) (by omega)
 have s2 := sort_strs (L := allH [t]) (by omega)
 have c4 := c4_ok 40 t
 rw [← ah] at c4
 have k1 : ∀ s ∈ sortS (onceS (allN [t])), PyData.strOk s = true := nmL_ok S
 have k2 : ∀ s ∈ sortS (onceS (allH [t])), PyData.strOk s = true := hlL_ok S
 have ly := Ly.tup (n := 2) (xs := [.list ((sortS (onceS (allN [t]))).map .str), .list ((sortS (onceS (allH [t]))).map .str)]) fun x hx => by
  rcases List.mem_cons.mp hx with e | hx
  ·rw [e]; exact strs_ly k1
  ·rw [List.mem_singleton.mp hx]; exact strs_ly k2
 have ne := (ne_same ly (by omega)).1
 have fz : frzL (nmO [.lst ((sortS (onceS (allN [t]))).map .str), .lst ((sortS (onceS (allH [t]))).map .str)]) = some [.list ((sortS (onceS (allN [t]))).map .str), .list ((sortS (onceS (allH [t]))).map .str)] := rfl
 have x0 : ixD (.tuple [.list ((sortS (onceS (allN [t]))).map .str), .list ((sortS (onceS (allH [t]))).map .str)]) (.int 0) = some (.list ((sortS (onceS (allN [t]))).map .str)) := rfl
 have x1 : ixD (.tuple [.list ((sortS (onceS (allN [t]))).map .str), .list ((sortS (onceS (allH [t]))).map .str)]) (.int 1) = some (.list ((sortS (onceS (allH [t]))).map .str)) := rfl
 have il : ∀ z : List D, isiD .lst (.list z) = some (.bool true) := fun z => rfl
 have b0 : mbO (nmO [.lst ((sortS (onceS (allN [t]))).map .str), .lst ((sortS (onceS (allH [t]))).map .str)]) 0 = some ((sortS (onceS (allN [t]))).map .str) := rfl
 have b1 : ∀ z, mbO (mbS (nmO [.lst ((sortS (onceS (allN [t]))).map .str), .lst ((sortS (onceS (allH [t]))).map .str)]) 0 z) 1 = some ((sortS (onceS (allH [t]))).map .str) := fun z => rfl
 have sl := so_len (allN [t])
 have ap : ∃ z, appendD ((sortS (onceS (allN [t]))).map .str) [.str "a"] = some z := by
  refine ⟨((sortS (onceS (allN [t]))).map .str ++ [.str "a"], .none), ?_⟩
  unfold appendD
  simp only
  rw [if_pos (by rw [List.length_map]; omega)]
 obtain ⟨za, ap⟩ := ap
 have cl : clearD ((sortS (onceS (allH [t]))).map .str) [] = some ([], .none) := rfl
 have itp : itemsD (.list ((everyP 40 t).map tmD)) = some ((everyP 40 t).map tmD) := rfl
 have e0 : SH.f__law_pile [.d (.dict [(.none, .list (ns.map .int))]), .d (.int (i : Nat))] = _ := e0
 have fp5 := pile_flat Dw.pile
 have e9 : ST.f_names_in [.d (tmD t)] = .ok (.lst ((sortS (onceS (allN [t]))).map .str)) [some (.d (tmD t))] := e9
 have e10 : ST.f_holes_in [.d (tmD t)] = .ok (.lst ((sortS (onceS (allH [t]))).map .str)) [some (.d (tmD t))] := e10
 have ok : ∀ q0 q1 q3 q4 q5 q6 q8 q9, okSlots 8 [0, 1, 2, 3, 4, 5, 6, 7, 8, 9] 0 [some (.d q0), some (.d q1), some (.lst p5), some (.d q3), some (.d q4), some (.d q5), some (.d q6), none, some (.d q8), some (.d q9)] [some (.d q0), some (.d q1), some (.lst p5), some (.d q3), some (.d q4), some (.d q5), some (.d q6), none, some (.d q8), some (.d q9)] := fun q0 q1 q3 q4 q5 q6 q8 q9 => by
  simp (implicitDefEqProofs := false) [okSlots, okSlot, fp5]
 clear an ah nf hf f40 sl ly k1 k2
 generalize PyData.dict [(PyData.none, PyData.list (ns.map .int))] = z0 at *
 generalize (sortS (onceS (allN [t]))).map PyData.str = z1 at *
 generalize (sortS (onceS (allH [t]))).map PyData.str = z2 at *
 generalize (allN [t]).map PyData.str = z3 at *
 generalize (allH [t]).map PyData.str = z4 at *
 generalize (everyP 40 t).map tmD = z5 at *
 generalize tmD t = z6 at *
 generalize (hs ++ hs ++ hs).map PyData.str = z7 at *
 generalize hs.map PyData.str = z8 at *
 generalize l.map PyData.str = z9 at *
 simp (implicitDefEqProofs := false) [q1_law, e0, e1, ad1, e2, e3, e4, mu, e5, e6, e7, itp, e8, e9, e10, s1, c4, s2, fz, ne, x0, x1, il, ok, b0, ap, b1, cl]
theorem law_true : ∀ ns : List Int, ns.length ≤ 63 → ∃ outs, f_law [.d (scrD ns)] = .ok (.d (.bool true)) outs := fun ns hns => by
 have hr : range1 (.int 30) = some (rangeL 0 30) := range_ok 30 (by omega)
 obtain ⟨s', f1, _⟩ := forF_all (b := q1_law (.dict [(.none, .list (ns.map .int))])) (xs := rangeL 0 30) (s := ()) (fun _ _ => True) trivial fun i x s hx _ => by
  obtain ⟨hi, rfl⟩ := range_at hx
  exact ⟨(), body_ok ns i hi, trivial⟩
 refine ⟨[some (.d (scrD ns))], ?_⟩
 rw [show scrD ns = .dict [(.none, .list (ns.map .int))] from rfl, eq_law]
 generalize ns.map PyData.int = z at *
 simp [hr, f1]
end K11
end
section
namespace K11
open PySem PySem.Spec PyProof.Rows L2 DL
theorem wd {K : Frag} {h : Heap} {mg : Str → Option Value} (X : K.In h) (G : h.Ns mainGlobals mg) (c : He.SaysD faL fnL K) (c2 : fxB fxL K = true) : Nonempty (Wd K mg) := by
 obtain ⟨d0, F0⟩ := c.def_ 0 (d := dd_is_called) rfl
 obtain ⟨d1, F1⟩ := c.def_ 1 (d := dd_is_name) rfl
 obtain ⟨d2, F2⟩ := c.def_ 2 (d := dd_is_turn) rfl
 obtain ⟨d3, F3⟩ := c.def_ 3 (d := dd_is_hole) rfl
 obtain ⟨d4, F4⟩ := c.def_ 4 (d := dd_is_term) rfl
 obtain ⟨d5, F5⟩ := c.def_ 5 (d := dd_sure_terms) rfl
 obtain ⟨d6, F6⟩ := c.def_ 6 (d := dd_inner) rfl
 obtain ⟨d7, F7⟩ := c.def_ 7 (d := dd_every_part) rfl
 obtain ⟨d8, F8⟩ := c.def_ 8 (d := dd_own_names) rfl
 obtain ⟨d9, F9⟩ := c.def_ 9 (d := dd_all_names) rfl
 obtain ⟨d10, F10⟩ := c.def_ 10 (d := dd_all_holes) rfl
 obtain ⟨d11, F11⟩ := c.def_ 11 (d := dd_parts_of) rfl
 obtain ⟨d12, F12⟩ := c.def_ 12 (d := dd_level_count) rfl
 obtain ⟨d13, F13⟩ := c.def_ 13 (d := dd_levels_of) rfl
 obtain ⟨d14, F14⟩ := c.def_ 14 (d := dd_names_in) rfl
 obtain ⟨d15, F15⟩ := c.def_ 15 (d := dd_holes_in) rfl
 obtain ⟨d16, F16⟩ := c.def_ 16 (d := dd__law_mixed) rfl
 obtain ⟨d17, F17⟩ := c.def_ 17 (d := dd__law_pile) rfl
 obtain ⟨d18, F18⟩ := c.def_ 18 (d := dd__law_take) rfl
 obtain ⟨d19, F19⟩ := c.def_ 19 (d := dd__law_name) rfl
 obtain ⟨d20, F20⟩ := c.def_ 20 (d := dd__law_names) rfl
 obtain ⟨d21, F21⟩ := c.def_ 21 (d := dd__law_order) rfl
 obtain ⟨d22, F22⟩ := c.def_ 22 (d := dd__law_turn) rfl
 obtain ⟨d23, F23⟩ := c.def_ 23 (d := dd__law_holes) rfl
 obtain ⟨d24, F24⟩ := c.def_ 24 (d := dd__law_sign) rfl
 obtain ⟨d25, F25⟩ := c.def_ 25 (d := dd__law_term) rfl
 obtain ⟨d26, F26⟩ := c.def_ 26 (d := dd__law_any) rfl
 obtain ⟨d27, F27⟩ := c.def_ 27 (d := dd__law_in) rfl
 obtain ⟨d28, F28⟩ := c.def_ 28 (d := dd__law_parts) rfl
 obtain ⟨d29, F29⟩ := c.def_ 29 (d := dd__law_levels) rfl
 obtain ⟨d30, F30⟩ := c.def_ 30 (d := dd__law_own) rfl
 obtain ⟨d31, F31⟩ := c.def_ 31 (d := dd__law_is_count) rfl
 obtain ⟨d32, F32⟩ := c.def_ 32 (d := dd_law) rfl
 exact ⟨⟨He.free_ok X G (c.fact 33 (f := .free "abs") rfl),
  He.free_ok X G (c.fact 34 (f := .free "all") rfl),
  He.free_ok X G (c.fact 35 (f := .free "bool") rfl),
  He.free_ok X G (c.fact 36 (f := .free "int") rfl),
  He.free_ok X G (c.fact 37 (f := .free "isinstance") rfl),
  He.free_ok X G (c.fact 38 (f := .free "len") rfl),
  He.free_ok X G (c.fact 39 (f := .free "list") rfl),
  He.free_ok X G (c.fact 40 (f := .free "max") rfl),
  He.free_ok X G (c.fact 41 (f := .free "range") rfl),
  He.free_ok X G (c.fact 42 (f := .free "set") rfl),
  He.free_ok X G (c.fact 43 (f := .free "sorted") rfl),
  He.free_ok X G (c.fact 44 (f := .free "str") rfl),
  He.free_ok X G (c.fact 45 (f := .free "tuple") rfl),
  He.free_ok X G (c.fact 46 (f := .free "zip") rfl),
  He.str_ok X G (c.fact 47 (f := .str "FIGURES" "0123456789") rfl),
  He.str_ok X G (c.fact 48 (f := .str "GREAT" "ABCDEFGHIJKLMNOPQRSTUVWXYZ") rfl),
  He.int_ok X G (c.fact 49 (f := .int "LONGEST" 8) rfl),
  He.str_ok X G (c.fact 50 (f := .str "SMALL" "abcdefghijklmnopqrstuvwxyz") rfl),
  He.glo_ok X G (c.fact 51 (f := .glo "NoTerm") rfl),
  He.exc_ok (c.fact 52 (f := .exc "NoTerm") rfl),
  He.fAd K ("is_called", none), d0, F0, He.glo_ok X G (c.fact 0 (f := .glo "is_called") rfl),
  He.fAd K ("is_name", none), d1, F1, He.glo_ok X G (c.fact 1 (f := .glo "is_name") rfl),
  He.fAd K ("is_turn", none), d2, F2, He.glo_ok X G (c.fact 2 (f := .glo "is_turn") rfl),
  He.fAd K ("is_hole", none), d3, F3, He.glo_ok X G (c.fact 3 (f := .glo "is_hole") rfl),
  He.fAd K ("is_term", none), d4, F4, He.glo_ok X G (c.fact 4 (f := .glo "is_term") rfl),
  He.fAd K ("sure_terms", none), d5, F5, He.glo_ok X G (c.fact 5 (f := .glo "sure_terms") rfl),
  He.fAd K ("inner", none), d6, F6, He.glo_ok X G (c.fact 6 (f := .glo "inner") rfl),
  He.fAd K ("every_part", none), d7, F7, He.glo_ok X G (c.fact 7 (f := .glo "every_part") rfl),
  He.fAd K ("own_names", none), d8, F8, He.glo_ok X G (c.fact 8 (f := .glo "own_names") rfl),
  He.fAd K ("all_names", none), d9, F9, He.glo_ok X G (c.fact 9 (f := .glo "all_names") rfl),
  He.fAd K ("all_holes", none), d10, F10, He.glo_ok X G (c.fact 10 (f := .glo "all_holes") rfl),
  He.fAd K ("parts_of", none), d11, F11, He.glo_ok X G (c.fact 11 (f := .glo "parts_of") rfl),
  He.fAd K ("level_count", none), d12, F12, He.glo_ok X G (c.fact 12 (f := .glo "level_count") rfl),
  He.fAd K ("levels_of", none), d13, F13, He.glo_ok X G (c.fact 13 (f := .glo "levels_of") rfl),
  He.fAd K ("names_in", none), d14, F14, He.glo_ok X G (c.fact 14 (f := .glo "names_in") rfl),
  He.fAd K ("holes_in", none), d15, F15, He.glo_ok X G (c.fact 15 (f := .glo "holes_in") rfl),
  He.fAd K ("_law_mixed", none), d16, F16, He.glo_ok X G (c.fact 16 (f := .glo "_law_mixed") rfl),
  He.fAd K ("_law_pile", none), d17, F17, He.glo_ok X G (c.fact 17 (f := .glo "_law_pile") rfl),
  He.fAd K ("_law_take", none), d18, F18, He.glo_ok X G (c.fact 18 (f := .glo "_law_take") rfl),
  He.fAd K ("_law_name", none), d19, F19, He.glo_ok X G (c.fact 19 (f := .glo "_law_name") rfl),
  He.fAd K ("_law_names", none), d20, F20, He.glo_ok X G (c.fact 20 (f := .glo "_law_names") rfl),
  He.fAd K ("_law_order", none), d21, F21, He.glo_ok X G (c.fact 21 (f := .glo "_law_order") rfl),
  He.fAd K ("_law_turn", none), d22, F22, He.glo_ok X G (c.fact 22 (f := .glo "_law_turn") rfl),
  He.fAd K ("_law_holes", none), d23, F23, He.glo_ok X G (c.fact 23 (f := .glo "_law_holes") rfl),
  He.fAd K ("_law_sign", none), d24, F24, He.glo_ok X G (c.fact 24 (f := .glo "_law_sign") rfl),
  He.fAd K ("_law_term", none), d25, F25, He.glo_ok X G (c.fact 25 (f := .glo "_law_term") rfl),
  He.fAd K ("_law_any", none), d26, F26, He.glo_ok X G (c.fact 26 (f := .glo "_law_any") rfl),
  He.fAd K ("_law_in", none), d27, F27, He.glo_ok X G (c.fact 27 (f := .glo "_law_in") rfl),
  He.fAd K ("_law_parts", none), d28, F28, He.glo_ok X G (c.fact 28 (f := .glo "_law_parts") rfl),
  He.fAd K ("_law_levels", none), d29, F29, He.glo_ok X G (c.fact 29 (f := .glo "_law_levels") rfl),
  He.fAd K ("_law_own", none), d30, F30, He.glo_ok X G (c.fact 30 (f := .glo "_law_own") rfl),
  He.fAd K ("_law_is_count", none), d31, F31, He.glo_ok X G (c.fact 31 (f := .glo "_law_is_count") rfl),
  He.fAd K ("law", none), d32, F32, He.glo_ok X G (c.fact 32 (f := .glo "law") rfl)⟩⟩
end K11
open PySem PySem.W PySem.Calls PyProof.Rows
theorem PySem.Challenge.cw_shutnames_k11_counts_names_and_holes_holds : PySem.Challenge.rw_shutnames_k11_counts_names_and_holes.Holds := by
 w_on; o_law
 refine HandSHeadRun.head_any (r := OpenLaw.row PySem.Challenge.rw_shutnames_k11_counts_names_and_holes) (q := view (OpenLaw.row PySem.Challenge.rw_shutnames_k11_counts_names_and_holes).prog [42]) (H := K11.hk) (ob := K11.ob) (M := 30000) (loose := K11.loL) (d := HandSHeadRun.topDef (OpenLaw.row PySem.Challenge.rw_shutnames_k11_counts_names_and_holes).prog 42) (kwd := []) K11.ob_eq
  (by kernel_rfl) (fun s => by kernel_rfl) K11.run (by kernel_rfl) (by kernel_rfl) (by kernel_rfl) (by rfl) (by first | assumption | decide +kernel) (by decide +kernel) ⟨rfl, rfl, rfl, rfl, rfl, by decide +kernel⟩ ?hw ?hc
 case hw => w_witness2
 case hc =>
  refine L2.walk_ofE (l := PySem.Challenge.rw_shutnames_k11_counts_names_and_holes) (n := 63) (k := 47) (x := "_law_script") (CX := fun _ _ _ _ _ _ => False) rfl (by decide) (by kernel_rfl) ⟨rfl, by decide, by decide⟩ ?F (fun _ _ _ _ z => z)
  intro w mg fa h Y G hmg0
  obtain ⟨K, KX, c, c2⟩ := Y
  have hmg : mg ("law" : PySem.Str) = some (.ref fa) := by
   have e : (HandSHeadRun.topDef (OpenLaw.row PySem.Challenge.rw_shutnames_k11_counts_names_and_holes).prog 42).name = ("law" : PySem.Str) := by kernel_rfl
   rw [← e]
   exact hmg0
  obtain ⟨W⟩ := K11.wd KX G c c2
  have ea := hmg.symm.trans W.m_law
  cases ea
  have b := L2.FunD.bindsA (ps := ["_law_script"]) W.F_law fun _ _ _ _ _ _ us hl => match us, hl with | [_], _ => rfl
  exact ⟨K, W.d_law, DL.spLaw K, KX, fun s v => b s [v] rfl, fun H a ns hl _ hS => ⟨a, ns, rfl, hl, hS, fun _ => rfl⟩, fun base _ _ => DL.ground (K11.ok_law W) (DL.law_in K11.law_true)⟩
end

